import PyProof.Rows.All
import Wide.All
import OpenK.AllK
import Wide.FinOn
import HandS.ForMost
import HandS.DictComp
import HandS.NoneIn
import KE.GoesEnum
import HandS.SetKeys
import HandS.IsInst
import HandS.ClsMeth
import HandS.Wide
import HandS.Defaults
import PyProof.StrBlock2
import PySem.Challenge.RW_laidforall_k33_whole_overflow
import HandS.Walk
import HandS.EndBits
set_option Elab.async false
set_option linter.all false
set_option maxRecDepth 100000
set_option maxHeartbeats 4000000
/-! own rules: a dict comprehension of two clauses whose keys are tuples -/
namespace K33
open PySem PySem.Spec PyProof.Rows L2
abbrev St := L2.St

theorem turn_dc0 (kx vx t0 i0 t1 i1 : Expr) (scope : Scope) (pos : Pos) (it : Value) (D : Addr) (env : Env) :
    compTurn (.DictComp kx vx [⟨t0, i0, [], 0⟩, ⟨t1, i1, [], 0⟩] scope pos) 0 it (.ref D) env = (do
      standAt i0.pos
      match ← pyNext it with
      | none => pure (.done .next)
      | some v =>
        letOwnedTupleGo t0 it v
        assign t0 env v
        let x ← eval i1 env
        standAt i1.pos
        let x ← foldedSetIterable i1 env x
        let _ ← runOwn (.compStart (.DictComp kx vx [⟨t0, i0, [], 0⟩, ⟨t1, i1, [], 0⟩] scope pos) 1 (← holding [x] (pyIter x)) (.ref D) env) env
        again (.compLoop (.DictComp kx vx [⟨t0, i0, [], 0⟩, ⟨t1, i1, [], 0⟩] scope pos) 0 it (.ref D) env)) := by rfl
theorem turn_dc1 (kx vx t0 i0 t1 i1 : Expr) (scope : Scope) (pos : Pos) (it : Value) (D : Addr) (env : Env) :
    compTurn (.DictComp kx vx [⟨t0, i0, [], 0⟩, ⟨t1, i1, [], 0⟩] scope pos) 1 it (.ref D) env = (do
      standAt i1.pos
      match ← pyNext it with
      | none => pure (.done .next)
      | some v =>
        letOwnedTupleGo t1 it v
        assign t1 env v
        (do
            let kv ← eval kx env
            let vv ← holding [kv] (eval vx env)
            standAt { kx.pos with endLine := vx.pos.endLine, endCol := vx.pos.endCol }
            holding [kv, vv] (dictSet D kv vv))
        again (.compLoop (.DictComp kx vx [⟨t0, i0, [], 0⟩, ⟨t1, i1, [], 0⟩] scope pos) 1 it (.ref D) env)) := by rfl

/-- d[k] = v within a comprehension, the keys tuples -/
theorem put_t {X : Cx} {pins : List (Addr × Obj)} {σ : St} {H : Hp} {s : Shared} {E : Value → Shared → Prop} {D b : Addr} {kvs : List (List Key × V)} {k : List Key} {v : V} {r : Value} {Q : Unit → Shared → Prop}
    (hu : X.A.units + 1 < cLine) (I : Inv X pins σ H s) (hD : H D = some (.dT kvs)) (hz : kvs.length < sizeLine) (hb : H b = some (.tup (k.map kV))) (rv : RelV v r)
    (h : ∀ s', Inv X pins σ (upd H D (.dT (putK kvs k v))) s' → Q () s') : wpAny (model X.prog X.w) X.A (dictSet D (.ref b) r) Q E s := by
  obtain ⟨z, hd, xs, rel, dd⟩ := dt_of I.hok hD
  have z1 : xs.length ≤ sizeLine := (Paired.length rel) ▸ z
  have z2 : (putK kvs k v).length ≤ sizeLine := Nat.le_trans (length_putK kvs k v) hz
  refine wpAny_dictSet_heap (hsz := z1) (show X.A.units < cLine from Nat.lt_of_succ_lt hu) (key_of I.hok hb) dd fun h1 d1 same => h _ ?_
  obtain ⟨q, es, ep, g1, g2, g3, g4, _, g5⟩ := d1
  refine d_write I (by rw [hD]; trivial) same ⟨q, g1⟩ ⟨z2, hd, _, (rel.put k hb rv).keeps fun c ys ec => ?_, q, es, ep, g1, g2, g3, g4, g5⟩
  exact (upd_ne (ne_of ec hD nofun)).trans ec


abbrev DCx (kx vx t0 i0 t1 i1 : Expr) (scope : Scope) (pos : Pos) : Expr := .DictComp kx vx [⟨t0, i0, [], 0⟩, ⟨t1, i1, [], 0⟩] scope pos
section
variable {prog : Program} {w : World} {A : Around} {R : Result → Shared → Prop} {s : Shared} {kx vx t0 i0 t1 i1 : Expr} {scope : Scope} {pos : Pos} {it : Value} {D : Addr} {env : Env}
abbrev Nb (prog : Program) (w : World) (A : Around) (env : Env) (R : Result → Shared → Prop) : Value → Shared → Prop := notedBy (model prog w) A env fun e s' => R (.error e) s'
theorem loop_dc0 (fold : ∀ x, foldedSetIterable i1 env x = pure x) (I : Nat → Shared → Prop)
    (turn : ∀ n s, I n s → wpAny (model prog w) A (pyNext it) (fun r sa => match r with
      | none => R (.ok .next) sa
      | some v => wpAny (model prog w) A (letOwnedTupleGo t0 it v) (fun _ sb => wpAny (model prog w) A (assign t0 env v) (fun _ sc =>
          wpAny (model prog w) A (eval i1 env) (fun x sd => wpAny (model prog w) A (pyIter x) (fun it1 se =>
              codeAny (model prog w) A (.compStart (DCx kx vx t0 i0 t1 i1 scope pos) 1 it1 (.ref D) env) (fun r sf => match r with
                | .ok _ => ∃ m, m < n ∧ I m sf
                | .error _ => False) se) (Nb prog w A env R) sd) (Nb prog w A env R) sc) (Nb prog w A env R) sb) (Nb prog w A env R) sa) (Nb prog w A env R) s)
    (n : Nat) (h : I n s) : codeAny (model prog w) A (.compLoop (DCx kx vx t0 i0 t1 i1 scope pos) 0 it (.ref D) env) R s := by
  refine codeAny_loop rfl I (fun n s hI => ?_) n h
  show wpAny _ A ((compTurn (DCx kx vx t0 i0 t1 i1 scope pos) 0 it (.ref D) env).onRaise (fun x => do noteFrame x env; theTreesLotGoes x)) _ _ s
  refine wpAny_noted ?_
  rw [turn_dc0]
  refine wpAny_bind (wpAny_standAt (wpAny_bind (thn (turn n s hI) fun r sa ha => ?_)))
  cases r with
  | none => exact wpAny_pure ha
  | some v =>
    refine wpAny_bind (thn ha fun _ sb hb => wpAny_bind (thn hb fun _ sc hc => wpAny_bind (thn hc fun x sd hd => ?_)))
    refine wpAny_bind (wpAny_standAt (wpAny_bind (wpAny_of_eq (fold x) (wpAny_bind (wpAny_holding (thn hd fun it1 se he => ?_))))))
    refine wpAny_bind (wpAny_runOwn ?_)
    rw [Around.mark_none]
    refine codeAny_mono he fun r sf hr => ?_
    cases r with
    | error e => exact hr.elim
    | ok f => first | exact wpAny_pure ⟨rfl, hr⟩ | exact wpAny_bind (wpAny_pure (wpAny_pure ⟨rfl, hr⟩))
theorem loop_dc1 (I : Nat → Shared → Prop)
    (turn : ∀ n s, I n s → wpAny (model prog w) A (pyNext it) (fun r sa => match r with
      | none => R (.ok .next) sa
      | some v => wpAny (model prog w) A (letOwnedTupleGo t1 it v) (fun _ sb => wpAny (model prog w) A (assign t1 env v) (fun _ sc =>
          wpAny (model prog w) A (eval kx env) (fun kv sd => wpAny (model prog w) A (eval vx env) (fun vv se =>
              wpAny (model prog w) A (dictSet D kv vv) (fun _ sf => ∃ m, m < n ∧ I m sf) (Nb prog w A env R) se) (Nb prog w A env R) sd) (Nb prog w A env R) sc) (Nb prog w A env R) sb) (Nb prog w A env R) sa) (Nb prog w A env R) s)
    (n : Nat) (h : I n s) : codeAny (model prog w) A (.compLoop (DCx kx vx t0 i0 t1 i1 scope pos) 1 it (.ref D) env) R s := by
  refine codeAny_loop rfl I (fun n s hI => ?_) n h
  show wpAny _ A ((compTurn (DCx kx vx t0 i0 t1 i1 scope pos) 1 it (.ref D) env).onRaise (fun x => do noteFrame x env; theTreesLotGoes x)) _ _ s
  refine wpAny_noted ?_
  rw [turn_dc1]
  refine wpAny_bind (wpAny_standAt (wpAny_bind (thn (turn n s hI) fun r sa ha => ?_)))
  cases r with
  | none => exact wpAny_pure ha
  | some v =>
    refine wpAny_bind (thn ha fun _ sb hb => wpAny_bind (thn hb fun _ sc hc => wpAny_bind (wpAny_bind (thn hc fun kv sd hd => ?_))))
    exact wpAny_bind (wpAny_holding (thn hd fun vv se he => wpAny_bind (wpAny_standAt (wpAny_holding (thn he fun _ sf hf => wpAny_pure ⟨rfl, hf⟩)))))
theorem start_dc1 (h0 : codeAny (model prog w) A (.compLoop (DCx kx vx t0 i0 t1 i1 scope pos) 1 it (.ref D) env) R s)
    (h : wpAny (model prog w) A (pyIter it) (fun it' s' => codeAny (model prog w) A (.compLoop (DCx kx vx t0 i0 t1 i1 scope pos) 1 it' (.ref D) env) R s') (Nb prog w A env R) s) :
    codeAny (model prog w) A (.compStart (DCx kx vx t0 i0 t1 i1 scope pos) 1 it (.ref D) env) R s := by
  refine codeAny_of_tree ?_
  show wpAny _ _ ((compStart (DCx kx vx t0 i0 t1 i1 scope pos) 1 it (.ref D) env).onRaise (fun x => do noteFrame x env; standAt theWindowsPlace)) _ _ s
  refine wpAny_notedAt ?_
  unfold compStart
  show wpAny _ _ (ask >>= _) _ _ s
  refine wpAny_bind (wpAny_askSetting (wpAny_ite ?_))
  split
  · first | exact wpAny_pure (And.intro rfl h0) | exact wpAny_bind (wpAny_pure (wpAny_pure (And.intro rfl h0)))
  · refine wpAny_bind (wpAny_rule ?_)
    first
      | exact wpAny_bind (wpAny_standAt (wpAny_bind (thn h fun it' s' h' => wpAny_pure (And.intro rfl h'))))
      | (show wpAny _ _ (standAt i1.pos >>= _) _ _ s; exact wpAny_bind (wpAny_standAt (wpAny_bind (thn h fun it' s' h' => wpAny_pure (And.intro rfl h')))))
end

section
variable {X : Cx}
/-- {k: v for tg in iter for tg1 in iter1}: D the new dict, whose keys are tuples -/
def tDc2 (wi : TI) (g : TG) (wi1 : TI) (g1 : TG) (tk tv : TE) (vs vs1 : List Nat) : TE := fun σ H Q => wi σ H fun J H1 => ∀ D, H1 D = none → ∃ W : Nat → Nat → Hp → Prop, (∃ m, W 0 m (upd H1 D (.dT []))) ∧ ∀ i m H, W i m H →
  (J.stop i H ∧ Q (.ref D) H) ∨ (J.go i H ∧ ∃ Nx : Hp → Prop, (∀ H', Nx H' → ∃ m', m' < m ∧ W (i + 1) m' H') ∧ ∀ x H', J.yld i H x H' → g x (wipe σ vs) H' fun σ2 H2 => wipe σ2 vs = wipe σ vs ∧
    wi1 σ2 H2 fun J1 H4 => ∃ W1 : Nat → Nat → Hp → Prop, (∃ m, W1 0 m H4) ∧ ∀ j k H, W1 j k H →
      (J1.stop j H ∧ Nx H) ∨ (J1.go j H ∧ ∃ Nx1 : Hp → Prop, (∀ H', Nx1 H' → ∃ k', k' < k ∧ W1 (j + 1) k' H') ∧ ∀ x H', J1.yld j H x H' → g1 x (wipe σ2 vs1) H' fun σ3 H5 => wipe σ3 vs1 = wipe σ2 vs1 ∧
        tk σ3 H5 fun y H6 => tv σ3 H6 fun z H7 => ∃ kvs k b, y = .ref b ∧ H7 b = some (.tup (List.map kV k)) ∧ H7 D = some (.dT kvs) ∧ kvs.length < sizeLine ∧ Nx1 (upd H7 D (.dT (putK kvs k z)))))
theorem pe_dc2 {kx vx tg iter tg1 iter1 : Expr} {scope : Scope} {own : List (Str × Nat)} {vs1 : List Nat} {pos : Pos} {wi wi1 : TI} {g g1 : TG} {tk tv : TE} (hu : X.A.units + 1 < cLine) (hc : X.calm = true) (hN : X.N.Nodup) (hi : PI X tg iter wi)
    (ok : BlkOk X.N X.env.scope scope own) (hv : ∀ i ∈ vs1, i ∈ own.map (·.2))
    (hg : ∀ (s : Shared) (H : Hp) (C : Addr) (cl : List (Str × Addr)) (fp : List Addr), PG (X.blk s H scope (compEnvC scope cl C X.env) fp) tg g)
    (hi1 : ∀ (s : Shared) (H : Hp) (C : Addr) (cl : List (Str × Addr)) (fp : List Addr), PI (X.blk s H scope (compEnvC scope cl C X.env) fp) tg1 iter1 wi1)
    (hg1 : ∀ (s : Shared) (H : Hp) (C : Addr) (cl : List (Str × Addr)) (fp : List Addr), PG (X.blk s H scope (compEnvC scope cl C X.env) fp) tg1 g1)
    (hk : ∀ (s : Shared) (H : Hp) (C : Addr) (cl : List (Str × Addr)) (fp : List Addr), PE (X.blk s H scope (compEnvC scope cl C X.env) fp) kx tk)
    (he : ∀ (s : Shared) (H : Hp) (C : Addr) (cl : List (Str × Addr)) (fp : List Addr), PE (X.blk s H scope (compEnvC scope cl C X.env) fp) vx tv)
    (hs : ∀ x, foldedSetIterable iter X.env x = pure x := by intro _; rfl) (hs1 : ∀ env x, foldedSetIterable iter1 env x = pure x := by intro _ _; rfl) :
    PE X (.DictComp kx vx [⟨tg, iter, [], 0⟩, ⟨tg1, iter1, [], 0⟩] scope pos) (tDc2 wi g wi1 g1 tk tv (own.map (·.2)) vs1) := by
  refine ⟨fun pins s σ H Q I h => ?_⟩
  rw [arm_eval_DictComp]
  have caps : ∀ y ∈ scope.names, y.2 = .free → ∃ c, X.env.cells.lookup y.1 = some c := fun y hy e => (ok.free y hy e).elim (fun k => I.ok.has _ (.inl k)) fun k => I.ok.has _ (.inr k)
  refine wpAny_comprehension_free (use := Option.none) rfl hs (closure_ok caps) ok.kind (fun y hy e => by rw [ok.uniq y hy, e]) (thn (hi.run pins s σ H _ I h) fun xv s1 hx => thn hx fun itv s2 h2 => ?_)
  obtain ⟨it, fp, tn, J, H2, e, I2, T, st2, f2, q⟩ := h2
  subst e
  refine wpAny_newObj_type (newEnv_comp ?_)
  generalize hD : s2.heap.objs.size = D
  have freeD : H2 D = none := I2.hok.fresh (Nat.le_of_eq hD)
  obtain ⟨W, ⟨m0, w0⟩, turn⟩ := q D freeD
  generalize hs3 : ({ s2 with heap := s2.heap.push { cls := .type "dict", data := .dict #[] } } : Shared) = s3
  have I3 : Inv X pins σ (upd H2 D (.dT [])) s3 := by
    subst hs3
    subst hD
    exact I2.laid (t' := s2.toks) (fun b o e => Heap.get?_push_of_some _ e) (Nat.le_refl _) (dt_empty s2.heap I2.big)
  have h3 : s3.heap = s2.heap.push { cls := .type "dict", data := .dict #[] } := by rw [← hs3]
  have f3 : ∀ b ∈ fp, FpOk X pins (upd H2 D (.dT [])) b ∧ b < s3.heap.objs.size := fun b hb => by
    obtain ⟨o, e, _⟩ := T.obj _ _ st2 b hb
    have lt := Heap.lt_size e
    have ne : b ≠ D := fun z => absurd lt (by rw [z, ← hD]; exact Nat.lt_irrefl _)
    exact ⟨⟨(upd_ne ne).trans (f2 b hb).1, (f2 b hb).2⟩, by rw [h3, Heap.size_push]; exact Nat.lt_succ_of_lt lt⟩
  have st3 : tn 0 s3.heap := T.keep _ _ _ st2 fun b _ o e => by rw [h3]; exact Heap.get?_push_of_some _ e
  have I4 := block_start I3 ok hN f3
  have pg := hg s3 (upd H2 D (.dT [])) s3.heap.objs.size (cellsFrom (s3.heap.objs.size + 1) scope.names (cloFrom X.env.cells scope.names [])) fp
  have pi1 := hi1 s3 (upd H2 D (.dT [])) s3.heap.objs.size (cellsFrom (s3.heap.objs.size + 1) scope.names (cloFrom X.env.cells scope.names [])) fp
  have pg1 := hg1 s3 (upd H2 D (.dT [])) s3.heap.objs.size (cellsFrom (s3.heap.objs.size + 1) scope.names (cloFrom X.env.cells scope.names [])) fp
  have pk := hk s3 (upd H2 D (.dT [])) s3.heap.objs.size (cellsFrom (s3.heap.objs.size + 1) scope.names (cloFrom X.env.cells scope.names [])) fp
  have pe := he s3 (upd H2 D (.dT [])) s3.heap.objs.size (cellsFrom (s3.heap.objs.size + 1) scope.names (cloFrom X.env.cells scope.names [])) fp
  generalize hQf : (fun v s' => EP X pins σ Q v s') = Qf
  show codeAny _ _ (.compStart (DCx kx vx tg iter tg1 iter1 scope pos) 0 (.ref it) (.ref D) (compEnvC scope (cellsFrom (s3.heap.objs.size + 1) scope.names (cloFrom X.env.cells scope.names [])) s3.heap.objs.size X.env))
    (compPost (model X.prog X.w) X.A X.xe none (EP X pins σ Q) (.ref D) s3.heap.objs.size) { s3 with heap := pushCells (s3.heap.push { cls := .type "dict", data := .dict #[] }) scope.names }
  have nfp : ∀ b ∈ fp, (upd H2 D (.dT [])) b = none := fun b hb => (f3 b hb).1.1
  generalize hce : compEnvC scope (cellsFrom (s3.heap.objs.size + 1) scope.names (cloFrom X.env.cells scope.names [])) s3.heap.objs.size X.env = ce at I4 pg pi1 pg1 pk pe ⊢
  have cL : ce.locals = s3.heap.objs.size := by rw [← hce]; rfl
  generalize hH3 : upd H2 D (.dT []) = H3 at I3 I4 pg pi1 pg1 pk pe w0 nfp f3
  generalize hs4 : ({ s3 with heap := pushCells (s3.heap.push { cls := .type "dict", data := .dict #[] }) scope.names } : Shared) = s4 at I4 ⊢
  have st4 : tn 0 s4.heap := T.keep _ _ _ st3 fun b _ o e => by rw [← hs4]; exact pushCells_keeps _ _ _ _ (Heap.get?_push_of_some _ e)
  have stat : ∀ {σ' : St} {H' : Hp} {s' : Shared}, Inv (X.blk s3 H3 scope ce fp) [] σ' H' s' → (∀ b ∈ fp, H' b = none) → ∀ b ∈ fp, FpOk (X.blk s3 H3 scope ce fp) [] H' b := fun {σ' H' s'} I' hn b hb =>
    ⟨hn b hb, (I'.ok.exf b hb).1, I'.ok.exfs b hb, .inl hb, fun x c e => (I'.ok.exf b hb).2 x c e, fun p hp => nomatch (show p ∈ ([] : List (Addr × Obj)) from hp)⟩
  have loop : codeAny (model X.prog X.w) X.A (.compLoop (DCx kx vx tg iter tg1 iter1 scope pos) 0 (.ref it) (.ref D) ce) (compPost (model X.prog X.w) X.A X.xe none (EP X pins σ Q) (.ref D) s3.heap.objs.size) s4 := by
    refine loop_dc0 (hs1 ce) (fun n s' => ∃ i H', Inv (X.blk s3 H3 scope ce fp) [] (wipe σ (own.map (·.2))) H' s' ∧ tn i s'.heap ∧ (∀ b ∈ fp, H' b = none) ∧ W i n H') ?_ m0 ⟨0, H3, I4, st4, nfp, w0⟩
    rintro n s5 ⟨i, H5, I5, st5, n5, w5⟩
    rcases turn i n H5 w5 with ⟨stop, qq⟩ | ⟨go, Nx, hNx, step⟩
    · refine thnF (T.done (X.blk s3 H3 scope ce fp) rfl rfl rfl hc i [] s5 _ H5 (fun _ _ => False) I5 (stat I5 n5) st5 stop) fun r s6 ⟨hr, I6⟩ => ?_
      subst hr
      have I7 : Inv X pins σ H5 s6 := I3.call' (ch := fp) I6.os I6.base I6.hok I6.bare fun b hb => ⟨(f3 b hb).1.2.2.2.1, (f3 b hb).1.2.1, (f3 b hb).1.2.2.2.2.1, (f3 b hb).1.2.2.2.2.2⟩
      have nC : H5 s3.heap.objs.size = none := cL ▸ (show H5 ce.locals = none from I6.free)
      obtain ⟨m, hn, _⟩ := I6.loc
      have hn : s6.heap.Ns ce.locals m := hn
      rw [cL] at hn
      obtain ⟨f0, f1, fx, fy, fz, fw⟩ := I3.fpOk (H' := H5) (Nat.le_refl _) nC
      refine ⟨m, hn, fun h'' sb => ⟨.ref D, H5, I7.turned (t' := s6.toks) (fun b o hb e => (sb.2 b hb).trans e) f0 f1 fy fz fw, rfl, qq⟩⟩
    · refine thnF (T.item (X.blk s3 H3 scope ce fp) rfl rfl rfl hc i [] s5 _ H5 (fun _ _ => False) I5 (stat I5 n5) st5 go) fun r s6 ⟨u, hr, h6⟩ => ?_
      subst hr
      refine thnF h6 fun _ s7 ⟨x, H7, I7, r7, y7, st7, n7⟩ => ?_
      have I7' := I7.pinned (stat I7 n7) (T.obj _ _ st7)
      refine thnF (pg.run _ s7 _ H7 x u _ I7' r7 (step x H7 y7)) fun _ s8 ⟨σ8, H8, I8, hw8, q8⟩ => ?_
      have pin7 : ∀ {P' : List (Addr × Obj)} {σ9 : St} {s' : Shared} {H' : Hp}, Inv (X.blk s3 H3 scope ce fp) ([] ++ pinsAt fp s7.heap) σ9 H' s' → ∀ b ∈ fp, ∀ o, s7.heap.get? b = some o → s'.heap.get? b = some o ∧ H' b = none := fun {P' σ9 s' H'} I' b hb o e =>
        let z := I'.pin (b, o) (List.mem_append_right _ (List.mem_append_right _ (mem_pinsAt hb e)))
        ⟨z.1, z.2.1⟩
      have fin : ∀ {σ9 : St} {s' : Shared} {H' : Hp}, Inv (X.blk s3 H3 scope ce fp) ([] ++ pinsAt fp s7.heap) σ9 H' s' → (wipe σ (own.map (·.2))).length = σ9.length → (∀ (j : Nat) v, (wipe σ (own.map (·.2)))[j]? = some (some v) → σ9[j]? = some (some v)) → Nx H' →
          ∃ m, m < n ∧ ∃ i H', Inv (X.blk s3 H3 scope ce fp) [] (wipe σ (own.map (·.2))) H' s' ∧ tn i s'.heap ∧ (∀ b ∈ fp, H' b = none) ∧ W i m H' := fun {σ9 s' H'} I' hl hk nx => by
        obtain ⟨m', hm, w'⟩ := hNx H' nx
        refine ⟨m', hm, i + 1, H', (I'.unpinned (pins := [])).weak hl hk, T.keep _ _ _ st7 fun b hb o e => (pin7 (P' := []) I' b hb o e).1, fun b hb => ?_, w'⟩
        obtain ⟨o, e, _⟩ := T.obj _ _ st7 b hb
        exact (pin7 (P' := []) I' b hb o e).2
      have hk8 : ∀ (j : Nat) v, (wipe σ (own.map (·.2)))[j]? = some (some v) → (wipe σ8 vs1)[j]? = some (some v) := fun j v e => by
        rw [← hw8] at e
        have e2 := wipe_some e
        rw [wipe_out fun z => e2.2 (hv j z)]
        exact e2.1
      have hl8 : (wipe σ (own.map (·.2))).length = (wipe σ8 vs1).length := by rw [← hw8, wipe_length, wipe_length]
      refine thnF (pi1.run _ s8 σ8 H8 _ I8 q8) fun xv s10 hx => thnF hx fun itv s11 h11 => ?_
      obtain ⟨it1, fp1, tn1, J1, H11, e1, I11, T1, st11, f11, W1, ⟨m1, w1⟩, turn1⟩ := h11
      subst e1
      have stat1 : ∀ {H' : Hp}, (∀ b ∈ fp1, H' b = none) → ∀ b ∈ fp1, FpOk (X.blk s3 H3 scope ce fp) ([] ++ pinsAt fp s7.heap) H' b := fun hn b hb => ⟨hn b hb, (f11 b hb).2⟩
      have inner : codeAny (model X.prog X.w) X.A (.compLoop (DCx kx vx tg iter tg1 iter1 scope pos) 1 (.ref it1) (.ref D) ce)
          (fun r s' => match r with
            | .ok _ => ∃ m, m < n ∧ ∃ i H', Inv (X.blk s3 H3 scope ce fp) [] (wipe σ (own.map (·.2))) H' s' ∧ tn i s'.heap ∧ (∀ b ∈ fp, H' b = none) ∧ W i m H'
            | .error _ => False) s11 := by
        refine loop_dc1 (fun k s' => ∃ j H', Inv (X.blk s3 H3 scope ce fp) ([] ++ pinsAt fp s7.heap) (wipe σ8 vs1) H' s' ∧ tn1 j s'.heap ∧ (∀ b ∈ fp1, H' b = none) ∧ W1 j k H') ?_ m1 ⟨0, H11, I11.weak (wipe_length _ _) (fun j v e => (wipe_some e).1), st11, fun b hb => (f11 b hb).1, w1⟩
        rintro k s12 ⟨j, H12, I12, st12, n12, w12⟩
        rcases turn1 j k H12 w12 with ⟨stop1, nx1⟩ | ⟨go1, Nx1, hNx1, step1⟩
        · refine thnF (T1.done (X.blk s3 H3 scope ce fp) rfl rfl rfl hc j _ s12 (wipe σ8 vs1) H12 (fun _ _ => False) I12 (stat1 n12) st12 stop1) fun r s13 ⟨hr, I13⟩ => ?_
          subst hr
          exact fin I13 hl8 hk8 nx1
        · refine thnF (T1.item (X.blk s3 H3 scope ce fp) rfl rfl rfl hc j _ s12 (wipe σ8 vs1) H12 (fun _ _ => False) I12 (stat1 n12) st12 go1) fun r s13 ⟨u1, hr, h13⟩ => ?_
          subst hr
          refine thnF h13 fun _ s14 ⟨x1, H14, I14, r14, y14, st14, n14⟩ => ?_
          have I14' := I14.pinned (stat1 n14) (T1.obj _ _ st14)
          refine thnF (pg1.run _ s14 (wipe σ8 vs1) H14 x1 u1 _ I14' r14 (step1 x1 H14 y14)) fun _ s15 ⟨σ15, H15, I15, hw15, q15⟩ => ?_
          have fin1 : ∀ {s' : Shared} {H' : Hp}, Inv (X.blk s3 H3 scope ce fp) (([] ++ pinsAt fp s7.heap) ++ pinsAt fp1 s14.heap) σ15 H' s' → Nx1 H' → ∃ m, m < k ∧ ∃ j H', Inv (X.blk s3 H3 scope ce fp) ([] ++ pinsAt fp s7.heap) (wipe σ8 vs1) H' s' ∧ tn1 j s'.heap ∧ (∀ b ∈ fp1, H' b = none) ∧ W1 j m H' := fun {s' H'} I' nx => by
            obtain ⟨m', hm, w'⟩ := hNx1 H' nx
            have pin' : ∀ b ∈ fp1, ∀ o, s14.heap.get? b = some o → s'.heap.get? b = some o ∧ H' b = none := fun b hb o e =>
              let z := I'.pin (b, o) (List.mem_append_right _ (List.mem_append_right _ (mem_pinsAt hb e)))
              ⟨z.1, z.2.1⟩
            refine ⟨m', hm, j + 1, H', I'.unpinned.weak (by rw [← hw15, wipe_length]) (fun j v e => by rw [← hw15] at e; exact (wipe_some e).1), T1.keep _ _ _ st14 fun b hb o e => (pin' b hb o e).1, fun b hb => ?_, w'⟩
            obtain ⟨o, e, _⟩ := T1.obj _ _ st14 b hb
            exact (pin' b hb o e).2
          refine thnF (pk.run _ s15 σ15 H15 _ I15 q15) fun kz s16 ⟨yk, H16, I16, r16, q16⟩ => ?_
          refine thnF (pe.run _ s16 σ15 H16 _ I16 q16) fun vz s17 ⟨yv, H17, I17, r17, kvs, kk, b, ey, hb, hD17, hz17, nx⟩ => ?_
          subst ey
          cases r16
          exact put_t (X := X.blk s3 H3 scope ce fp) hu I17 hD17 hz17 hb r17 fun s18 I18 => fin1 I18 nx
      exact start_dc1 inner (T1.self X.A 0 _ _ _ st11 inner)
  exact codeAny_compStart_dict loop (T.self X.A 0 _ _ _ st4 loop)
end
end K33
set_option Elab.async false
set_option linter.all false
set_option maxRecDepth 100000
set_option maxHeartbeats 4000000
/-! own rules: zip of two texts, enumerate of a text, match of a list of two, * of very great ints -/
namespace K33
open PySem PySem.Spec PyProof.Rows L2

/-- turns that give new tuples -/
def Itp (n : Nat) (f : Nat → List V) : It :=
  ⟨fun i _ => i < n, fun i H v H' => ∃ T, v = .ref T ∧ H T = none ∧ H' = upd H T (.tup (f i)), fun i _ => i = n⟩
theorem turn_wt {P : Program} {w : World} {K : PySem.W.Frag} {elts : List Expr} {kk : Nat} {tpos : Pos} {e : Addr} {fp wr : List Addr} {n : Nat} {Pt : Nat → Array Value → Prop} {St : Nat → Heap → Prop} {Mid : Nat → Addr → Heap → Prop} {f : Nat → List V}
    (hm : e ∈ fp) (W : ∀ A : Around, A.handled = none → WalksT P w A e fp wr n Pt St Mid) (hP : ∀ i vals, Pt i vals → Vals (f i) vals.toList ∧ (f i).length ≤ 2)
    (obj : ∀ i h, St i h → ∀ b ∈ fp, ∃ o, h.get? b = some o ∧ ∀ v, o.data ≠ .cell v) (self : ∀ (A : Around) (i : Nat) (s : Shared) (Q : Value → Shared → Prop) (E : Value → Shared → Prop), St i s.heap → Q (.ref e) s → wpAny (model P w) A (pyIter (.ref e)) Q E s) :
    Turn P w K (.Tuple elts kk tpos) (Itp n f) fp e St where
  mem := hm
  obj := obj
  keep := fun i h h' st k => (W callerA rfl).frame i h h' st k
  item := by
    intro X hP' hw hK hc i pins s σ H E I hf st hg
    subst hP' hw hK
    have Wk := W X.A (I.ok.hd hc)
    refine Wk.item i s _ _ hg st fun T vals h1 tk hp hT tup mid keep1 => ⟨_, rfl, ?_⟩
    refine Wk.go elts kk tpos i T { s with heap := h1, toks := tk } _ _ mid fun h2 st2 keep2 => ?_
    obtain ⟨rv, hl⟩ := hP i vals hp
    have tup2 : h2.IsTuple T vals := by
      obtain ⟨o, ho, r⟩ := tup
      exact ⟨o, keep2 T o (Wk.apart i T h1 mid) ho, r⟩
    have fresh : H T = none := I.hok.fresh hT
    have new : ObjOk X.prog X.w (upd H T (.tup (f i))) h2 T (.tup (f i)) := ⟨Nat.le_trans hl (by decide), vals.toList, rv, by rw [Array.toArray_toList]; exact tup2⟩
    have I1 : Inv X pins σ (upd H T (.tup (f i))) { s with heap := h2, toks := tk } :=
      I.turnedNew (ch := wr) (fun b o hb q => keep2 b o hb (keep1 b o hb q)) (fun b hb => hf b (Wk.sub b hb)) hT new
    refine ⟨.ref T, _, I1, rfl, ⟨T, rfl, fresh, rfl⟩, st2, fun b hb => ?_⟩
    obtain ⟨o, ho, _⟩ := obj i s.heap st b hb
    exact (upd_ne (Nat.ne_of_lt (Nat.lt_of_lt_of_le (Heap.lt_size ho) hT))).trans (hf b hb).1
  done := by
    intro X hP' hw hK hc i pins s σ H E I hf st hg
    subst hP' hw hK
    have e1 : i = n := hg
    subst e1
    have Wk := W X.A (I.ok.hd hc)
    exact Wk.done s _ _ st fun h1 tk k => ⟨rfl, I.turnedL (ch := wr) k fun b hb => hf b (Wk.sub b hb)⟩
  self := self

/-! ### zip(x, y) of two texts -/
def fZipS (x y : Str) (i : Nat) : List V := [.str ⟨#[x.cps.getD i 0]⟩, .str ⟨#[y.cps.getD i 0]⟩]
def iZipS (ta : TA) : TI := fun σ H R => ta σ H fun vs H1 => ∃ x y : Str, vs = [.str x, .str y] ∧ R (Itp (min x.cps.size y.cps.size) (fZipS x y)) H1
theorem iter_obj {h : Heap} {it : Addr} {ty : String} {x : Str} {t : Tok} {i : Nat} (st : h.IsStrIter it ty x t i) : ∃ o, h.get? it = some o ∧ ∀ v, o.data ≠ .cell v := by
  obtain ⟨o, e, c, d⟩ := st
  exact ⟨o, e, fun v z => by rw [d] at z; cases z⟩
theorem pi_zipS {X : Cx} {e e2 : Expr} {ta : TA} {p pos tpos : Pos} {elts : List Expr} {kk : Nat} (hc : X.calm = true) (hg : Gl X "zip") (hm : X.mg "zip" = none) (ha : PA X [e, e2] ta)
    (hs : starEach [e, e2] X.env = (false, eval e X.env) :: starEach [e2] X.env := by rfl) (hpl : (backTo pos (starEach [e2] X.env)).any (·.1) = false := by rfl) :
    PI X (.Tuple elts kk tpos) (.Call (.Name "zip" p) [e, e2] [] pos) (iZipS ta) := by
  refine ⟨fun pins s σ H R I h => ?_⟩
  refine Call_ (ld_blt I hg hm PyProof.Rows.boot_zip (PyProof.Rows.callWith_type1 (thn (ha.run pos pins s σ H _ I h) fun us s1 ⟨vs, H1, I1, r1, q1⟩ => ?_) hs hpl))
  obtain ⟨x, y, ex, q⟩ := q1
  subst ex
  obtain ⟨u1, u2, rfl, ⟨t1, rfl⟩, ⟨t2, rfl⟩⟩ := Vals.two r1
  refine zip_begins2 (begins_text x t1) (begins_text y t2) trivial trivial fun h1 hz hTI hTO g1 g2 hsz hk => ?_
  refine wpAny_pyIter_zip hz ?_
  have I2 : Inv X pins σ H1 { s1 with heap := h1 } := I1.kept (t' := s1.toks) hk
  have sep := zip_sep2 (N := s1.heap.objs.size) (fp1 := []) (fp2 := []) (fun _ z => nomatch z) (fun _ z => nomatch z)
  refine ⟨s1.heap.objs.size + 4, [s1.heap.objs.size + 4, s1.heap.objs.size + 2, s1.heap.objs.size + 3, s1.heap.objs.size, s1.heap.objs.size + 1], _, Itp (min x.cps.size y.cps.size) (fZipS x y), H1, rfl, I2,
    turn_wt (by simp) (fun A hA => WalksT.zipD2 sep (Draws.text (A := A.in1) hA s1.heap.objs.size x t1) (Draws.text (A := A.in1) hA (s1.heap.objs.size + 1) y t2)) ?_ ?_ (fun A i s Q E st h => wpAny_pyIter_zip st.1 h),
    ⟨hz, hTI, ⟨_, _, hTO⟩, ⟨_, g1, rfl, rfl⟩, ⟨_, g2, rfl, rfl⟩⟩, ?_, q⟩
  · rintro i vals ⟨x1, x2, ⟨c1, k1, h1, rfl⟩, ⟨c2, k2, h2, rfl⟩, rfl⟩
    have e1 : x.cps.getD i 0 = c1 := by simp [Array.getD_eq_getD_getElem?, h1]
    have e2 : y.cps.getD i 0 = c2 := by simp [Array.getD_eq_getD_getElem?, h2]
    unfold fZipS
    rw [e1, e2]
    exact ⟨.cons ⟨_, rfl⟩ (.cons ⟨_, rfl⟩ .nil), Nat.le_refl 2⟩
  · rintro i h ⟨hz', hTI', ⟨a1, a2, hTO'⟩, s1', s2'⟩ b hb
    simp only [List.mem_cons, List.mem_append, List.not_mem_nil, or_false, false_or] at hb
    rcases hb with z | z | z | z | z
    · rw [z]; exact ⟨_, hz', fun v q => nomatch q⟩
    · rw [z]; exact ⟨_, hTI', fun v q => nomatch q⟩
    · rw [z]; exact ⟨_, hTO', fun v q => nomatch q⟩
    · rw [z]; exact iter_obj s1'
    · rw [z]; exact iter_obj s2'
  · intro b hb
    have hle : s1.heap.objs.size ≤ b := by
      simp only [List.mem_cons, List.not_mem_nil, or_false] at hb
      rcases hb with z | z | z | z | z
      all_goals first | (rw [z]; exact Nat.le_add_right _ _) | (rw [z]; exact Nat.le_refl _)
    exact I1.fpOk hle (I1.hok.fresh hle)
/-! ### enumerate(x) of a text -/
def fEnumS (x : Str) (i : Nat) : List V := [.int (i : Int), .str ⟨#[x.cps.getD i 0]⟩]
def iEnumS (ta : TA) : TI := fun σ H R => ta σ H fun vs H1 => ∃ x : Str, vs = [.str x] ∧ R (Itp x.cps.size (fEnumS x)) H1
theorem pi_enumS {X : Cx} {e : Expr} {ta : TA} {p pos tpos : Pos} {elts : List Expr} {kk : Nat} (hg : Gl X "enumerate") (hm : X.mg "enumerate" = none) (ha : PA X [e] ta) (hs : starEach [e] X.env = [(false, eval e X.env)] := by rfl) :
    PI X (.Tuple elts kk tpos) (.Call (.Name "enumerate" p) [e] [] pos) (iEnumS ta) := by
  refine ⟨fun pins s σ H R I h => ?_⟩
  refine Call_ (ld_blt I hg hm boot_enumerate (PyProof.Rows.callWith_type1 (thn (ha.run pos pins s σ H _ I h) fun us s1 ⟨vs, H1, I1, r1, q1⟩ => ?_) hs rfl))
  obtain ⟨x, ex, q⟩ := q1
  subst ex
  obtain ⟨u1, rfl, ⟨t1, rfl⟩⟩ := Vals.one r1
  refine call_enumerate_str fun h1 he hit hsz hk => wpAny_pyIter_enum he ?_
  have I2 : Inv X pins σ H1 { s1 with heap := h1 } := I1.kept (t' := s1.toks) hk
  have ne : s1.heap.objs.size + 1 ≠ s1.heap.objs.size := Nat.succ_ne_self _
  refine ⟨s1.heap.objs.size + 1, [s1.heap.objs.size + 1, s1.heap.objs.size], _, Itp x.cps.size (fEnumS x), H1, rfl, I2,
    turn_wt (by simp) (fun A hA => WalksT.enumFrom 0 (Draws.text (A := A.in1) hA s1.heap.objs.size x t1) (s1.heap.objs.size + 1) ne (by simpa using ne) (by simp)) ?_ ?_ (fun A i s Q E st h => let ⟨⟨_, z⟩, _⟩ := st; wpAny_pyIter_enum z h),
    ⟨⟨_, by simpa using he⟩, hit⟩, ?_, q⟩
  · rintro i vals ⟨t, v, ⟨c1, k1, h1, rfl⟩, rfl⟩
    have e1 : x.cps.getD i 0 = c1 := by simp [Array.getD_eq_getD_getElem?, h1]
    unfold fEnumS
    rw [e1]
    exact ⟨.cons ⟨t, by rw [Int.zero_add]⟩ (.cons ⟨_, rfl⟩ .nil), Nat.le_refl 2⟩
  · rintro i h ⟨⟨old, he'⟩, s1'⟩ b hb
    simp only [List.mem_cons, List.not_mem_nil, or_false] at hb
    rcases hb with z | z
    · rw [z]; exact ⟨_, he', fun v q => nomatch q⟩
    · rw [z]; exact iter_obj s1'
  · intro b hb
    have hle : s1.heap.objs.size ≤ b := by
      simp only [List.mem_cons, List.not_mem_nil, or_false] at hb
      rcases hb with z | z
      all_goals first | (rw [z]; exact Nat.le_add_right _ _) | (rw [z]; exact Nat.le_refl _)
    exact I1.fpOk hle (I1.hok.fresh hle)
/-- walks over new tuples, the forms one uses -/
theorem for_itp {n : Nat} {f : Nat → List V} {g : TG} {tb : TS} {D : Ends} {σ : St} {H : Hp} (Pv : Nat → St → Hp → Prop) (h0 : Pv 0 σ H)
    (hs : ∀ i T σ H, i < n → Pv i σ H → H T = none → g (.ref T) σ (upd H T (.tup (f i))) fun σ2 H2 => tb { D with nx := Pv (i + 1), ct := Pv (i + 1), bk := D.nx } σ2 H2) (hd : ∀ σ H, Pv n σ H → D.nx σ H) :
    ∃ W : Nat → Nat → St → Hp → Prop, (∃ m, W 0 m σ H) ∧ ∀ i m σ H, W i m σ H →
      ((Itp n f).stop i H ∧ D.nx σ H) ∨ ((Itp n f).go i H ∧ ∃ N : St → Hp → Prop, (∀ σ' H', N σ' H' → ∃ m', m' < m ∧ W (i + 1) m' σ' H') ∧ ∀ x H', (Itp n f).yld i H x H' → g x σ H' fun σ2 H2 => tb { D with nx := N, ct := N, bk := D.nx } σ2 H2) := by
  refine ⟨fun i m σ H => m = n - i ∧ i ≤ n ∧ Pv i σ H, ⟨n, rfl, Nat.zero_le _, h0⟩, ?_⟩
  rintro i m σ H ⟨rfl, hi, p⟩
  by_cases hlt : i < n
  · refine .inr ⟨hlt, Pv (i + 1), fun σ' H' p' => ⟨n - (i + 1), by omega, rfl, hlt, p'⟩, ?_⟩
    rintro x H' ⟨T, rfl, nT, rfl⟩
    exact hs i T σ H hlt p nT
  · have e : i = n := by omega
    subst e
    exact .inl ⟨rfl, hd σ H p⟩

/-! ### match e: case [x, y]: .. -/
def tMatch2 (K : PySem.W.Frag) (te : TE) (i j : Nat) (tb : TS) : TS := fun D σ H => te σ H fun x H1 => ∃ a v w, x = .ref a ∧ SqL K H1 a [v, w] ∧ tb D ((σ.set i (some v)).set j (some w)) H1
theorem ps_match2 {X : Cx} {subj : Expr} {te : TE} {i j : Nat} {x y : Str} {p1 p2 p3 pos : Pos} {body : List Stmt} {tb : TS} (hc : X.calm = true) (hN : X.N.Nodup) (hi : X.N[i]? = some x) (hj : X.N[j]? = some y)
    (hx : X.env.scope.names.lookup x = some .local) (hy : X.env.scope.names.lookup y = some .local) (he : PE X subj te) (hb : PSs X body tb) :
    PS X (.Match subj [⟨.MatchSequence [.MatchAs none (some x) p1, .MatchAs none (some y) p2] p3, none, body⟩] pos) (tMatch2 X.K te i j tb) := by
  refine ⟨fun pins s σ H D I h => wpAny_Match (thn (he.run pins s σ H _ I h) fun v s1 ⟨z, H1, I1, r1, q1⟩ => ?_)⟩
  obtain ⟨a, v1, v2, rfl, hq, q⟩ := q1
  cases r1
  obtain ⟨its, rv, pl, hz⟩ := I1.list hq
  obtain ⟨u1, u2, rfl, ru1, ru2⟩ := Vals.two rv
  have hl : s1.heap.IsList a [u1, u2].toArray := by
    obtain ⟨o, m, e, c, d, w⟩ := pl
    exact ⟨o, e, c, m, w⟩
  refine wpAny_matchCases_cons (matchSeq_list_hit hl (by show ((2 : Nat) : Int) < 2 ^ 63; decide) rfl ?_)
  refine PySem.W.kun_itemsOf (items := [u1, u2].toArray) (I1.ok.hd hc) hl fun h2 hx2 => ?_
  have I2 : Inv X pins σ H1 { s1 with heap := h2, toks := s1.toks + 1 + 1 } := I1.kept (t' := s1.toks + 1 + 1) fun b o e => hx2 b o (Nat.ne_of_lt (Heap.lt_size e)) e
  refine wpAny_matchEach_cons (wpAny_matchPattern_Capture (wpAny_matchEach_cons (wpAny_matchPattern_Capture (wpAny_matchEach_nil ?_))))
  show wpAny _ _ (assignInOrder [bindName X.env x, bindName X.env y] [u1, u2]) _ _ _
  refine wpAny_assignInOrder_more (wpAny_bindName (store_ok I2 hN hi (.inl hx) ru1 (fun s3 I3 => ?_) (.inr hx)))
  refine wpAny_assignInOrder_more (wpAny_bindName (store_ok I3 hN hj (.inl hy) ru2 (fun s4 I4 => ?_) (.inr hy)))
  exact wpAny_assignInOrder_none (hb.run pins s4 _ H1 D I4 q)
/-! ### great products -/
theorem op_mulZ {X : Cx} : OpR X (binaryOp .Mult) (rI IntMulOk fun i j => .int (i * j)) := opI fun _ _ _ _ _ _ _ hc q => mul_int q hc
end K33
set_option Elab.async false
set_option linter.all false
set_option maxRecDepth 100000
set_option maxHeartbeats 4000000
/-! texts as lists of codes, heaps that only grow, calls -/
namespace K33
open PySem PySem.Spec PyProof.Rows L2
/-! ### texts -/
/-- the text of these codes -/
abbrev T (l : List Nat) : V := .str ⟨l.toArray⟩
theorem T_inj {a b : List Nat} (h : T a = T b) : a = b := by
  have h1 : (⟨a.toArray⟩ : Str) = ⟨b.toArray⟩ := V.str.inj h
  have h2 : a.toArray = b.toArray := congrArg Str.cps h1
  simpa using h2
theorem dec_T (a b : List Nat) : decide (T a = T b) = decide (a = b) := by
  by_cases h : a = b
  · subst h; simp
  · rw [decide_eq_false h, decide_eq_false fun q => h (T_inj q)]
theorem app_T (a b : List Nat) : ((⟨a.toArray⟩ : Str) ++ (⟨b.toArray⟩ : Str)) = ⟨(a ++ b).toArray⟩ := TL.ext_tl (by rw [TL.tl_append])
theorem len_T (a : List Nat) : (⟨a.toArray⟩ : Str).length = a.length := by simp [Str.length]
section
variable {X : Cx}
def rAddT : R2 := fun x y H Q => ∃ a b, x = T a ∧ y = T b ∧ a.length + b.length ≤ sizeLine ∧ Q (T (a ++ b)) H
theorem tx_add : OpR X (binaryOp .Add) rAddT := fun pins s σ H x y v u Q I rx ry h => by
  obtain ⟨a, b, rfl, rfl, hl, q⟩ := h
  exact op_add_str pins s σ H _ _ v u Q I rx ry ⟨_, _, rfl, rfl, by rw [len_T, len_T]; exact hl, by rw [app_T]; exact q⟩
def rLtT : R2 := fun x y H Q => ∃ a b, x = T a ∧ y = T b ∧ Q (.bl (decide (a < b))) H
theorem tx_lt : OpR X (compareOp .Lt) rLtT := fun pins s σ H x y v u Q I rx ry h => by
  obtain ⟨a, b, rfl, rfl, q⟩ := h
  exact op_lt_str pins s σ H _ _ v u Q I rx ry ⟨_, _, rfl, rfl, q⟩
def rEqT : R2 := fun x y H Q => ∃ a b, x = T a ∧ y = T b ∧ Q (.bl (decide (a = b))) H
theorem tx_eq : OpR X (compareOp .Eq) rEqT := fun pins s σ H x y v u Q I rx ry h => by
  obtain ⟨a, b, rfl, rfl, q⟩ := h
  exact op_eq pins s σ H _ _ v u Q I rx ry ⟨rfl, by rw [dec_T]; exact q⟩
def rNeT : R2 := fun x y H Q => ∃ a b, x = T a ∧ y = T b ∧ Q (.bl (!decide (a = b))) H
theorem tx_ne : OpR X (compareOp .NotEq) rNeT := fun pins s σ H x y v u Q I rx ry h => by
  obtain ⟨a, b, rfl, rfl, q⟩ := h
  exact op_ne pins s σ H _ _ v u Q I rx ry ⟨rfl, by rw [dec_T]; exact q⟩
def rInT : R2 := fun x y H Q => ∃ c z, x = T [c] ∧ y = T z ∧ Q (.bl (decide (c ∈ z))) H
theorem tx_in : OpR X (compareOp .In) rInT := fun pins s σ H x y v u Q I rx ry h => by
  obtain ⟨c, z, rfl, rfl, q⟩ := h
  exact op_in_sign pins s σ H _ _ v u Q I rx ry ⟨c, _, rfl, rfl, q⟩
def rNotInT : R2 := fun x y H Q => ∃ c z, x = T [c] ∧ y = T z ∧ Q (.bl (!decide (c ∈ z))) H
theorem tx_notin : OpR X (compareOp .NotIn) rNotInT := fun pins s σ H x y v u Q I rx ry h => by
  obtain ⟨c, z, rfl, rfl, q⟩ := h
  exact op_notIn_sign pins s σ H _ _ v u Q I rx ry ⟨c, _, rfl, rfl, q⟩
def rIxTx : R2 := fun x y H Q => ∃ z i c, x = T z ∧ y = .int i ∧ z.length ≤ sizeLine ∧ atI z i = some c ∧ Q (T [c]) H
theorem tx_ix : IxR X rIxTx := by
  intro value slice pins s σ H x y v u Q I rx ry h hs
  obtain ⟨z, i, c, rfl, rfl, hz, ha, q⟩ := h
  exact ix_str value slice pins s σ H _ _ v u Q I rx ry ⟨_, i, c, rfl, rfl, by rw [len_T]; exact hz, ha, q⟩ hs
/-- z[lo:hi] -/
def cutL (z : List Nat) (lo hi : Option Int) : List Nat := (z.drop (HT.sIx z.length 0 lo)).take (HT.sIx z.length z.length hi - HT.sIx z.length 0 lo)
theorem cutL_len (z : List Nat) (lo hi : Option Int) : (cutL z lo hi).length ≤ z.length := by
  unfold cutL
  rw [List.length_take, List.length_drop]
  omega
theorem cutL_none (z : List Nat) : cutL z none none = z := by simp [cutL, HT.sIx]
theorem cutL_to (z : List Nat) (k : Nat) : cutL z none (some (k : Int)) = z.take k := by
  unfold cutL
  rw [HT.sIx_nat, HT.sIx_none, List.drop_zero, Nat.sub_zero]
  by_cases h : k ≤ z.length
  · rw [Nat.min_eq_left h]
  · rw [Nat.min_eq_right (by omega), List.take_of_length_le (Nat.le_refl _), List.take_of_length_le (by omega)]
theorem cutL_from (z : List Nat) (k : Nat) : cutL z (some (k : Int)) none = z.drop k := by
  unfold cutL
  rw [HT.sIx_nat, HT.sIx_none]
  by_cases h : k ≤ z.length
  · rw [Nat.min_eq_left h, List.take_of_length_le (by simp)]
  · rw [Nat.min_eq_right (by omega), List.drop_of_length_le (Nat.le_refl _), List.drop_of_length_le (by omega), List.take_nil]
theorem cutL_mid (z : List Nat) (i j : Nat) : cutL z (some (i : Int)) (some (j : Int)) = (z.drop i).take (j - i) := by
  unfold cutL
  rw [HT.sIx_nat, HT.sIx_nat]
  by_cases h : i ≤ z.length
  · rw [Nat.min_eq_left h]
    by_cases h2 : j ≤ z.length
    · rw [Nat.min_eq_left h2]
    · have e1 : min j z.length = z.length := Nat.min_eq_right (by omega)
      rw [e1, List.take_of_length_le (by simp), List.take_of_length_le (by simp; omega)]
  · have e1 : min i z.length = z.length := Nat.min_eq_right (by omega)
    have e2 : z.drop i = [] := List.drop_of_length_le (by omega)
    rw [e1, e2, List.drop_of_length_le (Nat.le_refl _), List.take_nil, List.take_nil]
theorem cutL_m1 (z : List Nat) : cutL z none (some (-1)) = z.dropLast := by
  unfold cutL
  rw [HT.sIx_none, List.drop_zero, Nat.sub_zero, List.dropLast_eq_take]
  congr 1
  have e : HT.sIx z.length z.length (some (-1)) = ((-1 : Int) + (z.length : Int)).toNat := by
    show (if (-1 : Int) < 0 then ((-1 : Int) + (z.length : Int)).toNat else min (-1 : Int).toNat z.length) = _
    rw [if_pos (by decide)]
  rw [e]
  omega
/-- the last k -/
theorem cutL_last (z : List Nat) (k : Nat) (hk : 0 < k) : cutL z (some (-(k : Int))) none = z.drop (z.length - k) := by
  have e : HT.sIx z.length 0 (some (-(k : Int))) = z.length - k := by
    have e1 : HT.sIx z.length 0 (some (-(k : Int))) = (-(k : Int) + (z.length : Int)).toNat := if_pos (by omega)
    rw [e1]
    omega
  unfold cutL
  rw [e, HT.sIx_none, List.take_of_length_le (by simp)]
def rSlTx : V → Option Int → Option Int → Hp → VK → Prop := fun x lo hi H Q => ∃ z, x = T z ∧ z.length ≤ sizeLine ∧ Q (T (cutL z lo hi)) H
theorem tx_sl : SlR X rSlTx := fun pins s σ H x v vl vu lo hi sl Q I rx hs pl pu h => by
  obtain ⟨z, rfl, hz, q⟩ := h
  refine sl_str pins s σ H _ v vl vu lo hi sl Q I rx hs pl pu ⟨_, rfl, by rw [len_T]; exact hz, ?_⟩
  have e : cutS ⟨z.toArray⟩ lo hi = ⟨(cutL z lo hi).toArray⟩ := by
    unfold cutS cutL
    rw [len_T]
  rw [e]
  exact q
def rLenT : List V → Hp → VK → Prop := fun xs H Q => ∃ z, xs = [T z] ∧ z.length ≤ sizeLine ∧ Q (.int (z.length : Nat)) H
theorem tx_len : CallR X (.builtin "len") rLenT := fun pins s σ H xs us Q I r h => by
  obtain ⟨z, rfl, hz, q⟩ := h
  exact call_len_str pins s σ H _ us Q I r ⟨_, rfl, by rw [len_T]; exact hz, by rw [len_T]; exact q⟩
theorem pe_tx {x : Str} {j pos} {l : List Nat} (h : x = ⟨l.toArray⟩) : PE X (.Constant (.str x) j pos) (tC (T l)) := by
  subst h
  exact pe_str
/-- t * n, 1 < n -/
def rMulT : R2 := fun x y H Q => ∃ (a : List Nat) (n : Nat), x = T a ∧ y = .int (n : Int) ∧ 1 < n ∧ n < 1000 ∧ a.length < 1000 ∧ Q (T (List.replicate n a).flatten) H
theorem fold_T (a : Array Nat) : ∀ (n : Nat) (acc : Array Nat), ((List.replicate n a).foldl (· ++ ·) acc).toList = acc.toList ++ (List.replicate n a.toList).flatten
  | 0, acc => by simp
  | n + 1, acc => by
    rw [List.replicate_succ, List.foldl_cons, fold_T a n, List.replicate_succ]
    simp
theorem tx_mul : OpR X (binaryOp .Mult) rMulT := fun pins s σ H x y v u Q I rx ry h => by
  obtain ⟨a, n, rfl, rfl, h1, h2, h3, q⟩ := h
  obtain ⟨t, rfl⟩ := rx
  obtain ⟨t', rfl⟩ := ry
  have e : Txt.mul ⟨a.toArray⟩ (n : Int) = ⟨(List.replicate n a).flatten.toArray⟩ := by
    refine TL.ext_tl ?_
    unfold Txt.mul
    rw [if_neg (by omega)]
    by_cases c : ((n : Int) == 1 || (⟨a.toArray⟩ : Str).length == 0) = true
    · rw [if_pos c]
      have c2 : a = [] := by
        rw [Bool.or_eq_true, beq_iff_eq, beq_iff_eq, len_T] at c
        exact List.length_eq_zero_iff.mp (c.elim (fun z => absurd z (by omega)) id)
      subst c2
      show [] = _
      rw [List.flatten_eq_nil_iff.mpr]
      intro l hl
      exact List.eq_of_mem_replicate hl
    · rw [if_neg c, Int.toNat_natCast]
      show ((List.replicate n a.toArray).foldl (· ++ ·) #[]).toList = _
      rw [fold_T]
      simp
  refine SB.mul (x := ⟨a.toArray⟩) (n := (n : Int)) ⟨?_, fun _ _ => ?_, fun _ _ => ?_⟩ fun t'' k => ⟨.str _, H, I.tok k, ⟨t'', rfl⟩, by rw [e]; exact q⟩
  · rw [Bool.or_eq_false_iff, decide_eq_false_iff_not, decide_eq_false_iff_not]
    constructor <;> omega
  · rw [len_T]
    have e1 : (2 ^ 63 - 1 : Int) / (n : Int) ≥ (2 ^ 63 - 1 : Int) / 1000 := by
      refine Int.le_ediv_of_mul_le (by omega) ?_
      have : ((2 ^ 63 - 1 : Int) / 1000) * (n : Int) ≤ ((2 ^ 63 - 1 : Int) / 1000) * 1000 := Int.mul_le_mul_of_nonneg_left (by omega) (by decide)
      omega
    omega
  · rw [len_T, Int.toNat_natCast]
    have e2 : a.length * n ≤ 1000 * 1000 := Nat.mul_le_mul (by omega) (by omega)
    exact notLongL (Nat.le_trans e2 (by decide))
end

/-! ### heaps that grow -/
theorem Same.new {H : Hp} {p : Addr} {o : HO} (h : H p = none) : Same H (upd H p o) := fun b x e => by
  rw [upd_ne (ne_of_none e h)]
  exact e
theorem Same.tup {K : PySem.W.Frag} {H H' : Hp} {a : Addr} {xs : List V} (e : Same H H') (h : SqT K H a xs) : SqT K H' a xs := by
  rcases h with (h | ⟨o, h⟩) | h
  · exact .inl (.inl (e _ _ h))
  · exact .inl (.inr ⟨o, e _ _ h⟩)
  · exact .inr h
/-- what H did not know may change -/
theorem Same.mut {H H' : Hp} {p : Addr} {o : HO} (e : Same H H') (h : H p = none) : Same H (upd H' p o) := fun b x hb => by
  rw [upd_ne (ne_of_none hb h)]
  exact e b x hb
theorem alloc {H : Hp} {o : HO} {Q : VK} (h : ∀ p H', H p = none → Same H H' → H' p = some o → Q (.ref p) H') : ∀ p, H p = none → Q (.ref p) (upd H p o) := fun p np => h p _ np (Same.new np) upd_same

/-! ### calls of one's own defs -/
/-- x names a def that keeps sp -/
def Cal (P : Program) (w : World) (K : PySem.W.Frag) (mg : Str → Option Value) (base : Heap) (x : Str) (k : Nat) (ps : List Str) (sp : Sp) : Prop :=
  ∃ f fd, FnOk P w K mg base CX0 k f fd ps sp ∧ mg x = some (.ref f) ∧ PySem.W.keepIn K (.ref f) = true ∧ Binds K fd ps []
theorem pe_cal {X : Cx} {k : Nat} {ps : List Str} {sp : Sp} {x : Str} {p pos : Pos} {e : Expr} {es : List Expr} {t : TA} (C : Cal X.prog X.w X.K X.mg X.base x k ps sp) (hr : Room k X.A) (hg : Gl X x) (ha : PA X (e :: es) t)
    (hdb : (x == ("__debug__" : Str)) = false := by decide) (he : starEach (e :: es) X.env = (false, eval e X.env) :: starEach es X.env := by rfl)
    (hpl : (backTo pos (starEach es X.env)).any (·.1) = false := by rfl) :
    PE X (.Call (.Name x p) (e :: es) [] pos) (tCall sp [] E0 t) := by
  obtain ⟨f, fd, F, hm, hk, hb⟩ := C
  exact pe_call F hr hg hm hk hb .nil pass0 ha hdb he hpl
/-! ### dict(d) -/
section
variable {X : Cx}
def rCopyD : List V → Hp → VK → Prop := fun xs H Q => ∃ a kvs, xs = [.ref a] ∧ Rd H a (.dK kvs) ∧ ∀ p, H p = none → Q (.ref p) (upd H p (.dK kvs))
theorem call_copyD : CallR X (.type "dict") rCopyD := fun pins s σ H xs us Q I r h => by
  obtain ⟨a, kvs, rfl, hd, q⟩ := h
  obtain ⟨u, rfl, ru⟩ := Vals.one r
  cases ru
  exact d_copyOf I hd fun p s' hp I' => ⟨.ref p, _, I', rfl, q p hp⟩
end
/-! ### built-in names -/
structure Bl (mg : Str → Option Value) : Prop where
  len : mg "len" = none
  range : mg "range" = none
  zip : mg "zip" = none
  enumerate : mg "enumerate" = none
  list : mg "list" = none
  dict : mg "dict" = none
  int : mg "int" = none
  sorted : mg "sorted" = none
  min : mg "min" = none
  max : mg "max" = none
  isinstance : mg "isinstance" = none
  str : mg "str" = none
/-! ### tests -/
theorem iteB {A B : Prop} {b : Bool} (h1 : b = true → A) (h2 : b = false → B) : if b = true then A else B := by
  cases b with
  | true => rw [if_pos rfl]; exact h1 rfl
  | false => rw [if_neg Bool.false_ne_true]; exact h2 rfl
end K33
set_option Elab.async false
set_option linter.all false
set_option maxRecDepth 100000
set_option maxHeartbeats 4000000
/-! join, split, endswith over lists of codes; calls with keywords; a class's constant -/
namespace K33
open PySem PySem.Spec PyProof.Rows L2
section
variable {X : Cx}
def rJoinE (K : PySem.W.Frag) : V → List V → Hp → VK → Prop := fun x xs H Q => ∃ (p : Addr) (ls : List (List Nat)), x = T [] ∧ xs = [.ref p] ∧ SqL K H p (ls.map T) ∧ ls.flatten.length ≤ 1000000 ∧ Q (T ls.flatten) H
theorem joinE (ls : List (List Nat)) : Txt.join ⟨([] : List Nat).toArray⟩ (ls.map fun l => (⟨l.toArray⟩ : Str)) = ⟨ls.flatten.toArray⟩ := by
  refine TL.ext_tl ?_
  rw [TL.join_eq, TL.tl_join]
  have e : ∀ ms : List (List Nat), TL.joinL [] ms = ms.flatten := by
    intro ms
    induction ms with
    | nil => rfl
    | cons a r ih =>
      cases r with
      | nil => simp [TL.joinL]
      | cons b r' =>
        have e1 : TL.joinL [] (a :: b :: r') = a ++ ([] ++ TL.joinL [] (b :: r')) := rfl
        rw [e1, ih, List.nil_append]
        simp
  show TL.joinL [] _ = ls.flatten
  rw [e, List.map_map]
  congr 1
  exact List.map_id'' (fun _ => rfl) ls
theorem sum_len (ls : List (List Nat)) : ((ls.map fun l => (⟨l.toArray⟩ : Str)).map (·.length)).sum = ls.flatten.length := by
  induction ls with
  | nil => rfl
  | cons a r ih =>
    rw [List.map_cons, List.map_cons, List.sum_cons, ih, List.flatten_cons, List.length_append, len_T]
theorem mt_joinE : MtR X "str.join" (rJoinE X.K) := fun pins s σ H x xs v us Q I rx rs h => by
  obtain ⟨p, ls, rfl, rfl, hp, hl, q⟩ := h
  refine mt_join pins s σ H _ _ v us Q I rx rs ⟨_, p, ls.map fun l => (⟨l.toArray⟩ : Str), rfl, rfl, .inl ?_, ?_, ?_⟩
  · rw [List.map_map]; exact hp
  · rw [sum_len, len_T]
    show ls.flatten.length + _ * 0 ≤ 16777216
    omega
  · rw [joinE]; exact q
theorem pe_joinE {o e : Expr} {to te : TE} {apos pos : Pos} (ho : PE X o to) (he : PE X e te) (hs : starEach [e] X.env = [(false, eval e X.env)] := by rfl) (hbase : attributeBase o "join" X.env (eval o X.env) = eval o X.env := by rfl) (hline : (apos.endLine == pos.line) = true := by rfl) :
    PE X (.Call (.Attribute o "join" apos) [e] [] pos) (tM1 (rJoinE X.K) to te) := pe_m1 PySem.F.slot_str_join PySem.F.type_str_join mt_joinE ho he hs hbase hline
def rSplit2 : V → List V → Hp → VK → Prop := fun x xs H Q => ∃ l r : List Nat, x = T (l ++ 45 :: r) ∧ xs = [T [45]] ∧ 45 ∉ l ∧ 45 ∉ r ∧ l.length + r.length ≤ 1000 ∧ ∀ p, H p = none → Q (.ref p) (upd H p (.lst [T l, T r]))
theorem mt_split2 : MtR X "str.split" rSplit2 := fun pins s σ H x xs v us Q I rx rs h => by
  obtain ⟨l, r, rfl, rfl, hl, hr, hz, q⟩ := h
  have e : Txt.split ⟨(l ++ 45 :: r).toArray⟩ ⟨[45].toArray⟩ = [⟨l.toArray⟩, ⟨r.toArray⟩] := by
    refine TL.map_tl_inj ?_
    rw [TL.split_spl _ _ (by simp [TL.tl]) (TL.kind_ok (by simp))]
    show TL.spl [45] 0 [] (l ++ ([45] ++ r)) = [l, r]
    rw [TL.spl_part1 hl, TL.spl_last1 hr]
    rfl
  refine mt_split pins s σ H _ _ v us Q I rx rs ⟨_, _, rfl, rfl, rfl, ?_, ?_⟩
  · rw [len_T, List.length_append, List.length_cons]
    refine Nat.le_trans (m := 2000) (by omega) (by decide)
  · rw [e]; exact q
theorem pe_split2 {o e : Expr} {to te : TE} {apos pos : Pos} (ho : PE X o to) (he : PE X e te) (hs : starEach [e] X.env = [(false, eval e X.env)] := by rfl) (hbase : attributeBase o "split" X.env (eval o X.env) = eval o X.env := by rfl) (hline : (apos.endLine == pos.line) = true := by rfl) :
    PE X (.Call (.Attribute o "split" apos) [e] [] pos) (tM1 rSplit2 to te) := pe_m1 PySem.F.slot_str_split PySem.F.type_str_split mt_split2 ho he hs hbase hline
def endsB (a b : List Nat) : Bool := decide (b.length ≤ a.length) && (a.drop (a.length - b.length) == b)
def rEnds : V → List V → Hp → VK → Prop := fun x xs H Q => ∃ a b : List Nat, x = T a ∧ xs = [T b] ∧ Q (.bl (endsB a b)) H
theorem mt_ends : MtR X "str.endswith" rEnds := fun pins s σ H x xs v us Q I rx rs h => by
  obtain ⟨a, b, rfl, rfl, q⟩ := h
  have e : Txt.endswith ⟨a.toArray⟩ ⟨b.toArray⟩ = endsB a b := by
    unfold Txt.endswith endsB Builtin.Str.subAt
    rw [len_T, len_T, Nat.zero_add]
    by_cases h : b.length ≤ a.length
    · rw [decide_eq_true h, Bool.true_and, Bool.true_and]
      have e1 : a.length - b.length + b.length = a.length := by omega
      rw [e1, Bool.eq_iff_iff, beq_iff_eq, beq_iff_eq]
      have e2 : (a.drop (a.length - b.length)).take (a.length - (a.length - b.length)) = a.drop (a.length - b.length) := List.take_of_length_le (by simp)
      constructor
      · intro z
        have z2 := congrArg Array.toList z
        simp only [List.extract_toArray, List.extract_eq_take_drop] at z2
        rw [e2] at z2
        exact z2
      · intro z
        apply Array.toList_inj.mp
        simp only [List.extract_toArray, List.extract_eq_take_drop]
        rw [e2]
        exact z
    · rw [decide_eq_false h, Bool.false_and, Bool.false_and]
  exact mt_endswith pins s σ H _ _ v us Q I rx rs ⟨_, _, rfl, rfl, by rw [e]; exact q⟩
theorem pe_ends {o e : Expr} {to te : TE} {apos pos : Pos} (ho : PE X o to) (he : PE X e te) (hs : starEach [e] X.env = [(false, eval e X.env)] := by rfl) (hbase : attributeBase o "endswith" X.env (eval o X.env) = eval o X.env := by rfl) (hline : (apos.endLine == pos.line) = true := by rfl) :
    PE X (.Call (.Attribute o "endswith" apos) [e] [] pos) (tM1 rEnds to te) := pe_m1 PySem.F.slot_str_endswith PySem.F.type_str_endswith mt_ends ho he hs hbase hline
def tTruX (K : PySem.W.Frag) (ta : TE) : TT := fun σ H Q => ta σ H fun x H' => ∃ k, TruV K x H' k ∧ Q k H'
end
/-! ### globals -/
def abc : List Nat := [97, 98, 99, 100, 101, 102, 103, 104, 105, 106, 107, 108, 109, 110, 111, 112, 113, 114, 115, 116, 117, 118, 119, 120, 121, 122]
structure Gb (mg : Str → Option Value) (tN tL : Tok) : Prop where
  never : mg "NEVER" = some (.int 1000000 tN)
  letters : mg "LETTERS" = some (.str ⟨abc.toArray⟩ tL)
/-- a method of the class at C -/
def CalM (P : Program) (w : World) (K : PySem.W.Frag) (mg : Str → Option Value) (base : Heap) (C : Addr) (m : Str) (k : Nat) (ps : List Str) (sp : Sp) : Prop :=
  ∃ f fd, FnOk P w K mg base CX0 k f fd ps sp ∧ Meth K C m f ∧ Binds K fd ps []
/-- the class at C, named x, with its __init__ -/
def CalC (P : Program) (w : World) (K : PySem.W.Frag) (mg : Str → Option Value) (base : Heap) (C : Addr) (x : Str) (k : Nat) (ps : List Str) (sp : Sp) : Prop :=
  ∃ f fd, FnOk P w K mg base CX0 k f fd ps sp ∧ mg x = some (.ref C) ∧ Mk K C f ∧ Binds K fd ps []
theorem pe_calC {X : Cx} {C : Addr} {k : Nat} {ps : List Str} {sp : Sp} {x : Str} {p pos : Pos} {e : Expr} {es : List Expr} {t : TA} (Z : CalC X.prog X.w X.K X.mg X.base C x k ps sp) (hr : Room (k + 1) X.A) (hg : Gl X x) (ha : PA X (e :: es) t)
    (hdb : (x == ("__debug__" : Str)) = false := by decide) (he : starEach (e :: es) X.env = (false, eval e X.env) :: starEach es X.env := by rfl)
    (hpl : (backTo pos (starEach es X.env)).any (·.1) = false := by rfl) :
    PE X (.Call (.Name x p) (e :: es) [] pos) (tMake C sp [] E0 t) := by
  obtain ⟨f, fd, F, hm, hk, hb⟩ := Z
  exact pe_make hk F hr hg hm hb .nil pass0 ha hdb he hpl
/-- three by place, three by name -/
def gK {α : Type} (us ws : List α) : List α := if us.length = 3 ∧ ws.length = 3 then us ++ ws else []
/-- a def called with keywords that stand in the parameters' order -/
def CalK (P : Program) (w : World) (K : PySem.W.Frag) (mg : Str → Option Value) (base : Heap) (x : Str) (k : Nat) (ps ks : List Str) (sp : Sp) : Prop :=
  ∃ f fd, FnOk P w K mg base CX0 k f fd ps sp ∧ mg x = some (.ref f) ∧ PySem.W.keepIn K (.ref f) = true ∧ KBinds K fd ps ks gK gK
theorem pe_calK {X : Cx} {k : Nat} {ps ks : List Str} {sp : Sp} {x : Str} {p pos : Pos} {e : Expr} {es : List Expr} {kws : List Keyword} {t tk : TA} (C : CalK X.prog X.w X.K X.mg X.base x k ps ks sp) (hr : Room k X.A) (hg : Gl X x) (ha : PA X (e :: es) t) (hkw : PK X kws tk)
    (hall : (backToKw pos (keywordEach kws X.env)).all (·.1.isSome) = true := by rfl) (hks : (backToKw pos (keywordEach kws X.env)).filterMap (·.1) = ks := by rfl)
    (hdb : (x == ("__debug__" : Str)) = false := by decide) (he : starEach (e :: es) X.env = (false, eval e X.env) :: starEach es X.env := by rfl)
    (hpl : ((backTo pos (starEach (e :: es) X.env)).any (·.1) || (backToKw pos (keywordEach kws X.env)).any (·.1.isNone)) = false := by rfl) :
    PE X (.Call (.Name x p) (e :: es) kws pos) (tCallK sp gK E0 t tk) := by
  obtain ⟨f, fd, F, hm, hk, hb⟩ := C
  exact pe_callK F hr hg hm hk hb pass0 ha hkw hall hks hdb he hpl
end K33
set_option Elab.async false
set_option linter.all false
set_option maxRecDepth 100000
set_option maxHeartbeats 8000000
namespace K33
open PySem PySem.Spec PyProof.Rows L2
def t_sides (K : PySem.W.Frag) : TS :=
  (tSeq (tAsg (tLst tNil) (gName 1))
    (tSeq (tAsg (tLst (tCons (tC (T [])) tNil)) (gName 2))
    (tSeq (tFor (iRng1 (tCons (tC (.int 3)) tNil)) (gName 3)
    (tSeq (tAsg (tLc2 (iList K (tVar 2)) (gName 4) tYes (iStr (tVar 0)) (gName 5) tYes (tOp rAddT (tVar 4) (tVar 5)) [4, 5] [5]) (gName 2))
    (tAsg (tOp rCat (tVar 1) (tVar 2)) (gName 1))))
    (tRet (tVar 1)))))

def t_joint_table (K : PySem.W.Frag) (C : Addr) (sp_sides sp_is_joint : Sp) : TS :=
  (tSeq (tAsg (tCall sp_sides [] E0 (tCons (tVar 1) tNil)) (gName 2))
    (tRet (tDc2 (iList K (tVar 2)) (gName 3) (iList K (tVar 2)) (gName 4) (tTup (tCons (tVar 3) (tCons (tVar 4) tNil))) (tMeth C "is_joint" sp_is_joint [] E0 (tVar 0) (tCons (tOp rAddT (tVar 3) (tVar 4)) (tCons (tCB rLenT (tCons (tVar 3) tNil)) tNil))) [3, 4] [4])))

def t_next_gaps (K : PySem.W.Frag) : TS :=
  (tSeq (tAsg (tVar 0) (gTup K 2 (gCons (gName 2) (gCons (gName 3) gNil))))
    (tSeq (tAsg (tSl rSlTx (tOp rAddT (tVar 2) (tOp rIxTx (tVar 3) (tC (.int 0)))) (tPart (tUn (rU fun i => .int (-i)) (tC (.int 3)))) tNoPart) (gName 4))
    (tSeq (tAsg (tLst (tCons (tTup (tCons (tVar 4) (tCons (tSl rSlTx (tVar 3) (tPart (tC (.int 1))) tNoPart) tNil))) tNil)) (gName 5))
    (tSeq (tIfS (tTest (tOp rEq (tCB rLenT (tCons (tVar 3) tNil)) (tC (.int 3))))
    (tAsg (tOp rCat (tVar 5) (tLc (iStr (tVar 1)) (gName 6) tYes (tTup (tCons (tVar 4) (tCons (tOp rAddT (tSl rSlTx (tVar 3) (tPart (tC (.int 1))) tNoPart) (tVar 6)) tNil))) [6])) (gName 5))
    tNext)
    (tRet (tVar 5))))))

def t_best_tail (K : PySem.W.Frag) (sp_next_gaps : Sp) : TS :=
  (tSeq (tAsg (tC .non) (gName 5))
    (tSeq (tFor (iList K (tCall sp_next_gaps [] E0 (tCons (tVar 0) (tCons (tVar 3) tNil)))) (gName 6)
    (tSeq (tAsg (tDGet (tVar 4) (tOp rIxTx (tOp (rIxT K) (tVar 0) (tC (.int 1))) (tC (.int 0)))) (gName 7))
    (tSeq (tIfS (tAnd (tTest (tOp rNeT (tOp (rIxT K) (tVar 6) (tC (.int 1))) (tC (T [])))) (tNot (tB (tDGet (tVar 1) (tVar 6)))))
    (tSeq (tIfS (tB (tDNotIn (tVar 6) (tVar 2)))
    (tRet (tC .non))
    tNext)
    (tAsg (tOp (rI0 fun i j => .int (i + j)) (tVar 7) (tOp (rIxT K) (tDGet (tVar 2) (tVar 6)) (tC (.int 0)))) (gName 7)))
    tNext)
    (tIfS (tOr (tTest (tOp (fun x y H Q => y = V.non ∧ Q (V.bl (decide (x = V.non))) H) (tVar 5) (tC .non))) (tTest (tOp (rI0 fun i j => .bl (decide (j < i))) (tVar 7) (tOp (rIxT K) (tVar 5) (tC (.int 0))))))
    (tAsg (tTup (tCons (tVar 7) (tCons (tVar 6) tNil))) (gName 5))
    tNext))))
    (tRet (tVar 5))))

def t_heaviest_tails (K : PySem.W.Frag) (sp_best_tail : Sp) : TS :=
  (tSeq (tAsg tDNewT (gName 3))
    (tSeq (tLock (tAsg (tLc (iKeys (tVar 0)) (gName 4) (tNot (tB (tDGet (tVar 0) (tVar 4)))) (tVar 4) [4]) (gName 5)))
    (tSeq (tWhile (tTruX K (tVar 5))
    (tSeq (tAsg (tLst tNil) (gName 6))
    (tSeq (tFor (iList K (tVar 5)) (gName 4)
    (tSeq (tAsg (tCall sp_best_tail [] E0 (tCons (tVar 4) (tCons (tVar 0) (tCons (tVar 3) (tCons (tVar 1) (tCons (tVar 2) tNil)))))) (gName 7))
    (tIfS (tTest (tOp (fun x y H Q => y = V.non ∧ Q (V.bl (decide (x = V.non))) H) (tVar 7) (tC .non)))
    (tDrop (tBM K "list" rAppend (tVar 6) (tCons (tVar 4) tNil)))
    (sDPut (tVar 3) (tVar 4) (tVar 7)))))
    (tSeq (tIfS (tTest (tOp rEq (tCB (fun xs H Q => ∃ p ys, xs = [V.ref p] ∧ (SqL K H p ys ∨ SqT K H p ys) ∧ Q (V.int ys.length) H) (tCons (tVar 6) tNil)) (tCB (fun xs H Q => ∃ p ys, xs = [V.ref p] ∧ (SqL K H p ys ∨ SqT K H p ys) ∧ Q (V.int ys.length) H) (tCons (tVar 5) tNil))))
    (tRet (tC .non))
    tNext)
    (tAsg (tCB (fun xs H Q => ∃ p ys, xs = [V.ref p] ∧ (SqL K H p ys ∨ SqT K H p ys) ∧ ∀ l, H l = none → Q (V.ref l) (upd H l (.lst ys))) (tCons (tVar 6) tNil)) (gName 5))))))
    (tRet (tVar 3)))))

def t_heaviest_syllable (K : PySem.W.Frag) (sp_joint_table sp_heaviest_tails sp_sides sp_best_tail : Sp) : TS :=
  (tSeq (tAsg (tCall sp_joint_table [] E0 (tCons (tVar 0) (tCons (tVar 1) tNil))) (gName 3))
    (tSeq (tAsg (tCall sp_heaviest_tails [] E0 (tCons (tVar 3) (tCons (tVar 1) (tCons (tVar 2) tNil)))) (gName 4))
    (tSeq (tIfS (tTest (tOp (fun x y H Q => y = V.non ∧ Q (V.bl (decide (x = V.non))) H) (tVar 4) (tC .non)))
    (tRet (tC .non))
    tNext)
    (tSeq (tAsg (tTup (tCons (tC (.int 0)) (tCons (tTup (tCons (tC (T [])) (tCons (tC (T [])) tNil))) (tCons (tTup (tCons (tC (T [])) (tCons (tC (T [])) tNil))) tNil)))) (gName 5))
    (tSeq (tFor (iList K (tOp rCat (tLc (iList K (tCall sp_sides [] E0 (tCons (tVar 1) tNil))) (gName 10) tYes (tTup (tCons (tC (T [])) (tCons (tVar 10) tNil))) [10]) (tLockE (tLc (iKeys (tVar 3)) (gName 11) (tB (tDGet (tVar 3) (tVar 11))) (tVar 11) [11])))) (gName 6)
    (tSeq (tAsg (tCall sp_best_tail [] E0 (tCons (tVar 6) (tCons (tVar 3) (tCons (tVar 4) (tCons (tVar 1) (tCons (tVar 2) tNil)))))) (gTup K 2 (gCons (gName 7) (gCons (gName 8) gNil))))
    (tIfS (tTest (tOp (rI0 fun i j => .bl (decide (j < i))) (tVar 7) (tOp (rIxT K) (tVar 5) (tC (.int 0)))))
    (tAsg (tTup (tCons (tVar 7) (tCons (tVar 6) (tCons (tVar 8) tNil)))) (gName 5))
    tNext)))
    (tSeq (tAsg (tVar 5) (gTup K 3 (gCons (gName 7) (gCons (gName 6) (gCons (gName 8) gNil)))))
    (tSeq (tAsg (tOp rIxTx (tOp (rIxT K) (tVar 6) (tC (.int 1))) (tC (.int 0))) (gName 9))
    (tSeq (tWhile (tAnd (tTest (tOp rNeT (tOp (rIxT K) (tVar 8) (tC (.int 1))) (tC (T [])))) (tNot (tB (tDGet (tVar 3) (tVar 8)))))
    (tSeq (tAsg (tOp rAddT (tVar 9) (tOp rIxTx (tOp (rIxT K) (tVar 8) (tC (.int 1))) (tC (.int 0)))) (gName 9))
    (tAsg (tOp (rIxT K) (tDGet (tVar 4) (tVar 8)) (tC (.int 1))) (gName 8))))
    (tRet (tTup (tCons (tVar 7) (tCons (tVar 9) (tCons (tOp rAddT (tOp rAddT (tOp (rIxT K) (tVar 6) (tC (.int 0))) (tVar 9)) (tOp (rIxT K) (tVar 8) (tC (.int 1)))) tNil)))))))))))))

def t_letter_on (K : PySem.W.Frag) : TS :=
  (tSeq (tIfS (tTest (tOp (rI0 fun i j => .bl (decide (i < j))) (tVar 1) (tC (.int 0))))
    (tRet (tVar 2))
    tNext)
    (tSeq (tAsg (tVar 2) (gTup K 2 (gCons (gName 6) (gCons (gName 7) gNil))))
    (tSeq (tAsg (tVar 5) (gTup K 3 (gCons (gName 8) (gCons (gName 9) (gCons (gName 10) gNil)))))
    (tSeq (tIfS (tAnd (tTest (tOp (rI0 fun i j => .bl (decide (j < i))) (tVar 1) (tC (.int 0)))) (tB (tDGet (tVar 3) (tTup (tCons (tSl rSlTx (tVar 0) (tPart (tCB (fun xs H Q => ∃ i j, xs = [V.int i, V.int j] ∧ Q (V.int (if j > i then j else i)) H) (tCons (tC (.int 0)) (tCons (tOp (rI0 fun i j => .int (i - j)) (tVar 1) (tC (.int 3))) tNil)))) (tPart (tVar 1))) (tCons (tSl rSlTx (tVar 0) (tPart (tVar 1)) (tPart (tOp (rI0 fun i j => .int (i + j)) (tVar 1) (tC (.int 3))))) tNil))))))
    (tIfS (tOr (tTest (tOp (rI0 fun i j => .bl (decide (i ≤ j))) (tOp (rI0 fun i j => .int (i + j)) (tVar 6) (tVar 8)) (tVar 10))) (tTest (tOp (rI0 fun i j => .bl (decide (i ≤ j))) (tOp (rI0 fun i j => .int (i + j)) (tVar 7) (tVar 8)) (tVar 9))))
    (tAsg (tC (.int 0)) (gName 7))
    tNext)
    tNext)
    (tSeq (tPar 6 7 (tCons (tOp (rI0 fun i j => .int (i + j)) (tVar 6) (tDGet (tVar 4) (tOp rIxTx (tVar 0) (tVar 1)))) (tCons (tOp (rI0 fun i j => .int (i + j)) (tVar 7) (tDGet (tVar 4) (tOp rIxTx (tVar 0) (tVar 1)))) tNil)))
    (tSeq (tIfS (tTest (tOp (rI0 fun i j => .bl (decide (j < i))) (tVar 6) (tVar 10)))
    (tAsg (tC (.int 1000000)) (gName 6))
    tNext)
    (tSeq (tIfS (tTest (tOp (rI0 fun i j => .bl (decide (j < i))) (tVar 7) (tVar 9)))
    (tAsg (tC (.int 1000000)) (gName 7))
    tNext)
    (tRet (tTup (tCons (tVar 6) (tCons (tVar 7) tNil)))))))))))

def t_can_end (K : PySem.W.Frag) (sp_letter_on : Sp) : TS :=
  (tSeq (tFor (iTup K (tTup (tCons (tOp (rI0 fun i j => .int (i - j)) (tCB rLenT (tCons (tVar 0) tNil)) (tC (.int 2))) (tCons (tOp (rI0 fun i j => .int (i - j)) (tCB rLenT (tCons (tVar 0) tNil)) (tC (.int 1))) tNil)))) (gName 5)
    (tAsg (tCall sp_letter_on [] E0 (tCons (tVar 0) (tCons (tVar 5) (tCons (tVar 1) (tCons (tVar 2) (tCons (tVar 3) (tCons (tVar 4) tNil))))))) (gName 1)))
    (tRet (tOp (rNeD K) (tVar 1) (tTup (tCons (tC (.int 1000000)) (tCons (tC (.int 1000000)) tNil))))))

def t_is_new (K : PySem.W.Frag) : TS :=
  (tSeq (tAsg (tDSetd (tVar 0) (tVar 1) (tLst tNil)) (gName 3))
    (tSeq (tFor (iList K (tVar 3)) (gTup K 2 (gCons (gName 4) (gCons (gName 5) gNil)))
    (tIfS (tAnd (tTest (tOp (rI0 fun i j => .bl (decide (j ≤ i))) (tVar 4) (tOp (rIxT K) (tVar 2) (tC (.int 0))))) (tTest (tOp (rI0 fun i j => .bl (decide (j ≤ i))) (tVar 5) (tOp (rIxT K) (tVar 2) (tC (.int 1))))))
    (tRet (tC (.bl false)))
    tNext))
    (tSeq (tDrop (tBM K "list" rAppend (tVar 3) (tCons (tVar 2) tNil)))
    (tRet (tC (.bl true))))))

def t_overflow (K : PySem.W.Frag) (sp_joint_table sp_letter_on sp_is_new sp_can_end : Sp) : TS :=
  (tSeq (tAsg (tCall sp_joint_table [] E0 (tCons (tVar 0) (tCons (tVar 1) tNil))) (gName 6))
    (tSeq (tAsg (tTup (tCons (tVar 3) (tCons (tVar 4) (tCons (tVar 5) tNil)))) (gName 7))
    (tSeq (tAsg tDNewK (gName 8))
    (tSeq (tAsg (tLst (tCons (tTup (tCons (tC (T [])) (tCons (tTup (tCons (tC (.int 0)) (tCons (tC (.int 1000000)) tNil))) tNil))) tNil)) (gName 9))
    (tSeq (tWhile (tTruX K (tVar 9))
    (tSeq (tAsg (tLst tNil) (gName 10))
    (tSeq (tFor (iList K (tVar 9)) (gTup K 2 (gCons (gName 11) (gCons (gName 12) gNil)))
    (tFor (iStr (tVar 1)) (gName 13)
    (tSeq (tAsg (tOp rAddT (tVar 11) (tVar 13)) (gName 14))
    (tSeq (tAsg (tCall sp_letter_on [] E0 (tCons (tVar 14) (tCons (tOp (rI0 fun i j => .int (i - j)) (tCB rLenT (tCons (tVar 14) tNil)) (tC (.int 3))) (tCons (tVar 12) (tCons (tVar 6) (tCons (tVar 2) (tCons (tVar 7) tNil))))))) (gName 15))
    (tIfS (tB (tCall sp_is_new [] E0 (tCons (tVar 8) (tCons (tSl rSlTx (tVar 14) (tPart (tUn (rU fun i => .int (-i)) (tC (.int 5)))) tNoPart) (tCons (tVar 15) tNil)))))
    (tSeq (tIfS (tNot (tB (tCall sp_can_end [] E0 (tCons (tVar 14) (tCons (tVar 15) (tCons (tVar 6) (tCons (tVar 2) (tCons (tVar 7) tNil))))))))
    (tRet (tVar 14))
    tNext)
    (tDrop (tBM K "list" rAppend (tVar 10) (tCons (tTup (tCons (tVar 14) (tCons (tVar 15) tNil))) tNil))))
    tNext)))))
    (tAsg (tCB (fun xs H Q => ∃ p ys, xs = [V.ref p] ∧ (SqL K H p ys ∨ SqT K H p ys) ∧ ∀ l, H l = none → Q (V.ref l) (upd H l (.lst ys))) (tCons (tVar 10) tNil)) (gName 9)))))
    (tRet (tC .non)))))))

def t_is_part (K : PySem.W.Frag) : TS :=
  (tSeq (tIfS (tTest (tOp (rI0 fun i j => .bl (decide (j < i))) (tCB rLenT (tCons (tVar 0) tNil)) (tC (.int 3))))
    (tRet (tC (.bl false)))
    tNext)
    (tSeq (tFor (iEnumS (tCons (tVar 0) tNil)) (gTup K 2 (gCons (gName 2) (gCons (gName 3) gNil)))
    (tIfS (tAnd (tTest (tOp rNotInT (tVar 3) (tC (T abc)))) (tAnd (tTest (tOp rNeT (tVar 3) (tC (T [63])))) (tOr (tTest (tOp rNeT (tVar 3) (tC (T [46])))) (tTest (tOp rNe (tVar 2) (tVar 1))))))
    (tRet (tC (.bl false)))
    tNext))
    (tRet (tC (.bl true)))))

def t_read_joint (K : PySem.W.Frag) (sp_is_part : Sp) : TS :=
  (tSeq (tAsg (tVar 0) (gName 1))
    (tSeq (tAsg (tM1 rEnds (tVar 0) (tC (T [32, 110, 111]))) (gName 2))
    (tSeq (tIfS (tB (tVar 2))
    (tAsg (tSl rSlTx (tVar 0) tNoPart (tPart (tUn (rU fun i => .int (-i)) (tC (.int 3))))) (gName 1))
    tNext)
    (tSeq (tMatch2 K (tM1 rSplit2 (tVar 1) (tC (T [45]))) 3 4
    (tIfS (tAnd (tB (tCall sp_is_part [] E0 (tCons (tVar 3) (tCons (tC (.int 0)) tNil)))) (tB (tCall sp_is_part [] E0 (tCons (tVar 4) (tCons (tOp (rI0 fun i j => .int (i - j)) (tCB rLenT (tCons (tVar 4) tNil)) (tC (.int 1))) tNil)))))
    (tRet (tTup (tCons (tVar 3) (tCons (tVar 4) (tCons (tVar 2) tNil)))))
    tNext))
    tNever))))

def t_stands_for (K : PySem.W.Frag) : TS :=
  (tSeq (tIfS (tTest (tOp rNe (tCB rLenT (tCons (tVar 0) tNil)) (tCB rLenT (tCons (tVar 1) tNil))))
    (tRet (tC (.bl false)))
    tNext)
    (tSeq (tFor (iZipS (tCons (tVar 0) (tCons (tVar 1) tNil))) (gTup K 2 (gCons (gName 2) (gCons (gName 3) gNil)))
    (tIfS (tAnd (tTest (tOp rNeT (tVar 2) (tVar 3))) (tOr (tTest (tOp rNeT (tVar 2) (tC (T [63])))) (tTest (tOp rEqT (tVar 3) (tC (T [46]))))))
    (tRet (tC (.bl false)))
    tNext))
    (tRet (tC (.bl true)))))

def t_Joints_init (K : PySem.W.Frag) (C : Addr) (sp_read_joint : Sp) : TS :=
  (tSeq (tIfS (tTest (tOp (rI0 fun i j => .bl (decide (j < i))) (tCB (fun xs H Q => ∃ p ys, xs = [V.ref p] ∧ (SqL K H p ys ∨ SqT K H p ys) ∧ Q (V.int ys.length) H) (tCons (tVar 1) tNil)) (ClX.tCVal K (tC (.ref C)) "MOST")))
    tNever
    tNext)
    (tSeq (sFld K (tVar 0) (tLc (iList K (tVar 1)) (gName 2) tYes (tCall sp_read_joint [] E0 (tCons (tVar 2) tNil)) [2]) "readings")
    (sFld K (tVar 0) (tCB (fun xs H Q => ∃ p ys, xs = [V.ref p] ∧ (SqL K H p ys ∨ SqT K H p ys) ∧ ∀ l, H l = none → Q (V.ref l) (upd H l (.lst ys))) (tCons (tVar 1) tNil)) "lines")))

def t_Joints_decider (K : PySem.W.Frag) (sp_stands_for : Sp) : TS :=
  (tSeq (tAsg (tOp rAddT (tC (T [46])) (tSl rSlTx (tVar 1) tNoPart (tPart (tVar 2)))) (gName 3))
    (tSeq (tAsg (tOp rAddT (tSl rSlTx (tVar 1) (tPart (tVar 2)) tNoPart) (tC (T [46]))) (gName 4))
    (tSeq (tFor (iEnum K (tCons (tFld K (tVar 0) "readings") tNil)) (gTup K 2 (gCons (gName 5) (gCons (gTup K 3 (gCons (gName 6) (gCons (gName 7) (gCons (gName 8) gNil)))) gNil)))
    (tSeq (tAsg (tOp (rI0 fun i j => .int (i - j)) (tCB rLenT (tCons (tVar 3) tNil)) (tCB rLenT (tCons (tVar 6) tNil))) (gName 9))
    (tIfS (tAnd (tTest (tOp (rI0 fun i j => .bl (decide (j ≤ i))) (tVar 9) (tC (.int 0)))) (tAnd (tB (tCall sp_stands_for [] E0 (tCons (tVar 6) (tCons (tSl rSlTx (tVar 3) (tPart (tVar 9)) tNoPart) tNil)))) (tB (tCall sp_stands_for [] E0 (tCons (tVar 7) (tCons (tSl rSlTx (tVar 4) tNoPart (tPart (tCB rLenT (tCons (tVar 7) tNil)))) tNil))))))
    (tRet (tVar 5))
    tNext)))
    (tRet (tC .non)))))

def t_Joints_is_joint (K : PySem.W.Frag) (C : Addr) (sp_decider : Sp) : TS :=
  (tSeq (tAsg (tMeth C "decider" sp_decider [] E0 (tVar 0) (tCons (tVar 1) (tCons (tVar 2) tNil))) (gName 3))
    (tRet (tAndV (tOp (fun x y H Q => y = V.non ∧ Q (V.bl (!decide (x = V.non))) H) (tVar 3) (tC .non)) (tNotV (tOp (rIxT K) (tOp (rIxL K) (tFld K (tVar 0) "readings") (tVar 3)) (tC (.int 2)))))))

def t_law_cell (K : PySem.W.Frag) : TS :=
  (tSeq (tIfS (tTest (tOp (rI0 fun i j => .bl (decide (i < j))) (tVar 1) (tCB (fun xs H Q => ∃ p ys, xs = [V.ref p] ∧ (SqL K H p ys ∨ SqT K H p ys) ∧ Q (V.int ys.length) H) (tCons (tVar 0) tNil))))
    (tRet (tCB (fun xs H Q => (∃ i, xs = [V.int i] ∧ Q (V.int i) H) ∨ ∃ k, xs = [V.bl k] ∧ Q (V.int (if k then 1 else 0)) H) (tCons (tOp (rIxL K) (tVar 0) (tVar 1)) tNil)))
    tNext)
    (tRet (tC (.int 0))))

def t_law_row (K : PySem.W.Frag) : TS :=
  (tSeq (tAsg (tLst tNil) (gName 2))
    (tSeq (tIfS (tTest (tOp (rI0 fun i j => .bl (decide (j ≤ i))) (tVar 0) (tC (.int 1000000000000000000))))
    (tSeq (tAsg (tOp (rI0 fun i j => .int (i - j)) (tVar 0) (tC (.int 1000000000000000000))) (gName 3))
    (tSeq (tFor (iList K (tVar 1)) (gName 4)
    (tSeq (tDrop (tBM K "list" rAppend (tVar 2) (tCons (tOp (rI (fun _ j => 0 < j) fun i j => .int (i % j)) (tCB (fun xs H Q => (∃ i, xs = [V.int i] ∧ Q (V.int i) H) ∨ ∃ k, xs = [V.bl k] ∧ Q (V.int (if k then 1 else 0)) H) (tCons (tVar 3) tNil)) (tVar 4)) tNil)))
    (tAsg (tOp (rI CDivW fun i j => .int (i / j)) (tVar 3) (tVar 4)) (gName 3))))
    (tRet (tVar 2))))
    tNext)
    (tSeq (tFor (iRng1 (tCons (tCB (fun xs H Q => ∃ p ys, xs = [V.ref p] ∧ (SqL K H p ys ∨ SqT K H p ys) ∧ Q (V.int ys.length) H) (tCons (tVar 1) tNil)) tNil)) (gName 5)
    (tSeq (tAsg (tOp (rI (fun _ j => 0 < j) fun i j => .int (i % j)) (tCB (fun xs H Q => (∃ i, xs = [V.int i] ∧ Q (V.int i) H) ∨ ∃ k, xs = [V.bl k] ∧ Q (V.int (if k then 1 else 0)) H) (tCons (tOp (rI0 fun i j => .int (i + j)) (tOp (rI0 fun i j => .int (i + j)) (tOp (rI IntMulOk fun i j => .int (i * j)) (tVar 0) (tC (.int 48271))) (tOp (rI IntMulOk fun i j => .int (i * j)) (tVar 5) (tC (.int 69621)))) (tC (.int 11))) tNil)) (tC (.int 2147483647))) (gName 6))
    (tSeq (tAsg (tOp (rI (fun _ j => 0 < j) fun i j => .int (i % j)) (tCB (fun xs H Q => (∃ i, xs = [V.int i] ∧ Q (V.int i) H) ∨ ∃ k, xs = [V.bl k] ∧ Q (V.int (if k then 1 else 0)) H) (tCons (tOp (rI0 fun i j => .int (i + j)) (tOp (rI0 fun i j => .int (i + j)) (tOp (rI IntMulOk fun i j => .int (i * j)) (tVar 6) (tOp (rI0 fun i j => .int (i + j)) (tC (.int 16807)) (tOp (rI IntMulOk fun i j => .int (i * j)) (tC (.int 2)) (tVar 5)))) (tOp (rI IntMulOk fun i j => .int (i * j)) (tOp (rI IntMulOk fun i j => .int (i * j)) (tVar 5) (tVar 5)) (tC (.int 40692)))) (tC (.int 7))) tNil)) (tC (.int 2147483399))) (gName 6))
    (tDrop (tBM K "list" rAppend (tVar 2) (tCons (tOp (rI (fun _ j => 0 < j) fun i j => .int (i % j)) (tCB (fun xs H Q => (∃ i, xs = [V.int i] ∧ Q (V.int i) H) ∨ ∃ k, xs = [V.bl k] ∧ Q (V.int (if k then 1 else 0)) H) (tCons (tOp (rI CDivW fun i j => .int (i / j)) (tVar 6) (tC (.int 31))) tNil)) (tOp (rIxL K) (tVar 1) (tVar 5))) tNil))))))
    (tRet (tVar 2)))))

def t_law_letters (K : PySem.W.Frag) (sp_law_row : Sp) : TS :=
  (tSeq (tAsg (tCall sp_law_row [] E0 (tCons (tVar 0) (tCons (tLst (tCons (tC (.int 12)) (tCons (tC (.int 26)) (tCons (tC (.int 26)) (tCons (tC (.int 26)) tNil))))) tNil))) (gName 1))
    (tSeq (tAsg (tC (.int 2)) (gName 2))
    (tSeq (tIfS (tTest (tOp (rI0 fun i j => .bl (decide (i < j))) (tOp (rIxL K) (tVar 1) (tC (.int 0))) (tC (.int 2))))
    (tAsg (tOp (rI0 fun i j => .int (i + j)) (tC (.int 1)) (tOp (rI IntMulOk fun i j => .int (i * j)) (tC (.int 2)) (tOp (rIxL K) (tVar 1) (tC (.int 0))))) (gName 2))
    tNext)
    (tSeq (tAsg (tC (T [97, 98, 99, 100, 101, 102, 103, 104, 105, 106, 107, 108, 109, 110, 111, 112, 113, 114, 115, 116, 117, 118, 119, 120, 121, 122])) (gName 3))
    (tSeq (tAsg (tC (T [])) (gName 4))
    (tSeq (tFor (iList K (tCB (rSortedS K) (tCons (tLc (iRng1 (tCons (tVar 2) tNil)) (gName 6) tYes (tOp rIxTx (tVar 3) (tOp (rIxL K) (tVar 1) (tOp (rI0 fun i j => .int (i + j)) (tC (.int 1)) (tVar 6)))) [6]) tNil))) (gName 5)
    (tIfS (tTest (tOp rNotInT (tVar 5) (tVar 4)))
    (tAsg (tOp rAddT (tVar 4) (tVar 5)) (gName 4))
    tNext))
    (tRet (tVar 4))))))))

def t_law_joint (K : PySem.W.Frag) (sp_law_row : Sp) : TS :=
  (tSeq (tAsg (tCall sp_law_row [] E0 (tCons (tVar 0) (tCons (tLst (tCons (tC (.int 4)) (tCons (tC (.int 4)) (tCons (tC (.int 7)) (tCons (tC (.int 7)) (tCons (tC (.int 7)) (tCons (tC (.int 7)) (tCons (tC (.int 7)) (tCons (tC (.int 7)) (tCons (tC (.int 4)) (tCons (tC (.int 4)) (tCons (tC (.int 3)) (tCons (tC (.int 26)) tNil))))))))))))) tNil))) (gName 3))
    (tSeq (tAsg (tC (T [97, 98, 99, 100, 101, 102, 103, 104, 105, 106, 107, 108, 109, 110, 111, 112, 113, 114, 115, 116, 117, 118, 119, 120, 121, 122])) (gName 4))
    (tSeq (tAsg (tOp rAddT (tVar 1) (tVar 1)) (gName 5))
    (tSeq (tAsg (tOp rAddT (tOp rAddT (tSl rSlTx (tOp rAddT (tVar 5) (tVar 5)) tNoPart (tPart (tC (.int 4)))) (tC (T [63, 63]))) (tOp rIxTx (tVar 4) (tOp (rIxL K) (tVar 3) (tC (.int 11))))) (gName 5))
    (tSeq (tAsg (tM1 (rJoinE K) (tC (T [])) (tLc (iRng1 (tCons (tOp (rIxL K) (tVar 3) (tC (.int 0))) tNil)) (gName 8) tYes (tOp rIxTx (tVar 5) (tOp (rIxL K) (tVar 3) (tOp (rI0 fun i j => .int (i + j)) (tC (.int 2)) (tVar 8)))) [8])) (gName 6))
    (tSeq (tAsg (tM1 (rJoinE K) (tC (T [])) (tLc (iRng1 (tCons (tOp (rIxL K) (tVar 3) (tC (.int 1))) tNil)) (gName 8) tYes (tOp rIxTx (tVar 5) (tOp (rIxL K) (tVar 3) (tOp (rI0 fun i j => .int (i + j)) (tC (.int 5)) (tVar 8)))) [8])) (gName 7))
    (tSeq (tIfS (tAnd (tTest (tOp (rI0 fun i j => .bl (decide (j < i))) (tOp (rIxL K) (tVar 3) (tC (.int 0))) (tC (.int 0)))) (tTest (tOp rEq (tOp (rIxL K) (tVar 3) (tC (.int 8))) (tC (.int 0)))))
    (tAsg (tOp rAddT (tC (T [46])) (tSl rSlTx (tVar 6) (tPart (tC (.int 1))) tNoPart)) (gName 6))
    tNext)
    (tSeq (tIfS (tAnd (tTest (tOp (rI0 fun i j => .bl (decide (j < i))) (tOp (rIxL K) (tVar 3) (tC (.int 1))) (tC (.int 0)))) (tTest (tOp rEq (tOp (rIxL K) (tVar 3) (tC (.int 9))) (tC (.int 0)))))
    (tAsg (tOp rAddT (tSl rSlTx (tVar 7) tNoPart (tPart (tUn (rU fun i => .int (-i)) (tC (.int 1))))) (tC (T [46]))) (gName 7))
    tNext)
    (tRet (tTup (tCons (tVar 6) (tCons (tVar 7) (tCons (tOp (rI0 fun i j => .bl (decide (i < j))) (tOp (rIxL K) (tVar 3) (tC (.int 10))) (tVar 2)) tNil)))))))))))))

def t_law_written (K : PySem.W.Frag) : TS :=
  (tSeq (tIfS (tB (tOp (rIxT K) (tVar 0) (tC (.int 2))))
    (tRet (tOp rAddT (tOp rAddT (tOp rAddT (tOp (rIxT K) (tVar 0) (tC (.int 0))) (tC (T [45]))) (tOp (rIxT K) (tVar 0) (tC (.int 1)))) (tC (T [32, 110, 111]))))
    tNext)
    (tRet (tOp rAddT (tOp rAddT (tOp (rIxT K) (tVar 0) (tC (.int 0))) (tC (T [45]))) (tOp (rIxT K) (tVar 0) (tC (.int 1))))))

def t_law_list (K : PySem.W.Frag) (sp_law_cell sp_law_row sp_law_joint : Sp) : TS :=
  (tSeq (tAsg (tCall sp_law_row [] E0 (tCons (tCall sp_law_cell [] E0 (tCons (tVar 0) (tCons (tVar 1) tNil))) (tCons (tLst (tCons (tC (.int 4)) (tCons (tC (.int 5)) (tCons (tC (.int 8)) (tCons (tC (.int 3)) tNil))))) tNil))) (gName 3))
    (tSeq (tAsg (tOp (rIxL K) (tVar 3) (tC (.int 1))) (gName 4))
    (tSeq (tIfS (tTest (tOp rEq (tOp (rIxL K) (tVar 3) (tC (.int 0))) (tC (.int 0))))
    (tAsg (tOp (rIxL K) (tVar 3) (tC (.int 2))) (gName 4))
    tNext)
    (tSeq (tAsg (tC (.int 1)) (gName 5))
    (tSeq (tIfS (tTest (tOp (rI0 fun i j => .bl (decide (j < i))) (tOp (rIxL K) (tVar 3) (tC (.int 3))) (tC (.int 0))))
    (tAsg (tC (.int 2)) (gName 5))
    tNext)
    (tSeq (tAsg (tLst tNil) (gName 6))
    (tSeq (tFor (iRng1 (tCons (tVar 4) tNil)) (gName 7)
    (tSeq (tAsg (tCall sp_law_cell [] E0 (tCons (tVar 0) (tCons (tOp (rI0 fun i j => .int (i + j)) (tOp (rI0 fun i j => .int (i + j)) (tVar 1) (tC (.int 1))) (tVar 7)) tNil))) (gName 8))
    (tDrop (tBM K "list" rAppend (tVar 6) (tCons (tCall sp_law_joint [] E0 (tCons (tOp (rI0 fun i j => .int (i + j)) (tVar 8) (tVar 7)) (tCons (tVar 2) (tCons (tVar 5) tNil)))) tNil)))))
    (tSeq (tIfS (tTest (tOp (rI0 fun i j => .bl (decide (j < i))) (tOp (rIxL K) (tVar 3) (tC (.int 3))) (tC (.int 0))))
    (tDrop (tBM K "list" rAppend (tVar 6) (tCons (tTup (tCons (tC (T [])) (tCons (tC (T [])) (tCons (tC (.bl false)) tNil)))) tNil)))
    tNext)
    (tRet (tVar 6))))))))))

def t_law_says (K : PySem.W.Frag) : TS :=
  (tSeq (tIfS (tTest (tOp rNe (tCB rLenT (tCons (tVar 0) tNil)) (tCB rLenT (tCons (tVar 1) tNil))))
    (tRet (tC (.bl false)))
    tNext)
    (tSeq (tFor (iRng1 (tCons (tCB rLenT (tCons (tVar 0) tNil)) tNil)) (gName 2)
    (tIfS (tAnd (tTest (tOp rNeT (tOp rIxTx (tVar 0) (tVar 2)) (tOp rIxTx (tVar 1) (tVar 2)))) (tOr (tTest (tOp rNeT (tOp rIxTx (tVar 0) (tVar 2)) (tC (T [63])))) (tTest (tOp rEqT (tOp rIxTx (tVar 1) (tVar 2)) (tC (T [46]))))))
    (tRet (tC (.bl false)))
    tNext))
    (tRet (tC (.bl true)))))

def t_law_fits (K : PySem.W.Frag) (sp_law_says : Sp) : TS :=
  (tSeq (tAsg (tOp rAddT (tC (T [46])) (tSl rSlTx (tVar 1) tNoPart (tPart (tVar 2)))) (gName 3))
    (tSeq (tAsg (tOp rAddT (tSl rSlTx (tVar 1) (tPart (tVar 2)) tNoPart) (tC (T [46]))) (gName 4))
    (tSeq (tAsg (tOp (rI0 fun i j => .int (i - j)) (tCB rLenT (tCons (tVar 3) tNil)) (tCB rLenT (tCons (tOp (rIxT K) (tVar 0) (tC (.int 0))) tNil))) (gName 5))
    (tSeq (tIfS (tOr (tTest (tOp (rI0 fun i j => .bl (decide (i < j))) (tVar 5) (tC (.int 0)))) (tNot (tB (tCall sp_law_says [] E0 (tCons (tOp (rIxT K) (tVar 0) (tC (.int 0))) (tCons (tSl rSlTx (tVar 3) (tPart (tVar 5)) tNoPart) tNil))))))
    (tRet (tC (.bl false)))
    tNext)
    (tRet (tCall sp_law_says [] E0 (tCons (tOp (rIxT K) (tVar 0) (tC (.int 1))) (tCons (tSl rSlTx (tVar 4) tNoPart (tPart (tCB rLenT (tCons (tOp (rIxT K) (tVar 0) (tC (.int 1))) tNil)))) tNil))))))))

def t_law_is_joint (K : PySem.W.Frag) (sp_law_fits : Sp) : TS :=
  (tSeq (tFor (iList K (tVar 0)) (gName 3)
    (tIfS (tB (tCall sp_law_fits [] E0 (tCons (tVar 3) (tCons (tVar 1) (tCons (tVar 2) tNil)))))
    (tRet (tNotV (tOp (rIxT K) (tVar 3) (tC (.int 2)))))
    tNext))
    (tRet (tC (.bl false))))

def t_law_word (K : PySem.W.Frag) (sp_law_row : Sp) : TS :=
  (tSeq (tAsg (tLst (tCons (tC (.int 3)) (tCons (tC (.int 8)) (tCons (tC (.int 40)) (tCons (tC (.int 6)) tNil))))) (gName 2))
    (tSeq (tFor (iRng1 (tCons (tC (.int 40)) tNil)) (gName 3)
    (tDrop (tBM K "list" rAppend (tVar 2) (tCons (tCB rLenT (tCons (tVar 1) tNil)) tNil))))
    (tSeq (tAsg (tCall sp_law_row [] E0 (tCons (tVar 0) (tCons (tVar 2) tNil))) (gName 4))
    (tSeq (tAsg (tOp (rI0 fun i j => .int (i + j)) (tC (.int 1)) (tOp (rIxL K) (tVar 4) (tC (.int 2)))) (gName 5))
    (tSeq (tIfS (tTest (tOp rEq (tOp (rIxL K) (tVar 4) (tC (.int 0))) (tC (.int 0))))
    (tAsg (tOp (rI0 fun i j => .int (i + j)) (tC (.int 1)) (tOp (rIxL K) (tVar 4) (tC (.int 1)))) (gName 5))
    tNext)
    (tSeq (tAsg (tM1 (rJoinE K) (tC (T [])) (tLc (iRng1 (tCons (tC (.int 40)) tNil)) (gName 3) tYes (tOp rIxTx (tVar 1) (tOp (rIxL K) (tVar 4) (tOp (rI0 fun i j => .int (i + j)) (tC (.int 4)) (tVar 3)))) [3])) (gName 6))
    (tSeq (tIfS (tTest (tOp rEq (tOp (rIxL K) (tVar 4) (tC (.int 0))) (tC (.int 1))))
    (tAsg (tOp rMulT (tSl rSlTx (tVar 6) tNoPart (tPart (tOp (rI0 fun i j => .int (i + j)) (tC (.int 1)) (tOp (rIxL K) (tVar 4) (tC (.int 3)))))) (tC (.int 40))) (gName 6))
    tNext)
    (tRet (tSl rSlTx (tVar 6) tNoPart (tPart (tVar 5)))))))))))

def t_law_numbers (K : PySem.W.Frag) (sp_law_row : Sp) : TS :=
  (tSeq (tAsg (tCall sp_law_row [] E0 (tCons (tVar 0) (tCons (tLst (tCons (tC (.int 8)) (tCons (tC (.int 3)) (tCons (tC (.int 3)) (tCons (tC (.int 3)) (tCons (tC (.int 3)) (tCons (tC (.int 9)) (tCons (tC (.int 10)) (tCons (tC (.int 9)) (tCons (tC (.int 9)) (tCons (tC (.int 9)) (tCons (tC (.int 7)) (tCons (tC (.int 16)) (tCons (tC (.int 16)) (tCons (tC (.int 30)) (tCons (tC (.int 31)) (tCons (tC (.int 31)) (tCons (tC (.int 31)) (tCons (tC (.int 1000)) (tCons (tC (.int 2)) tNil)))))))))))))))))))) tNil))) (gName 2))
    (tSeq (tAsg tDNewK (gName 3))
    (tSeq (tFor (iRng1 (tCons (tCB rLenT (tCons (tVar 1) tNil)) tNil)) (gName 4)
    (tSeq (sDPut (tVar 3) (tOp rIxTx (tVar 1) (tVar 4)) (tOp (rI0 fun i j => .int (i + j)) (tC (.int 1)) (tOp (rIxL K) (tVar 2) (tOp (rI0 fun i j => .int (i + j)) (tC (.int 1)) (tVar 4)))))
    (tIfS (tTest (tOp rEq (tOp (rIxL K) (tVar 2) (tC (.int 0))) (tC (.int 0))))
    (sDPut (tVar 3) (tOp rIxTx (tVar 1) (tVar 4)) (tOp (rI0 fun i j => .int (i + j)) (tC (.int 4)) (tOp (rIxL K) (tVar 2) (tOp (rI0 fun i j => .int (i + j)) (tC (.int 7)) (tVar 4)))))
    (tIfS (tAnd (tTest (tOp rEq (tOp (rIxL K) (tVar 2) (tC (.int 0))) (tC (.int 1)))) (tTest (tOp rEq (tCB rLenT (tCons (tVar 1) tNil)) (tC (.int 1)))))
    (sDPut (tVar 3) (tOp rIxTx (tVar 1) (tVar 4)) (tOp (rI0 fun i j => .int (i + j)) (tC (.int 1)) (tOp (rIxL K) (tVar 2) (tC (.int 13)))))
    tNext))))
    (tSeq (tAsg (tLst (tCons (tOp (rIxL K) (tVar 2) (tC (.int 4))) (tCons (tOp (rI0 fun i j => .int (i - j)) (tOp (rIxL K) (tVar 2) (tC (.int 5))) (tC (.int 1))) (tCons (tOp (rI0 fun i j => .int (i - j)) (tOp (rIxL K) (tVar 2) (tC (.int 6))) (tC (.int 1))) tNil)))) (gName 5))
    (tSeq (tIfS (tTest (tOp rEq (tOp (rIxL K) (tVar 2) (tC (.int 0))) (tC (.int 0))))
    (tAsg (tLst (tCons (tOp (rIxL K) (tVar 2) (tC (.int 10))) (tCons (tOp (rI0 fun i j => .int (i + j)) (tC (.int 15)) (tOp (rIxL K) (tVar 2) (tC (.int 11)))) (tCons (tOp (rI0 fun i j => .int (i + j)) (tC (.int 15)) (tOp (rIxL K) (tVar 2) (tC (.int 12)))) tNil)))) (gName 5))
    (tIfS (tAnd (tTest (tOp rEq (tOp (rIxL K) (tVar 2) (tC (.int 0))) (tC (.int 1)))) (tTest (tOp rEq (tCB rLenT (tCons (tVar 1) tNil)) (tC (.int 1)))))
    (tAsg (tLst (tCons (tOp (rIxL K) (tVar 2) (tC (.int 14))) (tCons (tOp (rIxL K) (tVar 2) (tC (.int 15))) (tCons (tOp (rIxL K) (tVar 2) (tC (.int 16))) tNil)))) (gName 5))
    (tIfS (tTest (tOp rEq (tOp (rIxL K) (tVar 2) (tC (.int 0))) (tC (.int 2))))
    (tAsg (tOp (rI0 fun i j => .int (i - j)) (tC (.int 0)) (tOp (rIxL K) (tVar 2) (tC (.int 17)))) (gSub (tVar 5) (tOp (rI0 fun i j => .int (i + j)) (tC (.int 1)) (tOp (rIxL K) (tVar 2) (tC (.int 18)))) rSetL))
    tNext)))
    (tRet (tTup (tCons (tVar 3) (tCons (tVar 5) tNil)))))))))

def t_law_can_be_set (K : PySem.W.Frag) (sp_law_is_joint : Sp) : TS :=
  (tSeq (tAsg (tLst (tCons (tDGet (tVar 2) (tOp rIxTx (tVar 1) (tC (.int 0)))) tNil)) (gName 4))
    (tSeq (tFor (iRng2 (tCons (tC (.int 1)) (tCons (tCB rLenT (tCons (tVar 1) tNil)) tNil))) (gName 5)
    (tSeq (tIfS (tB (tCall sp_law_is_joint [] E0 (tCons (tVar 0) (tCons (tVar 1) (tCons (tVar 5) tNil)))))
    (tDrop (tBM K "list" rAppend (tVar 4) (tCons (tC (.int 0)) tNil)))
    tNext)
    (tAsg (tOp (rI0 fun i j => .int (i + j)) (tOp (rIxL K) (tVar 4) (tUn (rU fun i => .int (-i)) (tC (.int 1)))) (tDGet (tVar 2) (tOp rIxTx (tVar 1) (tVar 5)))) (gSub (tVar 4) (tUn (rU fun i => .int (-i)) (tC (.int 1))) rSetL))))
    (tSeq (tAsg (tLst (tCons (tC (.bl true)) tNil)) (gName 6))
    (tSeq (tFor (iRng2 (tCons (tC (.int 1)) (tCons (tOp (rI0 fun i j => .int (i + j)) (tCB (fun xs H Q => ∃ p ys, xs = [V.ref p] ∧ (SqL K H p ys ∨ SqT K H p ys) ∧ Q (V.int ys.length) H) (tCons (tVar 4) tNil)) (tC (.int 1))) tNil))) (gName 7)
    (tSeq (tAsg (tOp (rIxL K) (tVar 3) (tC (.int 0))) (gName 8))
    (tSeq (tIfS (tTest (tOp rEq (tVar 7) (tCB (fun xs H Q => ∃ p ys, xs = [V.ref p] ∧ (SqL K H p ys ∨ SqT K H p ys) ∧ Q (V.int ys.length) H) (tCons (tVar 4) tNil))))
    (tAsg (tC (.int 0)) (gName 8))
    tNext)
    (tSeq (tAsg (tC (.bl false)) (gName 9))
    (tSeq (tFor (iRng1 (tCons (tVar 7) tNil)) (gName 10)
    (tSeq (tAsg (tOp (rI0 fun i j => .int (i - j)) (tOp (rI0 fun i j => .int (i - j)) (tVar 7) (tC (.int 1))) (tVar 10)) (gName 11))
    (tSeq (tAsg (tOp (rI0 fun i j => .int (i + j)) (tVar 8) (tOp (rIxL K) (tVar 4) (tVar 11))) (gName 8))
    (tSeq (tAsg (tOp (rIxL K) (tVar 3) (tC (.int 1))) (gName 12))
    (tSeq (tIfS (tTest (tOp rEq (tVar 11) (tC (.int 0))))
    (tAsg (tOp (rIxL K) (tVar 3) (tC (.int 2))) (gName 12))
    tNext)
    (tIfS (tAnd (tB (tOp (rIxL K) (tVar 6) (tVar 11))) (tTest (tOp (rI0 fun i j => .bl (decide (i ≤ j))) (tVar 8) (tVar 12))))
    (tAsg (tC (.bl true)) (gName 9))
    tNext))))))
    (tDrop (tBM K "list" rAppend (tVar 6) (tCons (tVar 9) tNil))))))))
    (tRet (tOp (rIxL K) (tVar 6) (tUn (rU fun i => .int (-i)) (tC (.int 1)))))))))

def t_law_short_words (K : PySem.W.Frag) : TS :=
  (tSeq (tAsg (tLc (iStr (tVar 0)) (gName 1) tYes (tVar 1) [1]) (gName 2))
    (tSeq (tAsg (tCB (fun xs H Q => ∃ p ys, xs = [V.ref p] ∧ (SqL K H p ys ∨ SqT K H p ys) ∧ ∀ l, H l = none → Q (V.ref l) (upd H l (.lst ys))) (tCons (tVar 2) tNil)) (gName 3))
    (tSeq (tFor (iRng1 (tCons (tOp (rIxL K) (tLst (tCons (tC (.int 11)) (tCons (tC (.int 4)) (tCons (tC (.int 3)) tNil)))) (tOp (rI0 fun i j => .int (i - j)) (tCB rLenT (tCons (tVar 0) tNil)) (tC (.int 1)))) tNil)) (gName 4)
    (tSeq (tAsg (tLst tNil) (gName 5))
    (tSeq (tFor (iList K (tVar 2)) (gName 6)
    (tFor (iStr (tVar 0)) (gName 1)
    (tDrop (tBM K "list" rAppend (tVar 5) (tCons (tOp rAddT (tVar 6) (tVar 1)) tNil)))))
    (tSeq (tAsg (tCB (fun xs H Q => ∃ p ys, xs = [V.ref p] ∧ (SqL K H p ys ∨ SqT K H p ys) ∧ ∀ l, H l = none → Q (V.ref l) (upd H l (.lst ys))) (tCons (tVar 5) tNil)) (gName 2))
    (tAsg (tOp rCat (tVar 3) (tVar 2)) (gName 3))))))
    (tRet (tVar 3)))))

def t_law_is_ahead (K : PySem.W.Frag) : TS :=
  (tSeq (tIfS (tTest (tOp rNe (tCB rLenT (tCons (tVar 0) tNil)) (tCB rLenT (tCons (tVar 1) tNil))))
    (tRet (tOp (rI0 fun i j => .bl (decide (i < j))) (tCB rLenT (tCons (tVar 0) tNil)) (tCB rLenT (tCons (tVar 1) tNil))))
    tNext)
    (tRet (tOp rLtT (tVar 0) (tVar 1))))

def t_law_near (K : PySem.W.Frag) : TS :=
  (tSeq (tAsg (tLst tNil) (gName 2))
    (tSeq (tFor (iRng1 (tCons (tCB (fun xs H Q => ∃ i j, xs = [V.int i, V.int j] ∧ Q (V.int (if j < i then j else i)) H) (tCons (tCB rLenT (tCons (tVar 0) tNil)) (tCons (tC (.int 40)) tNil))) tNil)) (gName 3)
    (tSeq (tAsg (tSl rSlTx (tVar 0) tNoPart (tPart (tVar 3))) (gName 4))
    (tSeq (tAsg (tSl rSlTx (tVar 0) (tPart (tOp (rI0 fun i j => .int (i + j)) (tVar 3) (tC (.int 1)))) tNoPart) (gName 5))
    (tSeq (tAsg (tOp rCat (tVar 2) (tLst (tCons (tVar 4) (tCons (tVar 5) (tCons (tOp rAddT (tVar 4) (tVar 5)) tNil))))) (gName 2))
    (tFor (iStr (tVar 1)) (gName 6)
    (tIfS (tTest (tOp rLtT (tVar 6) (tOp rIxTx (tVar 0) (tVar 3))))
    (tDrop (tBM K "list" rAppend (tVar 2) (tCons (tOp rAddT (tOp rAddT (tVar 4) (tVar 6)) (tVar 5)) tNil)))
    tNext))))))
    (tRet (tLc (iList K (tVar 2)) (gName 7) (tTest (tOp rNeT (tVar 7) (tC (T [])))) (tVar 7) [7]))))

def t_law_is_word (K : PySem.W.Frag) : TS :=
  (tSeq (tIfS (tOr (tNot (tB (tCB (rIsi K) (tCons (tVar 0) (tCons (tC (.ty "str")) tNil))))) (tTest (tOp rEqT (tVar 0) (tC (T [])))))
    (tRet (tC (.bl false)))
    tNext)
    (tSeq (tFor (iStr (tVar 0)) (gName 2)
    (tIfS (tTest (tOp rNotInT (tVar 2) (tVar 1)))
    (tRet (tC (.bl false)))
    tNext))
    (tRet (tC (.bl true)))))

def t_law_holds (K : PySem.W.Frag) (sp_law_is_word sp_law_can_be_set sp_law_near sp_law_is_ahead : Sp) : TS :=
  (tSeq (tAsg (tCB (fun xs H Q => ∃ p ys, xs = [V.ref p] ∧ (SqL K H p ys ∨ SqT K H p ys) ∧ ∀ l, H l = none → Q (V.ref l) (upd H l (.lst ys))) (tCons (tVar 5) tNil)) (gName 6))
    (tSeq (tIfS (tTest (tOp (fun x y H Q => y = V.non ∧ Q (V.bl (!decide (x = V.non))) H) (tVar 0) (tC .non)))
    (tSeq (tIfS (tNot (tB (tCall sp_law_is_word [] E0 (tCons (tVar 0) (tCons (tVar 2) tNil)))))
    (tRet (tC (.bl false)))
    tNext)
    (tSeq (tIfS (tB (tCall sp_law_can_be_set [] E0 (tCons (tVar 1) (tCons (tVar 0) (tCons (tVar 3) (tCons (tVar 4) tNil))))))
    (tRet (tC (.bl false)))
    tNext)
    (tAsg (tOp rCat (tVar 6) (tCall sp_law_near [] E0 (tCons (tVar 0) (tCons (tVar 2) tNil)))) (gName 6))))
    tNext)
    (tSeq (tFor (iList K (tVar 6)) (gName 7)
    (tIfS (tOr (tTest (tOp (fun x y H Q => y = V.non ∧ Q (V.bl (decide (x = V.non))) H) (tVar 0) (tC .non))) (tB (tCall sp_law_is_ahead [] E0 (tCons (tVar 7) (tCons (tVar 0) tNil)))))
    (tIfS (tNot (tB (tCall sp_law_can_be_set [] E0 (tCons (tVar 1) (tCons (tVar 7) (tCons (tVar 3) (tCons (tVar 4) tNil)))))))
    (tRet (tC (.bl false)))
    tNext)
    tNext))
    (tRet (tC (.bl true))))))

def t_law_overflow (K : PySem.W.Frag) (sp_overflow : Sp) : TS :=
  (tSeq (tAsg (tVar 3) (gUnl K 3 (gCons (gName 4) (gCons (gName 5) (gCons (gName 6) gNil)))))
    (tRet (tCallK sp_overflow gK E0 (tCons (tVar 0) (tCons (tVar 1) (tCons (tVar 2) tNil))) (tCons (tVar 4) (tCons (tVar 5) (tCons (tVar 6) tNil))))))

def t_law (K : PySem.W.Frag) (C : Addr) (sp_law_cell sp_law_letters sp_law_list sp_law_written sp_law_numbers sp_law_word sp_law_overflow sp_law_short_words sp_law_holds sp_heaviest_syllable sp_law_row sp_init : Sp) : TS :=
  (tSeq (tAsg (tCall sp_law_letters [] E0 (tCons (tCall sp_law_cell [] E0 (tCons (tVar 0) (tCons (tC (.int 0)) tNil))) tNil)) (gName 1))
    (tSeq (tAsg (tCall sp_law_list [] E0 (tCons (tVar 0) (tCons (tC (.int 1)) (tCons (tVar 1) tNil)))) (gName 2))
    (tSeq (tAsg (tMake C sp_init [] E0 (tCons (tLc (iList K (tVar 2)) (gName 16) tYes (tCall sp_law_written [] E0 (tCons (tVar 16) tNil)) [16]) tNil)) (gName 3))
    (tSeq (tAsg (tCall sp_law_numbers [] E0 (tCons (tCall sp_law_cell [] E0 (tCons (tVar 0) (tCons (tC (.int 9)) tNil))) (tCons (tVar 1) tNil))) (gTup K 2 (gCons (gName 4) (gCons (gName 5) gNil))))
    (tSeq (tAsg (tLc (iRng1 (tCons (tC (.int 3)) tNil)) (gName 15) tYes (tCall sp_law_word [] E0 (tCons (tOp (rI0 fun i j => .int (i + j)) (tCall sp_law_cell [] E0 (tCons (tVar 0) (tCons (tOp (rI0 fun i j => .int (i + j)) (tC (.int 10)) (tVar 15)) tNil))) (tVar 15)) (tCons (tVar 1) tNil))) [15]) (gName 6))
    (tSeq (tAsg (tCB rCopyD (tCons (tVar 4) tNil)) (gName 7))
    (tSeq (tAsg (tCall sp_law_overflow [] E0 (tCons (tVar 3) (tCons (tVar 1) (tCons (tVar 7) (tCons (tVar 5) tNil))))) (gName 8))
    (tSeq (tAsg (tCall sp_law_short_words [] E0 (tCons (tVar 1) tNil)) (gName 9))
    (tSeq (tIfS (tNot (tB (tCall sp_law_holds [] E0 (tCons (tVar 8) (tCons (tVar 2) (tCons (tVar 1) (tCons (tVar 4) (tCons (tVar 5) (tCons (tOp rCat (tVar 9) (tVar 6)) tNil)))))))))
    (tRet (tC (.bl false)))
    tNext)
    (tSeq (tAsg (tCB (fun xs H Q => ∃ i j, xs = [V.int i, V.int j] ∧ Q (V.int (if j < i then j else i)) H) (tCons (tOp (rIxL K) (tVar 5) (tC (.int 1))) (tCons (tOp (rIxL K) (tVar 5) (tC (.int 2))) tNil))) (gName 10))
    (tSeq (tAsg (tCB (fun xs H Q => ∃ i j, xs = [V.int i, V.int j] ∧ Q (V.int (if j > i then j else i)) H) (tCons (tOp (rIxL K) (tVar 5) (tC (.int 1))) (tCons (tOp (rIxL K) (tVar 5) (tC (.int 2))) tNil))) (gName 11))
    (tSeq (tAsg (tCall sp_heaviest_syllable [] E0 (tCons (tVar 3) (tCons (tVar 1) (tCons (tCB rCopyD (tCons (tVar 4) tNil)) tNil)))) (gName 12))
    (tSeq (tIfS (tOr (tTest (tOp (fun x y H Q => y = V.non ∧ Q (V.bl (decide (x = V.non))) H) (tVar 12) (tC .non))) (tTest (tOp (rI0 fun i j => .bl (decide (j < i))) (tOp (rIxT K) (tVar 12) (tC (.int 0))) (tVar 11))))
    (tIfS (tTest (tOp (fun x y H Q => y = V.non ∧ Q (V.bl (decide (x = V.non))) H) (tVar 8) (tC .non)))
    (tRet (tC (.bl false)))
    tNext)
    (tIfS (tAnd (tTest (tOp (rI0 fun i j => .bl (decide (i ≤ j))) (tOp (rI0 fun i j => .int (i + j)) (tOp (rIxT K) (tVar 12) (tC (.int 0))) (tOp (rIxL K) (tVar 5) (tC (.int 0)))) (tVar 10))) (tTest (tOp (fun x y H Q => y = V.non ∧ Q (V.bl (!decide (x = V.non))) H) (tVar 8) (tC .non))))
    (tRet (tC (.bl false)))
    tNext))
    (tSeq (tAsg (tCall sp_law_row [] E0 (tCons (tCall sp_law_cell [] E0 (tCons (tVar 0) (tCons (tC (.int 13)) tNil))) (tCons (tLst (tCons (tC (.int 10)) (tCons (tC (.int 31)) tNil))) tNil))) (gName 13))
    (tSeq (tAsg (tLst (tCons (tOp (rIxL K) (tVar 5) (tC (.int 0))) (tCons (tOp (rIxL K) (tVar 5) (tC (.int 1))) (tCons (tOp (rI0 fun i j => .int (i - j)) (tOp (rIxL K) (tVar 13) (tC (.int 0))) (tC (.int 1))) tNil)))) (gName 14))
    (tSeq (tIfS (tOr (tTest (tOp rEq (tCB rLenT (tCons (tVar 1) tNil)) (tC (.int 1)))) (tTest (tOp (rI0 fun i j => .bl (decide (j < i))) (tCB (rMin K) (tCons (tLc (iStr (tVar 1)) (gName 17) tYes (tDGet (tVar 4) (tVar 17)) [17]) tNil)) (tC (.int 3)))))
    (tAsg (tOp (rIxL K) (tVar 13) (tC (.int 1))) (gSub (tVar 14) (tC (.int 2)) rSetL))
    tNext)
    (tSeq (tAsg (tCall sp_law_overflow [] E0 (tCons (tVar 3) (tCons (tVar 1) (tCons (tVar 7) (tCons (tVar 14) tNil))))) (gName 8))
    (tSeq (tIfS (tTest (tOp rNeDA (tVar 7) (tVar 4)))
    (tRet (tC (.bl false)))
    tNext)
    (tRet (tCall sp_law_holds [] E0 (tCons (tVar 8) (tCons (tVar 2) (tCons (tVar 1) (tCons (tVar 4) (tCons (tVar 14) (tCons (tVar 6) tNil))))))))))))))))))))))))))
end K33
set_option Elab.async false
set_option linter.all false
set_option maxRecDepth 100000
set_option maxHeartbeats 8000000
namespace K33
open PySem PySem.Spec PyProof.Rows L2
def topS (i : Nat) : Stmt := PySem.Challenge.pw_laidforall_k33_whole_overflow.main.body.getD i (.Pass ⟨0, 0, 0, 0⟩)
abbrev s_sides : Stmt := topS 2
theorem sc_sides : FnScope ["letters", "found", "longest", "turn", "text", "letter"] ["letters"] (defScope s_sides) := ⟨rfl, rfl, rfl, by decide +kernel, rfl, by decide +kernel, by decide +kernel⟩
theorem w_sides {P : Program} {w : World} {K : PySem.W.Frag} {mg : Str → Option Value} {base : Heap} {tN tL : Tok} {f : Addr} {cdv : Value} {A : Around} {outer : List Env} {s : Shared} {H : Hp} {E : XK}
    (hr : Room 0 (A.deeper (envOfC "sides" (defScope s_sides) s.heap.objs.size f cdv))) (B : Bl mg) (G : Gb mg tN tL) :
    PSs (cxOf CX0 P w K mg base ["letters", "found", "longest", "turn", "text", "letter"] "sides" (defScope s_sides) f cdv A outer s H E).nox (defBody s_sides) (t_sides K) := by
  exact (pss_cons (ps_set (i := 1) sc_sides.nd rfl (Or.inl rfl) (pe_lst pa_nil))
    (pss_cons (ps_set (i := 2) sc_sides.nd rfl (Or.inl rfl) (pe_lst (pa_cons (pe_tx (l := []) (by decide +kernel)) pa_nil)))
    (pss_cons (ps_for PassesOwn.never rfl (pi_range1 (by rfl) B.range (pa_cons pe_int pa_nil)) (pg_name (i := 3) sc_sides.nd rfl (Or.inl rfl))
    (pss_cons (ps_setLc2 (i := 2) (own := [("text", 4), ("letter", 5)]) (vs1 := [5]) (g := (gName 4)) (tt := tYes) (g1 := (gName 5)) (tt1 := tYes) rfl sc_sides.nd rfl rfl (sw_true rfl rfl rfl (by decide +kernel)) (pi_list (pv 2)) (blkOk_by (own := [("text", 4), ("letter", 5)]) (N := ["letters", "found", "longest", "turn", "text", "letter"]) (sc := defScope s_sides) (by decide +kernel)) (by decide) (fun _ _ _ _ _ => (pg_name (i := 4) sc_sides.nd rfl (Or.inl rfl))) (fun _ _ _ _ _ => pts_nil) (fun _ _ _ _ _ => (pi_str (pv 0))) (fun _ _ _ _ _ => (pg_name (i := 5) sc_sides.nd rfl (Or.inl rfl))) (fun _ _ _ _ _ => pts_nil) (fun _ _ _ _ _ => (pe_op tx_add (pv 4) (pv 5))))
    (pss_one (ps_set (i := 1) sc_sides.nd rfl (Or.inl rfl) (pe_op op_cat (pv 1) (pv 2))))))
    (pss_one (ps_ret (pv 1))))))

abbrev s_joint_table : Stmt := topS 3
theorem sc_joint_table : FnScope ["joints", "letters", "around", "left", "right"] ["joints", "letters"] (defScope s_joint_table) := ⟨rfl, rfl, rfl, by decide +kernel, rfl, by decide +kernel, by decide +kernel⟩
theorem w_joint_table {P : Program} {w : World} {K : PySem.W.Frag} {mg : Str → Option Value} {base : Heap} {tN tL : Tok} {C : Addr} {sp_sides sp_is_joint : Sp} {f : Addr} {cdv : Value} {A : Around} {outer : List Env} {s : Shared} {H : Hp} {E : XK}
    (hr : Room 3 (A.deeper (envOfC "joint_table" (defScope s_joint_table) s.heap.objs.size f cdv))) (B : Bl mg) (G : Gb mg tN tL)
    (C_sides : Cal P w K mg base "sides" 1 ["letters"] sp_sides)
    (cl : Cls K C) (CM : CalM P w K mg base C "is_joint" 3 ["self", "word", "gap"] sp_is_joint) :
    PSs (cxOf CX0 P w K mg base ["joints", "letters", "around", "left", "right"] "joint_table" (defScope s_joint_table) f cdv A outer s H E).nox (defBody s_joint_table) (t_joint_table K C sp_sides sp_is_joint) := by
  obtain ⟨fM, fdM, GM, mM, bM⟩ := CM
  exact (pss_cons (ps_set (i := 2) sc_joint_table.nd rfl (Or.inr rfl) (pe_cal C_sides (hr.mono (by decide)) (by rfl) (pa_cons (pv 1) pa_nil)))
    (pss_one (ps_ret (pe_dc2 (own := [("left", 3), ("right", 4)]) (vs1 := [4]) (g := (gName 3)) (g1 := (gName 4)) (hu_of hr) rfl sc_joint_table.nd (pi_list (pv 2)) (blkOk_by (own := [("left", 3), ("right", 4)]) (N := ["joints", "letters", "around", "left", "right"]) (sc := defScope s_joint_table) (by decide +kernel)) (by decide) (fun _ _ _ _ _ => (pg_name (i := 3) sc_joint_table.nd rfl (Or.inl rfl))) (fun _ _ _ _ _ => (pi_list (pv 2))) (fun _ _ _ _ _ => (pg_name (i := 4) sc_joint_table.nd rfl (Or.inl rfl))) (fun _ _ _ _ _ => (pe_tup (pa_cons (pv 3) (pa_cons (pv 4) pa_nil)))) (fun _ _ _ _ _ => (pe_meth (pv 0) cl mM GM (hr.mono (by decide)) bM .nil pass0 (pa_cons (pe_op tx_add (pv 3) (pv 4)) (pa_cons (pe_callB tx_len (by rfl) B.len PySem.boot_len (pa_cons (pv 3) pa_nil)) pa_nil))))))))

abbrev s_next_gaps : Stmt := topS 4
theorem sc_next_gaps : FnScope ["pair", "letters", "left", "right", "before", "found", "letter"] ["pair", "letters"] (defScope s_next_gaps) := ⟨rfl, rfl, rfl, by decide +kernel, rfl, by decide +kernel, by decide +kernel⟩
theorem w_next_gaps {P : Program} {w : World} {K : PySem.W.Frag} {mg : Str → Option Value} {base : Heap} {tN tL : Tok} {f : Addr} {cdv : Value} {A : Around} {outer : List Env} {s : Shared} {H : Hp} {E : XK}
    (hr : Room 0 (A.deeper (envOfC "next_gaps" (defScope s_next_gaps) s.heap.objs.size f cdv))) (B : Bl mg) (G : Gb mg tN tL) :
    PSs (cxOf CX0 P w K mg base ["pair", "letters", "left", "right", "before", "found", "letter"] "next_gaps" (defScope s_next_gaps) f cdv A outer s H E).nox (defBody s_next_gaps) (t_next_gaps K) := by
  exact (pss_cons (ps_asg (pv 0) (pg_tup rfl (pgs_cons (pg_name (i := 2) sc_next_gaps.nd rfl (Or.inl rfl)) (pgs_cons (pg_name (i := 3) sc_next_gaps.nd rfl (Or.inr rfl)) pgs_nil))))
    (pss_cons (ps_set (i := 4) sc_next_gaps.nd rfl (Or.inr rfl) (pe_slice tx_sl (pe_op tx_add (pv 2) (pe_ix tx_ix (pv 3) pe_int (fun _ _ => rfl))) (po_some (pe_un un_neg pe_int)) po_none))
    (pss_cons (ps_set (i := 5) sc_next_gaps.nd rfl (Or.inl rfl) (pe_lst (pa_cons (pe_tup (pa_cons (pv 4) (pa_cons (pe_slice tx_sl (pv 3) (po_some pe_int) po_none) pa_nil))) pa_nil)))
    (pss_cons (ps_if (pt_cmpR op_eq (pe_callB tx_len (by rfl) B.len PySem.boot_len (pa_cons (pv 3) pa_nil)) pe_int (nomark _))
    (pss_one (ps_set (i := 5) sc_next_gaps.nd rfl (Or.inl rfl) (pe_op op_cat (pv 5) (pe_lc (own := [("letter", 6)]) (g := (gName 6)) (tt := tYes) rfl sc_next_gaps.nd (pi_str (pv 1)) (blkOk_by (own := [("letter", 6)]) (N := ["pair", "letters", "left", "right", "before", "found", "letter"]) (sc := defScope s_next_gaps) (by decide +kernel)) (fun _ _ _ _ _ => (pg_name (i := 6) sc_next_gaps.nd rfl (Or.inl rfl))) (fun _ _ _ _ _ => pts_nil) (fun _ _ _ _ _ => (pe_tup (pa_cons (pv 4) (pa_cons (pe_op tx_add (pe_slice tx_sl (pv 3) (po_some pe_int) po_none) (pv 6)) pa_nil))))))))
    pss_nil)
    (pss_one (ps_ret (pv 5)))))))

abbrev s_best_tail : Stmt := topS 5
theorem sc_best_tail : FnScope ["pair", "table", "tails", "letters", "weight", "best", "gap", "total"] ["pair", "table", "tails", "letters", "weight"] (defScope s_best_tail) := ⟨rfl, rfl, rfl, by decide +kernel, rfl, by decide +kernel, by decide +kernel⟩
theorem w_best_tail {P : Program} {w : World} {K : PySem.W.Frag} {mg : Str → Option Value} {base : Heap} {tN tL : Tok} {sp_next_gaps : Sp} {f : Addr} {cdv : Value} {A : Around} {outer : List Env} {s : Shared} {H : Hp} {E : XK}
    (hr : Room 1 (A.deeper (envOfC "best_tail" (defScope s_best_tail) s.heap.objs.size f cdv))) (B : Bl mg) (G : Gb mg tN tL)
    (C_next_gaps : Cal P w K mg base "next_gaps" 1 ["pair", "letters"] sp_next_gaps) :
    PSs (cxOf CX0 P w K mg base ["pair", "table", "tails", "letters", "weight", "best", "gap", "total"] "best_tail" (defScope s_best_tail) f cdv A outer s H E).nox (defBody s_best_tail) (t_best_tail K sp_next_gaps) := by
  exact (pss_cons (ps_set (i := 5) sc_best_tail.nd rfl (Or.inl rfl) pe_non)
    (pss_cons (ps_for PassesOwn.never rfl (pi_list (pe_cal C_next_gaps (hr.mono (by decide)) (by rfl) (pa_cons (pv 0) (pa_cons (pv 3) pa_nil)))) (pg_name (i := 6) sc_best_tail.nd rfl (Or.inl rfl))
    (pss_cons (ps_set (i := 7) sc_best_tail.nd rfl (Or.inl rfl) (pe_dget (hu_of hr) (pv 4) (pe_ix tx_ix (pe_ix ix_tup (pv 0) pe_int (fun _ _ => rfl)) pe_int (fun _ _ => rfl)) (fun _ _ => rfl)))
    (pss_cons (ps_if (PW.pt (pw_and (pt_cmpR tx_ne (pe_ix ix_tup (pv 6) pe_int (fun _ _ => rfl)) (pe_tx (l := []) (by decide +kernel)) (nomark _)) (pw_and1 (pt_not (pt_val (pe_dget (hu_of hr) (pv 1) (pv 6) (fun _ _ => rfl)))))))
    (pss_cons (ps_if (pt_cmp (pc_dnotin (hu_of hr) (pv 6) (pv 2)))
    (pss_one (ps_ret pe_non))
    pss_nil)
    (pss_one (ps_set (i := 7) sc_best_tail.nd rfl (Or.inl rfl) (pe_op op_add (pv 7) (pe_ix ix_tup (pe_dget (hu_of hr) (pv 2) (pv 6) (fun _ _ => rfl)) pe_int (fun _ _ => rfl))))))
    pss_nil)
    (pss_one (ps_if (PW.pt (pw_or (pt_cmpR op_isN (pv 5) pe_non (nomark _)) (pw_or1 (pt_cmpR op_gt (pv 7) (pe_ix ix_tup (pv 5) pe_int (fun _ _ => rfl)) (nomark _)))))
    (pss_one (ps_set (i := 5) sc_best_tail.nd rfl (Or.inl rfl) (pe_tup (pa_cons (pv 7) (pa_cons (pv 6) pa_nil)))))
    pss_nil)))))
    (pss_one (ps_ret (pv 5)))))

abbrev s_heaviest_tails : Stmt := topS 6
theorem sc_heaviest_tails : FnScope ["table", "letters", "weight", "tails", "pair", "waiting", "missing", "tail"] ["table", "letters", "weight"] (defScope s_heaviest_tails) := ⟨rfl, rfl, rfl, by decide +kernel, rfl, by decide +kernel, by decide +kernel⟩
theorem w_heaviest_tails {P : Program} {w : World} {K : PySem.W.Frag} {mg : Str → Option Value} {base : Heap} {tN tL : Tok} {sp_best_tail : Sp} {f : Addr} {cdv : Value} {A : Around} {outer : List Env} {s : Shared} {H : Hp} {E : XK}
    (hr : Room 2 (A.deeper (envOfC "heaviest_tails" (defScope s_heaviest_tails) s.heap.objs.size f cdv))) (B : Bl mg) (G : Gb mg tN tL)
    (C_best_tail : Cal P w K mg base "best_tail" 2 ["pair", "table", "tails", "letters", "weight"] sp_best_tail) :
    PSs (cxOf CX0 P w K mg base ["table", "letters", "weight", "tails", "pair", "waiting", "missing", "tail"] "heaviest_tails" (defScope s_heaviest_tails) f cdv A outer s H E).nox (defBody s_heaviest_tails) (t_heaviest_tails K sp_best_tail) := by
  exact (pss_cons (ps_set (i := 3) sc_heaviest_tails.nd rfl (Or.inl rfl) pe_dnewT)
    (pss_cons (ps_lock (ps_setLc (i := 5) (own := [("pair", 4)]) (g := (gName 4)) (tt := (tNot (tB (tDGet (tVar 0) (tVar 4))))) rfl sc_heaviest_tails.nd rfl rfl (sw_true rfl rfl rfl (by decide +kernel)) (pi_keys (pv 0)) (blkOk_by (own := [("pair", 4)]) (N := ["table", "letters", "weight", "tails", "pair", "waiting", "missing", "tail"]) (sc := defScope s_heaviest_tails) (by decide +kernel)) (fun _ _ _ _ _ => (pg_name (i := 4) sc_heaviest_tails.nd rfl (Or.inl rfl))) (fun _ _ _ _ _ => (pts_one (pt_not (pt_val (pe_dget (hu_of hr) (pv 0) (pv 4) (fun _ _ => rfl)))))) (fun _ _ _ _ _ => (pv 4))))
    (pss_cons (ps_while PassesOwn.never (pt_truth (pv 5) (by intro _; rfl))
    (pss_cons (ps_set (i := 6) sc_heaviest_tails.nd rfl (Or.inl rfl) (pe_lst pa_nil))
    (pss_cons (ps_for PassesOwn.never rfl (pi_list (pv 5)) (pg_name (i := 4) sc_heaviest_tails.nd rfl (Or.inl rfl))
    (pss_cons (ps_set (i := 7) sc_heaviest_tails.nd rfl (Or.inl rfl) (pe_cal C_best_tail (hr.mono (by decide)) (by rfl) (pa_cons (pv 4) (pa_cons (pv 0) (pa_cons (pv 3) (pa_cons (pv 1) (pa_cons (pv 2) pa_nil)))))))
    (pss_one (ps_if (pt_cmpR op_isN (pv 7) pe_non (nomark _))
    (pss_one (ps_expr (pe_bm PySem.F.plainAttrs_list PySem.F.slot_list_append PySem.F.type_list_append mt_append (pv 6) (pa_cons (pv 4) pa_nil))))
    (pss_one (ps_dput (hu_of hr) (pv 3) (pv 4) (pv 7) rfl))))))
    (pss_cons (ps_if (pt_cmpR op_eq (pe_callB call_len_seq (by rfl) B.len PySem.boot_len (pa_cons (pv 6) pa_nil)) (pe_callB call_len_seq (by rfl) B.len PySem.boot_len (pa_cons (pv 5) pa_nil)) (nomark _))
    (pss_one (ps_ret pe_non))
    pss_nil)
    (pss_one (ps_set (i := 5) sc_heaviest_tails.nd rfl (Or.inl rfl) (pe_callTy call_list_of (by rfl) B.list (by decide +kernel) (pa_cons (pv 6) pa_nil))))))))
    (pss_one (ps_ret (pv 3))))))

abbrev s_heaviest_syllable : Stmt := topS 7
theorem sc_heaviest_syllable : FnScope ["joints", "letters", "weight", "table", "tails", "best", "start", "total", "gap", "syllable", "right", "pair"] ["joints", "letters", "weight"] (defScope s_heaviest_syllable) := ⟨rfl, rfl, rfl, by decide +kernel, rfl, by decide +kernel, by decide +kernel⟩
theorem w_heaviest_syllable {P : Program} {w : World} {K : PySem.W.Frag} {mg : Str → Option Value} {base : Heap} {tN tL : Tok} {sp_joint_table sp_heaviest_tails sp_sides sp_best_tail : Sp} {f : Addr} {cdv : Value} {A : Around} {outer : List Env} {s : Shared} {H : Hp} {E : XK}
    (hr : Room 4 (A.deeper (envOfC "heaviest_syllable" (defScope s_heaviest_syllable) s.heap.objs.size f cdv))) (B : Bl mg) (G : Gb mg tN tL)
    (C_joint_table : Cal P w K mg base "joint_table" 4 ["joints", "letters"] sp_joint_table)
    (C_heaviest_tails : Cal P w K mg base "heaviest_tails" 3 ["table", "letters", "weight"] sp_heaviest_tails)
    (C_sides : Cal P w K mg base "sides" 1 ["letters"] sp_sides)
    (C_best_tail : Cal P w K mg base "best_tail" 2 ["pair", "table", "tails", "letters", "weight"] sp_best_tail) :
    PSs (cxOf CX0 P w K mg base ["joints", "letters", "weight", "table", "tails", "best", "start", "total", "gap", "syllable", "right", "pair"] "heaviest_syllable" (defScope s_heaviest_syllable) f cdv A outer s H E).nox (defBody s_heaviest_syllable) (t_heaviest_syllable K sp_joint_table sp_heaviest_tails sp_sides sp_best_tail) := by
  exact (pss_cons (ps_set (i := 3) sc_heaviest_syllable.nd rfl (Or.inr rfl) (pe_cal C_joint_table (hr.mono (by decide)) (by rfl) (pa_cons (pv 0) (pa_cons (pv 1) pa_nil))))
    (pss_cons (ps_set (i := 4) sc_heaviest_syllable.nd rfl (Or.inl rfl) (pe_cal C_heaviest_tails (hr.mono (by decide)) (by rfl) (pa_cons (pv 3) (pa_cons (pv 1) (pa_cons (pv 2) pa_nil)))))
    (pss_cons (ps_if (pt_cmpR op_isN (pv 4) pe_non (nomark _))
    (pss_one (ps_ret pe_non))
    pss_nil)
    (pss_cons (ps_set (i := 5) sc_heaviest_syllable.nd rfl (Or.inl rfl) (pe_tup (pa_cons pe_int (pa_cons (pe_tup (pa_cons (pe_tx (l := []) (by decide +kernel)) (pa_cons (pe_tx (l := []) (by decide +kernel)) pa_nil))) (pa_cons (pe_tup (pa_cons (pe_tx (l := []) (by decide +kernel)) (pa_cons (pe_tx (l := []) (by decide +kernel)) pa_nil))) pa_nil)))))
    (pss_cons (ps_for PassesOwn.never rfl (pi_list (pe_op op_cat (pe_lc (own := [("right", 10)]) (g := (gName 10)) (tt := tYes) rfl sc_heaviest_syllable.nd (pi_list (pe_cal C_sides (hr.mono (by decide)) (by rfl) (pa_cons (pv 1) pa_nil))) (blkOk_by (own := [("right", 10)]) (N := ["joints", "letters", "weight", "table", "tails", "best", "start", "total", "gap", "syllable", "right", "pair"]) (sc := defScope s_heaviest_syllable) (by decide +kernel)) (fun _ _ _ _ _ => (pg_name (i := 10) sc_heaviest_syllable.nd rfl (Or.inl rfl))) (fun _ _ _ _ _ => pts_nil) (fun _ _ _ _ _ => (pe_tup (pa_cons (pe_tx (l := []) (by decide +kernel)) (pa_cons (pv 10) pa_nil))))) (pe_lock (pe_lc (own := [("pair", 11)]) (g := (gName 11)) (tt := (tB (tDGet (tVar 3) (tVar 11)))) rfl sc_heaviest_syllable.nd (pi_keys (pv 3)) (blkOk_by (own := [("pair", 11)]) (N := ["joints", "letters", "weight", "table", "tails", "best", "start", "total", "gap", "syllable", "right", "pair"]) (sc := defScope s_heaviest_syllable) (by decide +kernel)) (fun _ _ _ _ _ => (pg_name (i := 11) sc_heaviest_syllable.nd rfl (Or.inl rfl))) (fun _ _ _ _ _ => (pts_one (pt_val (pe_dget (hu_of hr) (pv 3) (pv 11) (fun _ _ => rfl))))) (fun _ _ _ _ _ => (pv 11)))))) (pg_name (i := 6) sc_heaviest_syllable.nd rfl (Or.inl rfl))
    (pss_cons (ps_asg (pe_cal C_best_tail (hr.mono (by decide)) (by rfl) (pa_cons (pv 6) (pa_cons (pv 3) (pa_cons (pv 4) (pa_cons (pv 1) (pa_cons (pv 2) pa_nil)))))) (pg_tup rfl (pgs_cons (pg_name (i := 7) sc_heaviest_syllable.nd rfl (Or.inl rfl)) (pgs_cons (pg_name (i := 8) sc_heaviest_syllable.nd rfl (Or.inl rfl)) pgs_nil))))
    (pss_one (ps_if (pt_cmpR op_gt (pv 7) (pe_ix ix_tup (pv 5) pe_int (fun _ _ => rfl)) (nomark _))
    (pss_one (ps_set (i := 5) sc_heaviest_syllable.nd rfl (Or.inl rfl) (pe_tup (pa_cons (pv 7) (pa_cons (pv 6) (pa_cons (pv 8) pa_nil))))))
    pss_nil))))
    (pss_cons (ps_asg (pv 5) (pg_tup rfl (pgs_cons (pg_name (i := 7) sc_heaviest_syllable.nd rfl (Or.inl rfl)) (pgs_cons (pg_name (i := 6) sc_heaviest_syllable.nd rfl (Or.inl rfl)) (pgs_cons (pg_name (i := 8) sc_heaviest_syllable.nd rfl (Or.inl rfl)) pgs_nil)))))
    (pss_cons (ps_set (i := 9) sc_heaviest_syllable.nd rfl (Or.inl rfl) (pe_ix tx_ix (pe_ix ix_tup (pv 6) pe_int (fun _ _ => rfl)) pe_int (fun _ _ => rfl)))
    (pss_cons (ps_while PassesOwn.never (PW.pt (pw_and (pt_cmpR tx_ne (pe_ix ix_tup (pv 8) pe_int (fun _ _ => rfl)) (pe_tx (l := []) (by decide +kernel)) (nomark _)) (pw_and1 (pt_not (pt_val (pe_dget (hu_of hr) (pv 3) (pv 8) (fun _ _ => rfl)))))))
    (pss_cons (ps_set (i := 9) sc_heaviest_syllable.nd rfl (Or.inl rfl) (pe_op tx_add (pv 9) (pe_ix tx_ix (pe_ix ix_tup (pv 8) pe_int (fun _ _ => rfl)) pe_int (fun _ _ => rfl))))
    (pss_one (ps_set (i := 8) sc_heaviest_syllable.nd rfl (Or.inl rfl) (pe_ix ix_tup (pe_dget (hu_of hr) (pv 4) (pv 8) (fun _ _ => rfl)) pe_int (fun _ _ => rfl))))))
    (pss_one (ps_ret (pe_tup (pa_cons (pv 7) (pa_cons (pv 9) (pa_cons (pe_op tx_add (pe_op tx_add (pe_ix ix_tup (pv 6) pe_int (fun _ _ => rfl)) (pv 9)) (pe_ix ix_tup (pv 8) pe_int (fun _ _ => rfl))) pa_nil))))))))))))))

abbrev s_letter_on : Stmt := topS 8
theorem sc_letter_on : FnScope ["word", "at", "state", "table", "weight", "limits", "head", "line", "hyphen", "room", "first"] ["word", "at", "state", "table", "weight", "limits"] (defScope s_letter_on) := ⟨rfl, rfl, rfl, by decide +kernel, rfl, by decide +kernel, by decide +kernel⟩
theorem w_letter_on {P : Program} {w : World} {K : PySem.W.Frag} {mg : Str → Option Value} {base : Heap} {tN tL : Tok} {f : Addr} {cdv : Value} {A : Around} {outer : List Env} {s : Shared} {H : Hp} {E : XK}
    (hr : Room 0 (A.deeper (envOfC "letter_on" (defScope s_letter_on) s.heap.objs.size f cdv))) (B : Bl mg) (G : Gb mg tN tL) :
    PSs (cxOf CX0 P w K mg base ["word", "at", "state", "table", "weight", "limits", "head", "line", "hyphen", "room", "first"] "letter_on" (defScope s_letter_on) f cdv A outer s H E).nox (defBody s_letter_on) (t_letter_on K) := by
  exact (pss_cons (ps_if (pt_cmpR op_lt (pv 1) pe_int (nomark _))
    (pss_one (ps_ret (pv 2)))
    pss_nil)
    (pss_cons (ps_asg (pv 2) (pg_tup rfl (pgs_cons (pg_name (i := 6) sc_letter_on.nd rfl (Or.inl rfl)) (pgs_cons (pg_name (i := 7) sc_letter_on.nd rfl (Or.inl rfl)) pgs_nil))))
    (pss_cons (ps_asg (pv 5) (pg_tup rfl (pgs_cons (pg_name (i := 8) sc_letter_on.nd rfl (Or.inl rfl)) (pgs_cons (pg_name (i := 9) sc_letter_on.nd rfl (Or.inl rfl)) (pgs_cons (pg_name (i := 10) sc_letter_on.nd rfl (Or.inl rfl)) pgs_nil)))))
    (pss_cons (ps_if (PW.pt (pw_and (pt_cmpR op_gt (pv 1) pe_int (nomark _)) (pw_and1 (pt_val (pe_dget (hu_of hr) (pv 3) (pe_tup (pa_cons (pe_slice tx_sl (pv 0) (po_some (pe_callB (call_max2 rfl) (by rfl) B.max (by decide +kernel) (pa_cons pe_int (pa_cons (pe_op op_sub (pv 1) pe_int) pa_nil)))) (po_some (pv 1))) (pa_cons (pe_slice tx_sl (pv 0) (po_some (pv 1)) (po_some (pe_op op_add (pv 1) pe_int))) pa_nil))) (fun _ _ => rfl))))))
    (pss_one (ps_if (PW.pt (pw_or (pt_cmpR op_le (pe_op op_add (pv 6) (pv 8)) (pv 10) (nomark _)) (pw_or1 (pt_cmpR op_le (pe_op op_add (pv 7) (pv 8)) (pv 9) (nomark _)))))
    (pss_one (ps_set (i := 7) sc_letter_on.nd rfl (Or.inl rfl) pe_int))
    pss_nil))
    pss_nil)
    (pss_cons (ps_par (i := 6) (j := 7) (by rfl) sc_letter_on.nd rfl rfl (by decide) rfl rfl (pa_cons (pe_op op_add (pv 6) (pe_dget (hu_of hr) (pv 4) (pe_ix tx_ix (pv 0) (pv 1) (fun _ _ => rfl)) (fun _ _ => rfl))) (pa_cons (pe_op op_add (pv 7) (pe_dget (hu_of hr) (pv 4) (pe_ix tx_ix (pv 0) (pv 1) (fun _ _ => rfl)) (fun _ _ => rfl))) pa_nil)) (by rfl))
    (pss_cons (ps_if (pt_cmpR op_gt (pv 6) (pv 10) (nomark _))
    (pss_one (ps_set (i := 6) sc_letter_on.nd rfl (Or.inl rfl) (pe_glob rfl G.never ⟨_, rfl⟩)))
    pss_nil)
    (pss_cons (ps_if (pt_cmpR op_gt (pv 7) (pv 9) (nomark _))
    (pss_one (ps_set (i := 7) sc_letter_on.nd rfl (Or.inl rfl) (pe_glob rfl G.never ⟨_, rfl⟩)))
    pss_nil)
    (pss_one (ps_ret (pe_tup (pa_cons (pv 6) (pa_cons (pv 7) pa_nil))))))))))))

abbrev s_can_end : Stmt := topS 9
theorem sc_can_end : FnScope ["word", "state", "table", "weight", "limits", "at"] ["word", "state", "table", "weight", "limits"] (defScope s_can_end) := ⟨rfl, rfl, rfl, by decide +kernel, rfl, by decide +kernel, by decide +kernel⟩
theorem w_can_end {P : Program} {w : World} {K : PySem.W.Frag} {mg : Str → Option Value} {base : Heap} {tN tL : Tok} {sp_letter_on : Sp} {f : Addr} {cdv : Value} {A : Around} {outer : List Env} {s : Shared} {H : Hp} {E : XK}
    (hr : Room 1 (A.deeper (envOfC "can_end" (defScope s_can_end) s.heap.objs.size f cdv))) (B : Bl mg) (G : Gb mg tN tL)
    (C_letter_on : Cal P w K mg base "letter_on" 1 ["word", "at", "state", "table", "weight", "limits"] sp_letter_on) :
    PSs (cxOf CX0 P w K mg base ["word", "state", "table", "weight", "limits", "at"] "can_end" (defScope s_can_end) f cdv A outer s H E).nox (defBody s_can_end) (t_can_end K sp_letter_on) := by
  exact (pss_cons (ps_for PassesOwn.never rfl (pi_tup (pe_tup (pa_cons (pe_op op_sub (pe_callB tx_len (by rfl) B.len PySem.boot_len (pa_cons (pv 0) pa_nil)) pe_int) (pa_cons (pe_op op_sub (pe_callB tx_len (by rfl) B.len PySem.boot_len (pa_cons (pv 0) pa_nil)) pe_int) pa_nil)))) (pg_name (i := 5) sc_can_end.nd rfl (Or.inl rfl))
    (pss_one (ps_set (i := 1) sc_can_end.nd rfl (Or.inl rfl) (pe_cal C_letter_on (hr.mono (by decide)) (by rfl) (pa_cons (pv 0) (pa_cons (pv 5) (pa_cons (pv 1) (pa_cons (pv 2) (pa_cons (pv 3) (pa_cons (pv 4) pa_nil))))))))))
    (pss_one (ps_ret (pe_cmpR (op_neD hr.units) (pv 1) (pe_tup (pa_cons (pe_glob rfl G.never ⟨_, rfl⟩) (pa_cons (pe_glob rfl G.never ⟨_, rfl⟩) pa_nil))) (nomark _)))))

abbrev s_is_new : Stmt := topS 10
theorem sc_is_new : FnScope ["kept", "tail", "state", "rows", "head", "line"] ["kept", "tail", "state"] (defScope s_is_new) := ⟨rfl, rfl, rfl, by decide +kernel, rfl, by decide +kernel, by decide +kernel⟩
theorem w_is_new {P : Program} {w : World} {K : PySem.W.Frag} {mg : Str → Option Value} {base : Heap} {tN tL : Tok} {f : Addr} {cdv : Value} {A : Around} {outer : List Env} {s : Shared} {H : Hp} {E : XK}
    (hr : Room 0 (A.deeper (envOfC "is_new" (defScope s_is_new) s.heap.objs.size f cdv))) (B : Bl mg) (G : Gb mg tN tL) :
    PSs (cxOf CX0 P w K mg base ["kept", "tail", "state", "rows", "head", "line"] "is_new" (defScope s_is_new) f cdv A outer s H E).nox (defBody s_is_new) (t_is_new K) := by
  exact (pss_cons (ps_set (i := 3) sc_is_new.nd rfl (Or.inl rfl) (pe_dsetd (pv 0) (pv 1) (pe_lst pa_nil) ⟨rfl, rfl, rfl, rfl⟩))
    (pss_cons (ps_for PassesOwn.never rfl (pi_list (pv 3)) (pg_tup rfl (pgs_cons (pg_name (i := 4) sc_is_new.nd rfl (Or.inl rfl)) (pgs_cons (pg_name (i := 5) sc_is_new.nd rfl (Or.inl rfl)) pgs_nil)))
    (pss_one (ps_if (PW.pt (pw_and (pt_cmpR op_ge (pv 4) (pe_ix ix_tup (pv 2) pe_int (fun _ _ => rfl)) (nomark _)) (pw_and1 (pt_cmpR op_ge (pv 5) (pe_ix ix_tup (pv 2) pe_int (fun _ _ => rfl)) (nomark _)))))
    (pss_one (ps_ret pe_bl))
    pss_nil)))
    (pss_cons (ps_expr (pe_bm PySem.F.plainAttrs_list PySem.F.slot_list_append PySem.F.type_list_append mt_append (pv 3) (pa_cons (pv 2) pa_nil)))
    (pss_one (ps_ret pe_bl)))))

abbrev s_overflow : Stmt := topS 11
theorem sc_overflow : FnScope ["joints", "letters", "weight", "hyphen", "room", "first", "table", "limits", "kept", "level", "longer", "word", "state", "letter", "new", "reached"] ["joints", "letters", "weight", "hyphen", "room", "first"] (defScope s_overflow) := ⟨rfl, rfl, rfl, by decide +kernel, rfl, by decide +kernel, by decide +kernel⟩
theorem w_overflow {P : Program} {w : World} {K : PySem.W.Frag} {mg : Str → Option Value} {base : Heap} {tN tL : Tok} {sp_joint_table sp_letter_on sp_is_new sp_can_end : Sp} {f : Addr} {cdv : Value} {A : Around} {outer : List Env} {s : Shared} {H : Hp} {E : XK}
    (hr : Room 4 (A.deeper (envOfC "overflow" (defScope s_overflow) s.heap.objs.size f cdv))) (B : Bl mg) (G : Gb mg tN tL)
    (C_joint_table : Cal P w K mg base "joint_table" 4 ["joints", "letters"] sp_joint_table)
    (C_letter_on : Cal P w K mg base "letter_on" 1 ["word", "at", "state", "table", "weight", "limits"] sp_letter_on)
    (C_is_new : Cal P w K mg base "is_new" 1 ["kept", "tail", "state"] sp_is_new)
    (C_can_end : Cal P w K mg base "can_end" 2 ["word", "state", "table", "weight", "limits"] sp_can_end) :
    PSs (cxOf CX0 P w K mg base ["joints", "letters", "weight", "hyphen", "room", "first", "table", "limits", "kept", "level", "longer", "word", "state", "letter", "new", "reached"] "overflow" (defScope s_overflow) f cdv A outer s H E).nox (defBody s_overflow) (t_overflow K sp_joint_table sp_letter_on sp_is_new sp_can_end) := by
  exact (pss_cons (ps_set (i := 6) sc_overflow.nd rfl (Or.inl rfl) (pe_cal C_joint_table (hr.mono (by decide)) (by rfl) (pa_cons (pv 0) (pa_cons (pv 1) pa_nil))))
    (pss_cons (ps_set (i := 7) sc_overflow.nd rfl (Or.inl rfl) (pe_tup (pa_cons (pv 3) (pa_cons (pv 4) (pa_cons (pv 5) pa_nil)))))
    (pss_cons (ps_set (i := 8) sc_overflow.nd rfl (Or.inl rfl) pe_dnewK)
    (pss_cons (ps_set (i := 9) sc_overflow.nd rfl (Or.inl rfl) (pe_lst (pa_cons (pe_tup (pa_cons (pe_tx (l := []) (by decide +kernel)) (pa_cons (pe_tup (pa_cons pe_int (pa_cons (pe_glob rfl G.never ⟨_, rfl⟩) pa_nil))) pa_nil))) pa_nil)))
    (pss_cons (ps_while PassesOwn.never (pt_truth (pv 9) (by intro _; rfl))
    (pss_cons (ps_set (i := 10) sc_overflow.nd rfl (Or.inl rfl) (pe_lst pa_nil))
    (pss_cons (ps_for PassesOwn.never rfl (pi_list (pv 9)) (pg_tup rfl (pgs_cons (pg_name (i := 11) sc_overflow.nd rfl (Or.inl rfl)) (pgs_cons (pg_name (i := 12) sc_overflow.nd rfl (Or.inl rfl)) pgs_nil)))
    (pss_one (ps_for PassesOwn.never rfl (pi_str (pv 1)) (pg_name (i := 13) sc_overflow.nd rfl (Or.inl rfl))
    (pss_cons (ps_set (i := 14) sc_overflow.nd rfl (Or.inl rfl) (pe_op tx_add (pv 11) (pv 13)))
    (pss_cons (ps_set (i := 15) sc_overflow.nd rfl (Or.inl rfl) (pe_cal C_letter_on (hr.mono (by decide)) (by rfl) (pa_cons (pv 14) (pa_cons (pe_op op_sub (pe_callB tx_len (by rfl) B.len PySem.boot_len (pa_cons (pv 14) pa_nil)) pe_int) (pa_cons (pv 12) (pa_cons (pv 6) (pa_cons (pv 2) (pa_cons (pv 7) pa_nil))))))))
    (pss_one (ps_if (pt_val (pe_cal C_is_new (hr.mono (by decide)) (by rfl) (pa_cons (pv 8) (pa_cons (pe_slice tx_sl (pv 14) (po_some (pe_un un_neg pe_int)) po_none) (pa_cons (pv 15) pa_nil)))))
    (pss_cons (ps_if (pt_not (pt_val (pe_cal C_can_end (hr.mono (by decide)) (by rfl) (pa_cons (pv 14) (pa_cons (pv 15) (pa_cons (pv 6) (pa_cons (pv 2) (pa_cons (pv 7) pa_nil))))))))
    (pss_one (ps_ret (pv 14)))
    pss_nil)
    (pss_one (ps_expr (pe_bm PySem.F.plainAttrs_list PySem.F.slot_list_append PySem.F.type_list_append mt_append (pv 10) (pa_cons (pe_tup (pa_cons (pv 14) (pa_cons (pv 15) pa_nil))) pa_nil)))))
    pss_nil)))))))
    (pss_one (ps_set (i := 9) sc_overflow.nd rfl (Or.inl rfl) (pe_callTy call_list_of (by rfl) B.list (by decide +kernel) (pa_cons (pv 10) pa_nil)))))))
    (pss_one (ps_ret pe_non)))))))

abbrev s_is_part : Stmt := topS 20
theorem sc_is_part : FnScope ["text", "dot", "at", "char"] ["text", "dot"] (defScope s_is_part) := ⟨rfl, rfl, rfl, by decide +kernel, rfl, by decide +kernel, by decide +kernel⟩
theorem w_is_part {P : Program} {w : World} {K : PySem.W.Frag} {mg : Str → Option Value} {base : Heap} {tN tL : Tok} {f : Addr} {cdv : Value} {A : Around} {outer : List Env} {s : Shared} {H : Hp} {E : XK}
    (hr : Room 0 (A.deeper (envOfC "is_part" (defScope s_is_part) s.heap.objs.size f cdv))) (B : Bl mg) (G : Gb mg tN tL) :
    PSs (cxOf CX0 P w K mg base ["text", "dot", "at", "char"] "is_part" (defScope s_is_part) f cdv A outer s H E).nox (defBody s_is_part) (t_is_part K) := by
  exact (pss_cons (ps_if (pt_cmpR op_gt (pe_callB tx_len (by rfl) B.len PySem.boot_len (pa_cons (pv 0) pa_nil)) pe_int (nomark _))
    (pss_one (ps_ret pe_bl))
    pss_nil)
    (pss_cons (ps_for PassesOwn.never rfl (pi_enumS (by rfl) B.enumerate (pa_cons (pv 0) pa_nil)) (pg_tup rfl (pgs_cons (pg_name (i := 2) sc_is_part.nd rfl (Or.inl rfl)) (pgs_cons (pg_name (i := 3) sc_is_part.nd rfl (Or.inl rfl)) pgs_nil)))
    (pss_one (ps_if (PW.pt (pw_and (pt_cmpR tx_notin (pv 3) (pe_glob rfl G.letters ⟨_, rfl⟩) rfl) (pw_and (pt_cmpR tx_ne (pv 3) (pe_tx (l := [63]) (by decide +kernel)) (nomark _)) (pw_and1 (PW.pt (pw_or (pt_cmpR tx_ne (pv 3) (pe_tx (l := [46]) (by decide +kernel)) (nomark _)) (pw_or1 (pt_cmpR op_ne (pv 2) (pv 1) (nomark _)))))))))
    (pss_one (ps_ret pe_bl))
    pss_nil)))
    (pss_one (ps_ret pe_bl))))

abbrev s_read_joint : Stmt := topS 21
theorem sc_read_joint : FnScope ["line", "text", "forbids", "left", "right"] ["line"] (defScope s_read_joint) := ⟨rfl, rfl, rfl, by decide +kernel, rfl, by decide +kernel, by decide +kernel⟩
theorem w_read_joint {P : Program} {w : World} {K : PySem.W.Frag} {mg : Str → Option Value} {base : Heap} {tN tL : Tok} {sp_is_part : Sp} {f : Addr} {cdv : Value} {A : Around} {outer : List Env} {s : Shared} {H : Hp} {E : XK}
    (hr : Room 1 (A.deeper (envOfC "read_joint" (defScope s_read_joint) s.heap.objs.size f cdv))) (B : Bl mg) (G : Gb mg tN tL)
    (C_is_part : Cal P w K mg base "is_part" 1 ["text", "dot"] sp_is_part) :
    PSs (cxOf CX0 P w K mg base ["line", "text", "forbids", "left", "right"] "read_joint" (defScope s_read_joint) f cdv A outer s H E).nox (defBody s_read_joint) (t_read_joint K sp_is_part) := by
  exact (pss_cons (ps_set (i := 1) sc_read_joint.nd rfl (Or.inl rfl) (pv 0))
    (pss_cons (ps_set (i := 2) sc_read_joint.nd rfl (Or.inl rfl) (pe_ends (pv 0) (pe_tx (l := [32, 110, 111]) (by decide +kernel))))
    (pss_cons (ps_if (pt_val (pv 2))
    (pss_one (ps_set (i := 1) sc_read_joint.nd rfl (Or.inl rfl) (pe_slice tx_sl (pv 0) po_none (po_some (pe_un un_neg pe_int)))))
    pss_nil)
    (pss_cons (ps_match2 (i := 3) (j := 4) rfl sc_read_joint.nd rfl rfl rfl rfl (pe_split2 (pv 1) (pe_tx (l := [45]) (by decide +kernel)))
    (pss_one (ps_if (PW.pt (pw_and (pt_val (pe_cal C_is_part (hr.mono (by decide)) (by rfl) (pa_cons (pv 3) (pa_cons pe_int pa_nil)))) (pw_and1 (pt_val (pe_cal C_is_part (hr.mono (by decide)) (by rfl) (pa_cons (pv 4) (pa_cons (pe_op op_sub (pe_callB tx_len (by rfl) B.len PySem.boot_len (pa_cons (pv 4) pa_nil)) pe_int) pa_nil)))))))
    (pss_one (ps_ret (pe_tup (pa_cons (pv 3) (pa_cons (pv 4) (pa_cons (pv 2) pa_nil))))))
    pss_nil)))
    (pss_one ps_never)))))

abbrev s_stands_for : Stmt := topS 22
theorem sc_stands_for : FnScope ["part", "text", "char", "there"] ["part", "text"] (defScope s_stands_for) := ⟨rfl, rfl, rfl, by decide +kernel, rfl, by decide +kernel, by decide +kernel⟩
theorem w_stands_for {P : Program} {w : World} {K : PySem.W.Frag} {mg : Str → Option Value} {base : Heap} {tN tL : Tok} {f : Addr} {cdv : Value} {A : Around} {outer : List Env} {s : Shared} {H : Hp} {E : XK}
    (hr : Room 0 (A.deeper (envOfC "stands_for" (defScope s_stands_for) s.heap.objs.size f cdv))) (B : Bl mg) (G : Gb mg tN tL) :
    PSs (cxOf CX0 P w K mg base ["part", "text", "char", "there"] "stands_for" (defScope s_stands_for) f cdv A outer s H E).nox (defBody s_stands_for) (t_stands_for K) := by
  exact (pss_cons (ps_if (pt_cmpR op_ne (pe_callB tx_len (by rfl) B.len PySem.boot_len (pa_cons (pv 0) pa_nil)) (pe_callB tx_len (by rfl) B.len PySem.boot_len (pa_cons (pv 1) pa_nil)) (nomark _))
    (pss_one (ps_ret pe_bl))
    pss_nil)
    (pss_cons (ps_for PassesOwn.never rfl (pi_zipS rfl (by rfl) B.zip (pa_cons (pv 0) (pa_cons (pv 1) pa_nil))) (pg_tup rfl (pgs_cons (pg_name (i := 2) sc_stands_for.nd rfl (Or.inl rfl)) (pgs_cons (pg_name (i := 3) sc_stands_for.nd rfl (Or.inl rfl)) pgs_nil)))
    (pss_one (ps_if (PW.pt (pw_and (pt_cmpR tx_ne (pv 2) (pv 3) (nomark _)) (pw_and1 (PW.pt (pw_or (pt_cmpR tx_ne (pv 2) (pe_tx (l := [63]) (by decide +kernel)) (nomark _)) (pw_or1 (pt_cmpR tx_eq (pv 3) (pe_tx (l := [46]) (by decide +kernel)) (nomark _))))))))
    (pss_one (ps_ret pe_bl))
    pss_nil)))
    (pss_one (ps_ret pe_bl))))

abbrev s_Joints_init : Stmt := inClass (topS 23) 1
theorem sc_Joints_init : FnScope ["self", "lines", "line"] ["self", "lines"] (defScope s_Joints_init) := ⟨rfl, rfl, rfl, by decide +kernel, rfl, by decide +kernel, by decide +kernel⟩
theorem w_Joints_init {P : Program} {w : World} {K : PySem.W.Frag} {mg : Str → Option Value} {base : Heap} {tN tL : Tok} {C : Addr} {sp_read_joint : Sp} {f : Addr} {cdv : Value} {A : Around} {outer : List Env} {s : Shared} {H : Hp} {E : XK}
    (hr : Room 2 (A.deeper (envOfC "Joints.__init__" (defScope s_Joints_init) s.heap.objs.size f cdv))) (B : Bl mg) (G : Gb mg tN tL)
    (C_read_joint : Cal P w K mg base "read_joint" 2 ["line"] sp_read_joint)
    (gJ : mg "Joints" = some (.ref C)) :
    PSs (cxOf CX0 P w K mg base ["self", "lines", "line"] "Joints.__init__" (defScope s_Joints_init) f cdv A outer s H E).nox (defBody s_Joints_init) (t_Joints_init K C sp_read_joint) := by
  exact (pss_cons (ps_if (pt_cmpR op_gt (pe_callB call_len_seq (by rfl) B.len PySem.boot_len (pa_cons (pv 1) pa_nil)) (ClX.pe_cval (pe_glob rfl gJ rfl)) (nomark _))
    (pss_one ps_never)
    pss_nil)
    (pss_cons (ps_fld (pv 0) (pe_lc (own := [("line", 2)]) (g := (gName 2)) (tt := tYes) rfl sc_Joints_init.nd (pi_list (pv 1)) (blkOk_by (own := [("line", 2)]) (N := ["self", "lines", "line"]) (sc := defScope s_Joints_init) (by decide +kernel)) (fun _ _ _ _ _ => (pg_name (i := 2) sc_Joints_init.nd rfl (Or.inl rfl))) (fun _ _ _ _ _ => pts_nil) (fun _ _ _ _ _ => (pe_cal C_read_joint (hr.mono (by decide)) (by rfl) (pa_cons (pv 2) pa_nil)))) rfl)
    (pss_one (ps_fld (pv 0) (pe_callTy call_list_of (by rfl) B.list (by decide +kernel) (pa_cons (pv 1) pa_nil)) rfl))))

abbrev s_Joints_decider : Stmt := inClass (topS 23) 5
theorem sc_Joints_decider : FnScope ["self", "word", "gap", "before", "behind", "index", "left", "right", "forbids", "start"] ["self", "word", "gap"] (defScope s_Joints_decider) := ⟨rfl, rfl, rfl, by decide +kernel, rfl, by decide +kernel, by decide +kernel⟩
theorem w_Joints_decider {P : Program} {w : World} {K : PySem.W.Frag} {mg : Str → Option Value} {base : Heap} {tN tL : Tok} {sp_stands_for : Sp} {f : Addr} {cdv : Value} {A : Around} {outer : List Env} {s : Shared} {H : Hp} {E : XK}
    (hr : Room 1 (A.deeper (envOfC "Joints.decider" (defScope s_Joints_decider) s.heap.objs.size f cdv))) (B : Bl mg) (G : Gb mg tN tL)
    (C_stands_for : Cal P w K mg base "stands_for" 1 ["part", "text"] sp_stands_for) :
    PSs (cxOf CX0 P w K mg base ["self", "word", "gap", "before", "behind", "index", "left", "right", "forbids", "start"] "Joints.decider" (defScope s_Joints_decider) f cdv A outer s H E).nox (defBody s_Joints_decider) (t_Joints_decider K sp_stands_for) := by
  exact (pss_cons (ps_set (i := 3) sc_Joints_decider.nd rfl (Or.inl rfl) (pe_op tx_add (pe_tx (l := [46]) (by decide +kernel)) (pe_slice tx_sl (pv 1) po_none (po_some (pv 2)))))
    (pss_cons (ps_set (i := 4) sc_Joints_decider.nd rfl (Or.inl rfl) (pe_op tx_add (pe_slice tx_sl (pv 1) (po_some (pv 2)) po_none) (pe_tx (l := [46]) (by decide +kernel))))
    (pss_cons (ps_for PassesOwn.never rfl (pi_enum (by rfl) B.enumerate (pa_cons (pe_fld (pv 0) rfl) pa_nil)) (pg_tup rfl (pgs_cons (pg_name (i := 5) sc_Joints_decider.nd rfl (Or.inl rfl)) (pgs_cons (pg_tup rfl (pgs_cons (pg_name (i := 6) sc_Joints_decider.nd rfl (Or.inl rfl)) (pgs_cons (pg_name (i := 7) sc_Joints_decider.nd rfl (Or.inl rfl)) (pgs_cons (pg_name (i := 8) sc_Joints_decider.nd rfl (Or.inl rfl)) pgs_nil)))) pgs_nil)))
    (pss_cons (ps_set (i := 9) sc_Joints_decider.nd rfl (Or.inl rfl) (pe_op op_sub (pe_callB tx_len (by rfl) B.len PySem.boot_len (pa_cons (pv 3) pa_nil)) (pe_callB tx_len (by rfl) B.len PySem.boot_len (pa_cons (pv 6) pa_nil))))
    (pss_one (ps_if (PW.pt (pw_and (pt_cmpR op_ge (pv 9) pe_int (nomark _)) (pw_and (pt_val (pe_cal C_stands_for (hr.mono (by decide)) (by rfl) (pa_cons (pv 6) (pa_cons (pe_slice tx_sl (pv 3) (po_some (pv 9)) po_none) pa_nil)))) (pw_and1 (pt_val (pe_cal C_stands_for (hr.mono (by decide)) (by rfl) (pa_cons (pv 7) (pa_cons (pe_slice tx_sl (pv 4) po_none (po_some (pe_callB tx_len (by rfl) B.len PySem.boot_len (pa_cons (pv 7) pa_nil)))) pa_nil))))))))
    (pss_one (ps_ret (pv 5)))
    pss_nil))))
    (pss_one (ps_ret pe_non)))))

abbrev s_Joints_is_joint : Stmt := inClass (topS 23) 6
theorem sc_Joints_is_joint : FnScope ["self", "word", "gap", "index"] ["self", "word", "gap"] (defScope s_Joints_is_joint) := ⟨rfl, rfl, rfl, by decide +kernel, rfl, by decide +kernel, by decide +kernel⟩
theorem w_Joints_is_joint {P : Program} {w : World} {K : PySem.W.Frag} {mg : Str → Option Value} {base : Heap} {tN tL : Tok} {C : Addr} {sp_decider : Sp} {f : Addr} {cdv : Value} {A : Around} {outer : List Env} {s : Shared} {H : Hp} {E : XK}
    (hr : Room 2 (A.deeper (envOfC "Joints.is_joint" (defScope s_Joints_is_joint) s.heap.objs.size f cdv))) (B : Bl mg) (G : Gb mg tN tL)
    (cl : Cls K C) (CM : CalM P w K mg base C "decider" 2 ["self", "word", "gap"] sp_decider) :
    PSs (cxOf CX0 P w K mg base ["self", "word", "gap", "index"] "Joints.is_joint" (defScope s_Joints_is_joint) f cdv A outer s H E).nox (defBody s_Joints_is_joint) (t_Joints_is_joint K C sp_decider) := by
  obtain ⟨fM, fdM, GM, mM, bM⟩ := CM
  exact (pss_cons (ps_set (i := 3) sc_Joints_is_joint.nd rfl (Or.inl rfl) (pe_meth (pv 0) cl mM GM (hr.mono (by decide)) bM .nil pass0 (pa_cons (pv 1) (pa_cons (pv 2) pa_nil))))
    (pss_one (ps_ret (pe_and (pe_cmpR op_notN (pv 3) pe_non (nomark _)) (pe_one (pe_not (pe_ix ix_tup (pe_ix ix_list (pe_fld (pv 0) rfl) (pv 3) (fun _ _ => rfl)) pe_int (fun _ _ => rfl))))))))

abbrev s_law_cell : Stmt := topS 25
theorem sc_law_cell : FnScope ["_law_script", "_law_k"] ["_law_script", "_law_k"] (defScope s_law_cell) := ⟨rfl, rfl, rfl, by decide +kernel, rfl, by decide +kernel, by decide +kernel⟩
theorem w_law_cell {P : Program} {w : World} {K : PySem.W.Frag} {mg : Str → Option Value} {base : Heap} {tN tL : Tok} {f : Addr} {cdv : Value} {A : Around} {outer : List Env} {s : Shared} {H : Hp} {E : XK}
    (hr : Room 0 (A.deeper (envOfC "_law_cell" (defScope s_law_cell) s.heap.objs.size f cdv))) (B : Bl mg) (G : Gb mg tN tL) :
    PSs (cxOf CX0 P w K mg base ["_law_script", "_law_k"] "_law_cell" (defScope s_law_cell) f cdv A outer s H E).nox (defBody s_law_cell) (t_law_cell K) := by
  exact (pss_cons (ps_if (pt_cmpR op_lt (pv 1) (pe_callB call_len_seq (by rfl) B.len PySem.boot_len (pa_cons (pv 0) pa_nil)) (nomark _))
    (pss_one (ps_ret (pe_callTy call_int1 (by rfl) B.int (by decide +kernel) (pa_cons (pe_ix ix_list (pv 0) (pv 1) (fun _ _ => rfl)) pa_nil))))
    pss_nil)
    (pss_one (ps_ret pe_int)))

abbrev s_law_row : Stmt := topS 26
theorem sc_law_row : FnScope ["_law_cell_here", "_law_limits", "_law_row_here", "_law_rest", "_law_limit", "_law_k", "_law_mixed"] ["_law_cell_here", "_law_limits"] (defScope s_law_row) := ⟨rfl, rfl, rfl, by decide +kernel, rfl, by decide +kernel, by decide +kernel⟩
theorem w_law_row {P : Program} {w : World} {K : PySem.W.Frag} {mg : Str → Option Value} {base : Heap} {tN tL : Tok} {f : Addr} {cdv : Value} {A : Around} {outer : List Env} {s : Shared} {H : Hp} {E : XK}
    (hr : Room 0 (A.deeper (envOfC "_law_row" (defScope s_law_row) s.heap.objs.size f cdv))) (B : Bl mg) (G : Gb mg tN tL) :
    PSs (cxOf CX0 P w K mg base ["_law_cell_here", "_law_limits", "_law_row_here", "_law_rest", "_law_limit", "_law_k", "_law_mixed"] "_law_row" (defScope s_law_row) f cdv A outer s H E).nox (defBody s_law_row) (t_law_row K) := by
  exact (pss_cons (ps_set (i := 2) sc_law_row.nd rfl (Or.inl rfl) (pe_lst pa_nil))
    (pss_cons (ps_if (pt_cmpR op_ge (pv 0) pe_int (nomark _))
    (pss_cons (ps_set (i := 3) sc_law_row.nd rfl (Or.inl rfl) (pe_op op_sub (pv 0) pe_int))
    (pss_cons (ps_for PassesOwn.never rfl (pi_list (pv 1)) (pg_name (i := 4) sc_law_row.nd rfl (Or.inl rfl))
    (pss_cons (ps_expr (pe_bm PySem.F.plainAttrs_list PySem.F.slot_list_append PySem.F.type_list_append mt_append (pv 2) (pa_cons (pe_op op_mod (pe_callTy call_int1 (by rfl) B.int (by decide +kernel) (pa_cons (pv 3) pa_nil)) (pv 4)) pa_nil)))
    (pss_one (ps_set (i := 3) sc_law_row.nd rfl (Or.inl rfl) (pe_op op_fdivW (pv 3) (pv 4))))))
    (pss_one (ps_ret (pv 2)))))
    pss_nil)
    (pss_cons (ps_for PassesOwn.never rfl (pi_range1 (by rfl) B.range (pa_cons (pe_callB call_len_seq (by rfl) B.len PySem.boot_len (pa_cons (pv 1) pa_nil)) pa_nil)) (pg_name (i := 5) sc_law_row.nd rfl (Or.inl rfl))
    (pss_cons (ps_set (i := 6) sc_law_row.nd rfl (Or.inl rfl) (pe_op op_mod (pe_callTy call_int1 (by rfl) B.int (by decide +kernel) (pa_cons (pe_op op_add (pe_op op_add (pe_op op_mulZ (pv 0) pe_int) (pe_op op_mulZ (pv 5) pe_int)) pe_int) pa_nil)) pe_int))
    (pss_cons (ps_set (i := 6) sc_law_row.nd rfl (Or.inl rfl) (pe_op op_mod (pe_callTy call_int1 (by rfl) B.int (by decide +kernel) (pa_cons (pe_op op_add (pe_op op_add (pe_op op_mulZ (pv 6) (pe_op op_add pe_int (pe_op op_mulZ pe_int (pv 5)))) (pe_op op_mulZ (pe_op op_mulZ (pv 5) (pv 5)) pe_int)) pe_int) pa_nil)) pe_int))
    (pss_one (ps_expr (pe_bm PySem.F.plainAttrs_list PySem.F.slot_list_append PySem.F.type_list_append mt_append (pv 2) (pa_cons (pe_op op_mod (pe_callTy call_int1 (by rfl) B.int (by decide +kernel) (pa_cons (pe_op op_fdivW (pv 6) pe_int) pa_nil)) (pe_ix ix_list (pv 1) (pv 5) (fun _ _ => rfl))) pa_nil)))))))
    (pss_one (ps_ret (pv 2))))))

abbrev s_law_letters : Stmt := topS 27
theorem sc_law_letters : FnScope ["_law_cell_here", "_law_row_here", "_law_many", "_law_alphabet", "_law_out", "_law_letter", "_law_k"] ["_law_cell_here"] (defScope s_law_letters) := ⟨rfl, rfl, rfl, by decide +kernel, rfl, by decide +kernel, by decide +kernel⟩
theorem w_law_letters {P : Program} {w : World} {K : PySem.W.Frag} {mg : Str → Option Value} {base : Heap} {tN tL : Tok} {sp_law_row : Sp} {f : Addr} {cdv : Value} {A : Around} {outer : List Env} {s : Shared} {H : Hp} {E : XK}
    (hr : Room 1 (A.deeper (envOfC "_law_letters" (defScope s_law_letters) s.heap.objs.size f cdv))) (B : Bl mg) (G : Gb mg tN tL)
    (C_law_row : Cal P w K mg base "_law_row" 1 ["_law_cell_here", "_law_limits"] sp_law_row) :
    PSs (cxOf CX0 P w K mg base ["_law_cell_here", "_law_row_here", "_law_many", "_law_alphabet", "_law_out", "_law_letter", "_law_k"] "_law_letters" (defScope s_law_letters) f cdv A outer s H E).nox (defBody s_law_letters) (t_law_letters K sp_law_row) := by
  exact (pss_cons (ps_set (i := 1) sc_law_letters.nd rfl (Or.inr rfl) (pe_cal C_law_row (hr.mono (by decide)) (by rfl) (pa_cons (pv 0) (pa_cons (pe_lst (pa_cons pe_int (pa_cons pe_int (pa_cons pe_int (pa_cons pe_int pa_nil))))) pa_nil))))
    (pss_cons (ps_set (i := 2) sc_law_letters.nd rfl (Or.inl rfl) pe_int)
    (pss_cons (ps_if (pt_cmpR op_lt (pe_ix ix_list (pv 1) pe_int (fun _ _ => rfl)) pe_int (nomark _))
    (pss_one (ps_set (i := 2) sc_law_letters.nd rfl (Or.inl rfl) (pe_op op_add pe_int (pe_op op_mulZ pe_int (pe_ix ix_list (pv 1) pe_int (fun _ _ => rfl))))))
    pss_nil)
    (pss_cons (ps_set (i := 3) sc_law_letters.nd rfl (Or.inr rfl) (pe_tx (l := [97, 98, 99, 100, 101, 102, 103, 104, 105, 106, 107, 108, 109, 110, 111, 112, 113, 114, 115, 116, 117, 118, 119, 120, 121, 122]) (by decide +kernel)))
    (pss_cons (ps_set (i := 4) sc_law_letters.nd rfl (Or.inl rfl) (pe_tx (l := []) (by decide +kernel)))
    (pss_cons (ps_for PassesOwn.never rfl (pi_list (pe_callB cr_sortedS (by rfl) B.sorted (by decide +kernel) (pa_cons (pe_lc (own := [("_law_k", 6)]) (g := (gName 6)) (tt := tYes) rfl sc_law_letters.nd (pi_range1 (by rfl) B.range (pa_cons (pv 2) pa_nil)) (blkOk_by (own := [("_law_k", 6)]) (N := ["_law_cell_here", "_law_row_here", "_law_many", "_law_alphabet", "_law_out", "_law_letter", "_law_k"]) (sc := defScope s_law_letters) (by decide +kernel)) (fun _ _ _ _ _ => (pg_name (i := 6) sc_law_letters.nd rfl (Or.inl rfl))) (fun _ _ _ _ _ => pts_nil) (fun _ _ _ _ _ => (pe_ix tx_ix (pv 3) (pe_ix ix_list (pv 1) (pe_op op_add pe_int (pv 6)) (fun _ _ => rfl)) (fun _ _ => rfl)))) pa_nil))) (pg_name (i := 5) sc_law_letters.nd rfl (Or.inl rfl))
    (pss_one (ps_if (pt_cmpR tx_notin (pv 5) (pv 4) rfl)
    (pss_one (ps_set (i := 4) sc_law_letters.nd rfl (Or.inl rfl) (pe_op tx_add (pv 4) (pv 5))))
    pss_nil)))
    (pss_one (ps_ret (pv 4)))))))))

abbrev s_law_joint : Stmt := topS 28
theorem sc_law_joint : FnScope ["_law_cell_here", "_law_letters_here", "_law_share", "_law_row_here", "_law_alphabet", "_law_menu", "_law_left", "_law_right", "_law_k"] ["_law_cell_here", "_law_letters_here", "_law_share"] (defScope s_law_joint) := ⟨rfl, rfl, rfl, by decide +kernel, rfl, by decide +kernel, by decide +kernel⟩
theorem w_law_joint {P : Program} {w : World} {K : PySem.W.Frag} {mg : Str → Option Value} {base : Heap} {tN tL : Tok} {sp_law_row : Sp} {f : Addr} {cdv : Value} {A : Around} {outer : List Env} {s : Shared} {H : Hp} {E : XK}
    (hr : Room 1 (A.deeper (envOfC "_law_joint" (defScope s_law_joint) s.heap.objs.size f cdv))) (B : Bl mg) (G : Gb mg tN tL)
    (C_law_row : Cal P w K mg base "_law_row" 1 ["_law_cell_here", "_law_limits"] sp_law_row) :
    PSs (cxOf CX0 P w K mg base ["_law_cell_here", "_law_letters_here", "_law_share", "_law_row_here", "_law_alphabet", "_law_menu", "_law_left", "_law_right", "_law_k"] "_law_joint" (defScope s_law_joint) f cdv A outer s H E).nox (defBody s_law_joint) (t_law_joint K sp_law_row) := by
  exact (pss_cons (ps_set (i := 3) sc_law_joint.nd rfl (Or.inr rfl) (pe_cal C_law_row (hr.mono (by decide)) (by rfl) (pa_cons (pv 0) (pa_cons (pe_lst (pa_cons pe_int (pa_cons pe_int (pa_cons pe_int (pa_cons pe_int (pa_cons pe_int (pa_cons pe_int (pa_cons pe_int (pa_cons pe_int (pa_cons pe_int (pa_cons pe_int (pa_cons pe_int (pa_cons pe_int pa_nil))))))))))))) pa_nil))))
    (pss_cons (ps_set (i := 4) sc_law_joint.nd rfl (Or.inl rfl) (pe_tx (l := [97, 98, 99, 100, 101, 102, 103, 104, 105, 106, 107, 108, 109, 110, 111, 112, 113, 114, 115, 116, 117, 118, 119, 120, 121, 122]) (by decide +kernel)))
    (pss_cons (ps_set (i := 5) sc_law_joint.nd rfl (Or.inr rfl) (pe_op tx_add (pv 1) (pv 1)))
    (pss_cons (ps_set (i := 5) sc_law_joint.nd rfl (Or.inr rfl) (pe_op tx_add (pe_op tx_add (pe_slice tx_sl (pe_op tx_add (pv 5) (pv 5)) po_none (po_some pe_int)) (pe_tx (l := [63, 63]) (by decide +kernel))) (pe_ix tx_ix (pv 4) (pe_ix ix_list (pv 3) pe_int (fun _ _ => rfl)) (fun _ _ => rfl))))
    (pss_cons (ps_set (i := 6) sc_law_joint.nd rfl (Or.inl rfl) (pe_joinE (pe_tx (l := []) (by decide +kernel)) (pe_lc (own := [("_law_k", 8)]) (g := (gName 8)) (tt := tYes) rfl sc_law_joint.nd (pi_range1 (by rfl) B.range (pa_cons (pe_ix ix_list (pv 3) pe_int (fun _ _ => rfl)) pa_nil)) (blkOk_by (own := [("_law_k", 8)]) (N := ["_law_cell_here", "_law_letters_here", "_law_share", "_law_row_here", "_law_alphabet", "_law_menu", "_law_left", "_law_right", "_law_k"]) (sc := defScope s_law_joint) (by decide +kernel)) (fun _ _ _ _ _ => (pg_name (i := 8) sc_law_joint.nd rfl (Or.inl rfl))) (fun _ _ _ _ _ => pts_nil) (fun _ _ _ _ _ => (pe_ix tx_ix (pv 5) (pe_ix ix_list (pv 3) (pe_op op_add pe_int (pv 8)) (fun _ _ => rfl)) (fun _ _ => rfl))))))
    (pss_cons (ps_set (i := 7) sc_law_joint.nd rfl (Or.inl rfl) (pe_joinE (pe_tx (l := []) (by decide +kernel)) (pe_lc (own := [("_law_k", 8)]) (g := (gName 8)) (tt := tYes) rfl sc_law_joint.nd (pi_range1 (by rfl) B.range (pa_cons (pe_ix ix_list (pv 3) pe_int (fun _ _ => rfl)) pa_nil)) (blkOk_by (own := [("_law_k", 8)]) (N := ["_law_cell_here", "_law_letters_here", "_law_share", "_law_row_here", "_law_alphabet", "_law_menu", "_law_left", "_law_right", "_law_k"]) (sc := defScope s_law_joint) (by decide +kernel)) (fun _ _ _ _ _ => (pg_name (i := 8) sc_law_joint.nd rfl (Or.inl rfl))) (fun _ _ _ _ _ => pts_nil) (fun _ _ _ _ _ => (pe_ix tx_ix (pv 5) (pe_ix ix_list (pv 3) (pe_op op_add pe_int (pv 8)) (fun _ _ => rfl)) (fun _ _ => rfl))))))
    (pss_cons (ps_if (PW.pt (pw_and (pt_cmpR op_gt (pe_ix ix_list (pv 3) pe_int (fun _ _ => rfl)) pe_int (nomark _)) (pw_and1 (pt_cmpR op_eq (pe_ix ix_list (pv 3) pe_int (fun _ _ => rfl)) pe_int (nomark _)))))
    (pss_one (ps_set (i := 6) sc_law_joint.nd rfl (Or.inl rfl) (pe_op tx_add (pe_tx (l := [46]) (by decide +kernel)) (pe_slice tx_sl (pv 6) (po_some pe_int) po_none))))
    pss_nil)
    (pss_cons (ps_if (PW.pt (pw_and (pt_cmpR op_gt (pe_ix ix_list (pv 3) pe_int (fun _ _ => rfl)) pe_int (nomark _)) (pw_and1 (pt_cmpR op_eq (pe_ix ix_list (pv 3) pe_int (fun _ _ => rfl)) pe_int (nomark _)))))
    (pss_one (ps_set (i := 7) sc_law_joint.nd rfl (Or.inl rfl) (pe_op tx_add (pe_slice tx_sl (pv 7) po_none (po_some (pe_un un_neg pe_int))) (pe_tx (l := [46]) (by decide +kernel)))))
    pss_nil)
    (pss_one (ps_ret (pe_tup (pa_cons (pv 6) (pa_cons (pv 7) (pa_cons (pe_cmpR op_lt (pe_ix ix_list (pv 3) pe_int (fun _ _ => rfl)) (pv 2) (nomark _)) pa_nil))))))))))))))

abbrev s_law_written : Stmt := topS 29
theorem sc_law_written : FnScope ["_law_row_here"] ["_law_row_here"] (defScope s_law_written) := ⟨rfl, rfl, rfl, by decide +kernel, rfl, by decide +kernel, by decide +kernel⟩
theorem w_law_written {P : Program} {w : World} {K : PySem.W.Frag} {mg : Str → Option Value} {base : Heap} {tN tL : Tok} {f : Addr} {cdv : Value} {A : Around} {outer : List Env} {s : Shared} {H : Hp} {E : XK}
    (hr : Room 0 (A.deeper (envOfC "_law_written" (defScope s_law_written) s.heap.objs.size f cdv))) (B : Bl mg) (G : Gb mg tN tL) :
    PSs (cxOf CX0 P w K mg base ["_law_row_here"] "_law_written" (defScope s_law_written) f cdv A outer s H E).nox (defBody s_law_written) (t_law_written K) := by
  exact (pss_cons (ps_if (pt_val (pe_ix ix_tup (pv 0) pe_int (fun _ _ => rfl)))
    (pss_one (ps_ret (pe_op tx_add (pe_op tx_add (pe_op tx_add (pe_ix ix_tup (pv 0) pe_int (fun _ _ => rfl)) (pe_tx (l := [45]) (by decide +kernel))) (pe_ix ix_tup (pv 0) pe_int (fun _ _ => rfl))) (pe_tx (l := [32, 110, 111]) (by decide +kernel)))))
    pss_nil)
    (pss_one (ps_ret (pe_op tx_add (pe_op tx_add (pe_ix ix_tup (pv 0) pe_int (fun _ _ => rfl)) (pe_tx (l := [45]) (by decide +kernel))) (pe_ix ix_tup (pv 0) pe_int (fun _ _ => rfl))))))

abbrev s_law_list : Stmt := topS 30
theorem sc_law_list : FnScope ["_law_script", "_law_at", "_law_letters_here", "_law_row_here", "_law_many", "_law_share", "_law_rows", "_law_k", "_law_cell_here"] ["_law_script", "_law_at", "_law_letters_here"] (defScope s_law_list) := ⟨rfl, rfl, rfl, by decide +kernel, rfl, by decide +kernel, by decide +kernel⟩
theorem w_law_list {P : Program} {w : World} {K : PySem.W.Frag} {mg : Str → Option Value} {base : Heap} {tN tL : Tok} {sp_law_cell sp_law_row sp_law_joint : Sp} {f : Addr} {cdv : Value} {A : Around} {outer : List Env} {s : Shared} {H : Hp} {E : XK}
    (hr : Room 2 (A.deeper (envOfC "_law_list" (defScope s_law_list) s.heap.objs.size f cdv))) (B : Bl mg) (G : Gb mg tN tL)
    (C_law_cell : Cal P w K mg base "_law_cell" 1 ["_law_script", "_law_k"] sp_law_cell)
    (C_law_row : Cal P w K mg base "_law_row" 1 ["_law_cell_here", "_law_limits"] sp_law_row)
    (C_law_joint : Cal P w K mg base "_law_joint" 2 ["_law_cell_here", "_law_letters_here", "_law_share"] sp_law_joint) :
    PSs (cxOf CX0 P w K mg base ["_law_script", "_law_at", "_law_letters_here", "_law_row_here", "_law_many", "_law_share", "_law_rows", "_law_k", "_law_cell_here"] "_law_list" (defScope s_law_list) f cdv A outer s H E).nox (defBody s_law_list) (t_law_list K sp_law_cell sp_law_row sp_law_joint) := by
  exact (pss_cons (ps_set (i := 3) sc_law_list.nd rfl (Or.inl rfl) (pe_cal C_law_row (hr.mono (by decide)) (by rfl) (pa_cons (pe_cal C_law_cell (hr.mono (by decide)) (by rfl) (pa_cons (pv 0) (pa_cons (pv 1) pa_nil))) (pa_cons (pe_lst (pa_cons pe_int (pa_cons pe_int (pa_cons pe_int (pa_cons pe_int pa_nil))))) pa_nil))))
    (pss_cons (ps_set (i := 4) sc_law_list.nd rfl (Or.inl rfl) (pe_ix ix_list (pv 3) pe_int (fun _ _ => rfl)))
    (pss_cons (ps_if (pt_cmpR op_eq (pe_ix ix_list (pv 3) pe_int (fun _ _ => rfl)) pe_int (nomark _))
    (pss_one (ps_set (i := 4) sc_law_list.nd rfl (Or.inl rfl) (pe_ix ix_list (pv 3) pe_int (fun _ _ => rfl))))
    pss_nil)
    (pss_cons (ps_set (i := 5) sc_law_list.nd rfl (Or.inl rfl) pe_int)
    (pss_cons (ps_if (pt_cmpR op_gt (pe_ix ix_list (pv 3) pe_int (fun _ _ => rfl)) pe_int (nomark _))
    (pss_one (ps_set (i := 5) sc_law_list.nd rfl (Or.inl rfl) pe_int))
    pss_nil)
    (pss_cons (ps_set (i := 6) sc_law_list.nd rfl (Or.inl rfl) (pe_lst pa_nil))
    (pss_cons (ps_for PassesOwn.never rfl (pi_range1 (by rfl) B.range (pa_cons (pv 4) pa_nil)) (pg_name (i := 7) sc_law_list.nd rfl (Or.inl rfl))
    (pss_cons (ps_set (i := 8) sc_law_list.nd rfl (Or.inl rfl) (pe_cal C_law_cell (hr.mono (by decide)) (by rfl) (pa_cons (pv 0) (pa_cons (pe_op op_add (pe_op op_add (pv 1) pe_int) (pv 7)) pa_nil))))
    (pss_one (ps_expr (pe_bm PySem.F.plainAttrs_list PySem.F.slot_list_append PySem.F.type_list_append mt_append (pv 6) (pa_cons (pe_cal C_law_joint (hr.mono (by decide)) (by rfl) (pa_cons (pe_op op_add (pv 8) (pv 7)) (pa_cons (pv 2) (pa_cons (pv 5) pa_nil)))) pa_nil))))))
    (pss_cons (ps_if (pt_cmpR op_gt (pe_ix ix_list (pv 3) pe_int (fun _ _ => rfl)) pe_int (nomark _))
    (pss_one (ps_expr (pe_bm PySem.F.plainAttrs_list PySem.F.slot_list_append PySem.F.type_list_append mt_append (pv 6) (pa_cons (pe_tup (pa_cons (pe_tx (l := []) (by decide +kernel)) (pa_cons (pe_tx (l := []) (by decide +kernel)) (pa_cons pe_bl pa_nil)))) pa_nil))))
    pss_nil)
    (pss_one (ps_ret (pv 6)))))))))))

abbrev s_law_says : Stmt := topS 31
theorem sc_law_says : FnScope ["_law_part", "_law_text", "_law_k"] ["_law_part", "_law_text"] (defScope s_law_says) := ⟨rfl, rfl, rfl, by decide +kernel, rfl, by decide +kernel, by decide +kernel⟩
theorem w_law_says {P : Program} {w : World} {K : PySem.W.Frag} {mg : Str → Option Value} {base : Heap} {tN tL : Tok} {f : Addr} {cdv : Value} {A : Around} {outer : List Env} {s : Shared} {H : Hp} {E : XK}
    (hr : Room 0 (A.deeper (envOfC "_law_says" (defScope s_law_says) s.heap.objs.size f cdv))) (B : Bl mg) (G : Gb mg tN tL) :
    PSs (cxOf CX0 P w K mg base ["_law_part", "_law_text", "_law_k"] "_law_says" (defScope s_law_says) f cdv A outer s H E).nox (defBody s_law_says) (t_law_says K) := by
  exact (pss_cons (ps_if (pt_cmpR op_ne (pe_callB tx_len (by rfl) B.len PySem.boot_len (pa_cons (pv 0) pa_nil)) (pe_callB tx_len (by rfl) B.len PySem.boot_len (pa_cons (pv 1) pa_nil)) (nomark _))
    (pss_one (ps_ret pe_bl))
    pss_nil)
    (pss_cons (ps_for PassesOwn.never rfl (pi_range1 (by rfl) B.range (pa_cons (pe_callB tx_len (by rfl) B.len PySem.boot_len (pa_cons (pv 0) pa_nil)) pa_nil)) (pg_name (i := 2) sc_law_says.nd rfl (Or.inl rfl))
    (pss_one (ps_if (PW.pt (pw_and (pt_cmpR tx_ne (pe_ix tx_ix (pv 0) (pv 2) (fun _ _ => rfl)) (pe_ix tx_ix (pv 1) (pv 2) (fun _ _ => rfl)) (nomark _)) (pw_and1 (PW.pt (pw_or (pt_cmpR tx_ne (pe_ix tx_ix (pv 0) (pv 2) (fun _ _ => rfl)) (pe_tx (l := [63]) (by decide +kernel)) (nomark _)) (pw_or1 (pt_cmpR tx_eq (pe_ix tx_ix (pv 1) (pv 2) (fun _ _ => rfl)) (pe_tx (l := [46]) (by decide +kernel)) (nomark _))))))))
    (pss_one (ps_ret pe_bl))
    pss_nil)))
    (pss_one (ps_ret pe_bl))))

abbrev s_law_fits : Stmt := topS 32
theorem sc_law_fits : FnScope ["_law_row_here", "_law_word_here", "_law_gap", "_law_before", "_law_behind", "_law_start"] ["_law_row_here", "_law_word_here", "_law_gap"] (defScope s_law_fits) := ⟨rfl, rfl, rfl, by decide +kernel, rfl, by decide +kernel, by decide +kernel⟩
theorem w_law_fits {P : Program} {w : World} {K : PySem.W.Frag} {mg : Str → Option Value} {base : Heap} {tN tL : Tok} {sp_law_says : Sp} {f : Addr} {cdv : Value} {A : Around} {outer : List Env} {s : Shared} {H : Hp} {E : XK}
    (hr : Room 1 (A.deeper (envOfC "_law_fits" (defScope s_law_fits) s.heap.objs.size f cdv))) (B : Bl mg) (G : Gb mg tN tL)
    (C_law_says : Cal P w K mg base "_law_says" 1 ["_law_part", "_law_text"] sp_law_says) :
    PSs (cxOf CX0 P w K mg base ["_law_row_here", "_law_word_here", "_law_gap", "_law_before", "_law_behind", "_law_start"] "_law_fits" (defScope s_law_fits) f cdv A outer s H E).nox (defBody s_law_fits) (t_law_fits K sp_law_says) := by
  exact (pss_cons (ps_set (i := 3) sc_law_fits.nd rfl (Or.inl rfl) (pe_op tx_add (pe_tx (l := [46]) (by decide +kernel)) (pe_slice tx_sl (pv 1) po_none (po_some (pv 2)))))
    (pss_cons (ps_set (i := 4) sc_law_fits.nd rfl (Or.inl rfl) (pe_op tx_add (pe_slice tx_sl (pv 1) (po_some (pv 2)) po_none) (pe_tx (l := [46]) (by decide +kernel))))
    (pss_cons (ps_set (i := 5) sc_law_fits.nd rfl (Or.inl rfl) (pe_op op_sub (pe_callB tx_len (by rfl) B.len PySem.boot_len (pa_cons (pv 3) pa_nil)) (pe_callB tx_len (by rfl) B.len PySem.boot_len (pa_cons (pe_ix ix_tup (pv 0) pe_int (fun _ _ => rfl)) pa_nil))))
    (pss_cons (ps_if (PW.pt (pw_or (pt_cmpR op_lt (pv 5) pe_int (nomark _)) (pw_or1 (pt_not (pt_val (pe_cal C_law_says (hr.mono (by decide)) (by rfl) (pa_cons (pe_ix ix_tup (pv 0) pe_int (fun _ _ => rfl)) (pa_cons (pe_slice tx_sl (pv 3) (po_some (pv 5)) po_none) pa_nil))))))))
    (pss_one (ps_ret pe_bl))
    pss_nil)
    (pss_one (ps_ret (pe_cal C_law_says (hr.mono (by decide)) (by rfl) (pa_cons (pe_ix ix_tup (pv 0) pe_int (fun _ _ => rfl)) (pa_cons (pe_slice tx_sl (pv 4) po_none (po_some (pe_callB tx_len (by rfl) B.len PySem.boot_len (pa_cons (pe_ix ix_tup (pv 0) pe_int (fun _ _ => rfl)) pa_nil)))) pa_nil)))))))))

abbrev s_law_is_joint : Stmt := topS 33
theorem sc_law_is_joint : FnScope ["_law_rows", "_law_word_here", "_law_gap", "_law_row_here"] ["_law_rows", "_law_word_here", "_law_gap"] (defScope s_law_is_joint) := ⟨rfl, rfl, rfl, by decide +kernel, rfl, by decide +kernel, by decide +kernel⟩
theorem w_law_is_joint {P : Program} {w : World} {K : PySem.W.Frag} {mg : Str → Option Value} {base : Heap} {tN tL : Tok} {sp_law_fits : Sp} {f : Addr} {cdv : Value} {A : Around} {outer : List Env} {s : Shared} {H : Hp} {E : XK}
    (hr : Room 2 (A.deeper (envOfC "_law_is_joint" (defScope s_law_is_joint) s.heap.objs.size f cdv))) (B : Bl mg) (G : Gb mg tN tL)
    (C_law_fits : Cal P w K mg base "_law_fits" 2 ["_law_row_here", "_law_word_here", "_law_gap"] sp_law_fits) :
    PSs (cxOf CX0 P w K mg base ["_law_rows", "_law_word_here", "_law_gap", "_law_row_here"] "_law_is_joint" (defScope s_law_is_joint) f cdv A outer s H E).nox (defBody s_law_is_joint) (t_law_is_joint K sp_law_fits) := by
  exact (pss_cons (ps_for PassesOwn.never rfl (pi_list (pv 0)) (pg_name (i := 3) sc_law_is_joint.nd rfl (Or.inl rfl))
    (pss_one (ps_if (pt_val (pe_cal C_law_fits (hr.mono (by decide)) (by rfl) (pa_cons (pv 3) (pa_cons (pv 1) (pa_cons (pv 2) pa_nil)))))
    (pss_one (ps_ret (pe_not (pe_ix ix_tup (pv 3) pe_int (fun _ _ => rfl)))))
    pss_nil)))
    (pss_one (ps_ret pe_bl)))

abbrev s_law_word : Stmt := topS 34
theorem sc_law_word : FnScope ["_law_cell_here", "_law_letters_here", "_law_limits", "_law_k", "_law_row_here", "_law_size", "_law_drawn"] ["_law_cell_here", "_law_letters_here"] (defScope s_law_word) := ⟨rfl, rfl, rfl, by decide +kernel, rfl, by decide +kernel, by decide +kernel⟩
theorem w_law_word {P : Program} {w : World} {K : PySem.W.Frag} {mg : Str → Option Value} {base : Heap} {tN tL : Tok} {sp_law_row : Sp} {f : Addr} {cdv : Value} {A : Around} {outer : List Env} {s : Shared} {H : Hp} {E : XK}
    (hr : Room 1 (A.deeper (envOfC "_law_word" (defScope s_law_word) s.heap.objs.size f cdv))) (B : Bl mg) (G : Gb mg tN tL)
    (C_law_row : Cal P w K mg base "_law_row" 1 ["_law_cell_here", "_law_limits"] sp_law_row) :
    PSs (cxOf CX0 P w K mg base ["_law_cell_here", "_law_letters_here", "_law_limits", "_law_k", "_law_row_here", "_law_size", "_law_drawn"] "_law_word" (defScope s_law_word) f cdv A outer s H E).nox (defBody s_law_word) (t_law_word K sp_law_row) := by
  exact (pss_cons (ps_set (i := 2) sc_law_word.nd rfl (Or.inl rfl) (pe_lst (pa_cons pe_int (pa_cons pe_int (pa_cons pe_int (pa_cons pe_int pa_nil))))))
    (pss_cons (ps_for PassesOwn.never rfl (pi_range1 (by rfl) B.range (pa_cons pe_int pa_nil)) (pg_name (i := 3) sc_law_word.nd rfl (Or.inl rfl))
    (pss_one (ps_expr (pe_bm PySem.F.plainAttrs_list PySem.F.slot_list_append PySem.F.type_list_append mt_append (pv 2) (pa_cons (pe_callB tx_len (by rfl) B.len PySem.boot_len (pa_cons (pv 1) pa_nil)) pa_nil)))))
    (pss_cons (ps_set (i := 4) sc_law_word.nd rfl (Or.inr rfl) (pe_cal C_law_row (hr.mono (by decide)) (by rfl) (pa_cons (pv 0) (pa_cons (pv 2) pa_nil))))
    (pss_cons (ps_set (i := 5) sc_law_word.nd rfl (Or.inl rfl) (pe_op op_add pe_int (pe_ix ix_list (pv 4) pe_int (fun _ _ => rfl))))
    (pss_cons (ps_if (pt_cmpR op_eq (pe_ix ix_list (pv 4) pe_int (fun _ _ => rfl)) pe_int (nomark _))
    (pss_one (ps_set (i := 5) sc_law_word.nd rfl (Or.inl rfl) (pe_op op_add pe_int (pe_ix ix_list (pv 4) pe_int (fun _ _ => rfl)))))
    pss_nil)
    (pss_cons (ps_set (i := 6) sc_law_word.nd rfl (Or.inl rfl) (pe_joinE (pe_tx (l := []) (by decide +kernel)) (pe_lc (own := [("_law_k", 3)]) (g := (gName 3)) (tt := tYes) rfl sc_law_word.nd (pi_range1 (by rfl) B.range (pa_cons pe_int pa_nil)) (blkOk_by (own := [("_law_k", 3)]) (N := ["_law_cell_here", "_law_letters_here", "_law_limits", "_law_k", "_law_row_here", "_law_size", "_law_drawn"]) (sc := defScope s_law_word) (by decide +kernel)) (fun _ _ _ _ _ => (pg_name (i := 3) sc_law_word.nd rfl (Or.inl rfl))) (fun _ _ _ _ _ => pts_nil) (fun _ _ _ _ _ => (pe_ix tx_ix (pv 1) (pe_ix ix_list (pv 4) (pe_op op_add pe_int (pv 3)) (fun _ _ => rfl)) (fun _ _ => rfl))))))
    (pss_cons (ps_if (pt_cmpR op_eq (pe_ix ix_list (pv 4) pe_int (fun _ _ => rfl)) pe_int (nomark _))
    (pss_one (ps_set (i := 6) sc_law_word.nd rfl (Or.inl rfl) (pe_op tx_mul (pe_slice tx_sl (pv 6) po_none (po_some (pe_op op_add pe_int (pe_ix ix_list (pv 4) pe_int (fun _ _ => rfl))))) pe_int)))
    pss_nil)
    (pss_one (ps_ret (pe_slice tx_sl (pv 6) po_none (po_some (pv 5))))))))))))

abbrev s_law_numbers : Stmt := topS 35
theorem sc_law_numbers : FnScope ["_law_cell_here", "_law_letters_here", "_law_row_here", "_law_weight", "_law_k", "_law_numbers_here"] ["_law_cell_here", "_law_letters_here"] (defScope s_law_numbers) := ⟨rfl, rfl, rfl, by decide +kernel, rfl, by decide +kernel, by decide +kernel⟩
theorem w_law_numbers {P : Program} {w : World} {K : PySem.W.Frag} {mg : Str → Option Value} {base : Heap} {tN tL : Tok} {sp_law_row : Sp} {f : Addr} {cdv : Value} {A : Around} {outer : List Env} {s : Shared} {H : Hp} {E : XK}
    (hr : Room 1 (A.deeper (envOfC "_law_numbers" (defScope s_law_numbers) s.heap.objs.size f cdv))) (B : Bl mg) (G : Gb mg tN tL)
    (C_law_row : Cal P w K mg base "_law_row" 1 ["_law_cell_here", "_law_limits"] sp_law_row) :
    PSs (cxOf CX0 P w K mg base ["_law_cell_here", "_law_letters_here", "_law_row_here", "_law_weight", "_law_k", "_law_numbers_here"] "_law_numbers" (defScope s_law_numbers) f cdv A outer s H E).nox (defBody s_law_numbers) (t_law_numbers K sp_law_row) := by
  exact (pss_cons (ps_set (i := 2) sc_law_numbers.nd rfl (Or.inl rfl) (pe_cal C_law_row (hr.mono (by decide)) (by rfl) (pa_cons (pv 0) (pa_cons (pe_lst (pa_cons pe_int (pa_cons pe_int (pa_cons pe_int (pa_cons pe_int (pa_cons pe_int (pa_cons pe_int (pa_cons pe_int (pa_cons pe_int (pa_cons pe_int (pa_cons pe_int (pa_cons pe_int (pa_cons pe_int (pa_cons pe_int (pa_cons pe_int (pa_cons pe_int (pa_cons pe_int (pa_cons pe_int (pa_cons pe_int (pa_cons pe_int pa_nil)))))))))))))))))))) pa_nil))))
    (pss_cons (ps_set (i := 3) sc_law_numbers.nd rfl (Or.inl rfl) pe_dnewK)
    (pss_cons (ps_for PassesOwn.never rfl (pi_range1 (by rfl) B.range (pa_cons (pe_callB tx_len (by rfl) B.len PySem.boot_len (pa_cons (pv 1) pa_nil)) pa_nil)) (pg_name (i := 4) sc_law_numbers.nd rfl (Or.inl rfl))
    (pss_cons (ps_dput (hu_of hr) (pv 3) (pe_ix tx_ix (pv 1) (pv 4) (fun _ _ => rfl)) (pe_op op_add pe_int (pe_ix ix_list (pv 2) (pe_op op_add pe_int (pv 4)) (fun _ _ => rfl))) rfl)
    (pss_one (ps_if (pt_cmpR op_eq (pe_ix ix_list (pv 2) pe_int (fun _ _ => rfl)) pe_int (nomark _))
    (pss_one (ps_dput (hu_of hr) (pv 3) (pe_ix tx_ix (pv 1) (pv 4) (fun _ _ => rfl)) (pe_op op_add pe_int (pe_ix ix_list (pv 2) (pe_op op_add pe_int (pv 4)) (fun _ _ => rfl))) rfl))
    (pss_one (ps_if (PW.pt (pw_and (pt_cmpR op_eq (pe_ix ix_list (pv 2) pe_int (fun _ _ => rfl)) pe_int (nomark _)) (pw_and1 (pt_cmpR op_eq (pe_callB tx_len (by rfl) B.len PySem.boot_len (pa_cons (pv 1) pa_nil)) pe_int (nomark _)))))
    (pss_one (ps_dput (hu_of hr) (pv 3) (pe_ix tx_ix (pv 1) (pv 4) (fun _ _ => rfl)) (pe_op op_add pe_int (pe_ix ix_list (pv 2) pe_int (fun _ _ => rfl))) rfl))
    pss_nil))))))
    (pss_cons (ps_set (i := 5) sc_law_numbers.nd rfl (Or.inl rfl) (pe_lst (pa_cons (pe_ix ix_list (pv 2) pe_int (fun _ _ => rfl)) (pa_cons (pe_op op_sub (pe_ix ix_list (pv 2) pe_int (fun _ _ => rfl)) pe_int) (pa_cons (pe_op op_sub (pe_ix ix_list (pv 2) pe_int (fun _ _ => rfl)) pe_int) pa_nil)))))
    (pss_cons (ps_if (pt_cmpR op_eq (pe_ix ix_list (pv 2) pe_int (fun _ _ => rfl)) pe_int (nomark _))
    (pss_one (ps_set (i := 5) sc_law_numbers.nd rfl (Or.inl rfl) (pe_lst (pa_cons (pe_ix ix_list (pv 2) pe_int (fun _ _ => rfl)) (pa_cons (pe_op op_add pe_int (pe_ix ix_list (pv 2) pe_int (fun _ _ => rfl))) (pa_cons (pe_op op_add pe_int (pe_ix ix_list (pv 2) pe_int (fun _ _ => rfl))) pa_nil))))))
    (pss_one (ps_if (PW.pt (pw_and (pt_cmpR op_eq (pe_ix ix_list (pv 2) pe_int (fun _ _ => rfl)) pe_int (nomark _)) (pw_and1 (pt_cmpR op_eq (pe_callB tx_len (by rfl) B.len PySem.boot_len (pa_cons (pv 1) pa_nil)) pe_int (nomark _)))))
    (pss_one (ps_set (i := 5) sc_law_numbers.nd rfl (Or.inl rfl) (pe_lst (pa_cons (pe_ix ix_list (pv 2) pe_int (fun _ _ => rfl)) (pa_cons (pe_ix ix_list (pv 2) pe_int (fun _ _ => rfl)) (pa_cons (pe_ix ix_list (pv 2) pe_int (fun _ _ => rfl)) pa_nil))))))
    (pss_one (ps_if (pt_cmpR op_eq (pe_ix ix_list (pv 2) pe_int (fun _ _ => rfl)) pe_int (nomark _))
    (pss_one (ps_asg (pe_op op_sub pe_int (pe_ix ix_list (pv 2) pe_int (fun _ _ => rfl))) (pg_sub (pv 5) (pe_op op_add pe_int (pe_ix ix_list (pv 2) pe_int (fun _ _ => rfl))) set_list)))
    pss_nil)))))
    (pss_one (ps_ret (pe_tup (pa_cons (pv 3) (pa_cons (pv 5) pa_nil))))))))))

abbrev s_law_can_be_set : Stmt := topS 36
theorem sc_law_can_be_set : FnScope ["_law_rows", "_law_word_here", "_law_weight", "_law_numbers_here", "_law_widths", "_law_k", "_law_good", "_law_end", "_law_width", "_law_fits_here", "_law_back", "_law_start", "_law_most"] ["_law_rows", "_law_word_here", "_law_weight", "_law_numbers_here"] (defScope s_law_can_be_set) := ⟨rfl, rfl, rfl, by decide +kernel, rfl, by decide +kernel, by decide +kernel⟩
theorem w_law_can_be_set {P : Program} {w : World} {K : PySem.W.Frag} {mg : Str → Option Value} {base : Heap} {tN tL : Tok} {sp_law_is_joint : Sp} {f : Addr} {cdv : Value} {A : Around} {outer : List Env} {s : Shared} {H : Hp} {E : XK}
    (hr : Room 3 (A.deeper (envOfC "_law_can_be_set" (defScope s_law_can_be_set) s.heap.objs.size f cdv))) (B : Bl mg) (G : Gb mg tN tL)
    (C_law_is_joint : Cal P w K mg base "_law_is_joint" 3 ["_law_rows", "_law_word_here", "_law_gap"] sp_law_is_joint) :
    PSs (cxOf CX0 P w K mg base ["_law_rows", "_law_word_here", "_law_weight", "_law_numbers_here", "_law_widths", "_law_k", "_law_good", "_law_end", "_law_width", "_law_fits_here", "_law_back", "_law_start", "_law_most"] "_law_can_be_set" (defScope s_law_can_be_set) f cdv A outer s H E).nox (defBody s_law_can_be_set) (t_law_can_be_set K sp_law_is_joint) := by
  exact (pss_cons (ps_set (i := 4) sc_law_can_be_set.nd rfl (Or.inl rfl) (pe_lst (pa_cons (pe_dget (hu_of hr) (pv 2) (pe_ix tx_ix (pv 1) pe_int (fun _ _ => rfl)) (fun _ _ => rfl)) pa_nil)))
    (pss_cons (ps_for PassesOwn.never rfl (pi_range2 (by rfl) B.range (pa_cons pe_int (pa_cons (pe_callB tx_len (by rfl) B.len PySem.boot_len (pa_cons (pv 1) pa_nil)) pa_nil))) (pg_name (i := 5) sc_law_can_be_set.nd rfl (Or.inl rfl))
    (pss_cons (ps_if (pt_val (pe_cal C_law_is_joint (hr.mono (by decide)) (by rfl) (pa_cons (pv 0) (pa_cons (pv 1) (pa_cons (pv 5) pa_nil)))))
    (pss_one (ps_expr (pe_bm PySem.F.plainAttrs_list PySem.F.slot_list_append PySem.F.type_list_append mt_append (pv 4) (pa_cons pe_int pa_nil))))
    pss_nil)
    (pss_one (ps_asg (pe_op op_add (pe_ix ix_list (pv 4) (pe_un un_neg pe_int) (fun _ _ => rfl)) (pe_dget (hu_of hr) (pv 2) (pe_ix tx_ix (pv 1) (pv 5) (fun _ _ => rfl)) (fun _ _ => rfl))) (pg_sub (pv 4) (pe_un un_neg pe_int) set_list)))))
    (pss_cons (ps_set (i := 6) sc_law_can_be_set.nd rfl (Or.inl rfl) (pe_lst (pa_cons pe_bl pa_nil)))
    (pss_cons (ps_for PassesOwn.never rfl (pi_range2 (by rfl) B.range (pa_cons pe_int (pa_cons (pe_op op_add (pe_callB call_len_seq (by rfl) B.len PySem.boot_len (pa_cons (pv 4) pa_nil)) pe_int) pa_nil))) (pg_name (i := 7) sc_law_can_be_set.nd rfl (Or.inl rfl))
    (pss_cons (ps_set (i := 8) sc_law_can_be_set.nd rfl (Or.inl rfl) (pe_ix ix_list (pv 3) pe_int (fun _ _ => rfl)))
    (pss_cons (ps_if (pt_cmpR op_eq (pv 7) (pe_callB call_len_seq (by rfl) B.len PySem.boot_len (pa_cons (pv 4) pa_nil)) (nomark _))
    (pss_one (ps_set (i := 8) sc_law_can_be_set.nd rfl (Or.inl rfl) pe_int))
    pss_nil)
    (pss_cons (ps_set (i := 9) sc_law_can_be_set.nd rfl (Or.inl rfl) pe_bl)
    (pss_cons (ps_for PassesOwn.never rfl (pi_range1 (by rfl) B.range (pa_cons (pv 7) pa_nil)) (pg_name (i := 10) sc_law_can_be_set.nd rfl (Or.inl rfl))
    (pss_cons (ps_set (i := 11) sc_law_can_be_set.nd rfl (Or.inl rfl) (pe_op op_sub (pe_op op_sub (pv 7) pe_int) (pv 10)))
    (pss_cons (ps_set (i := 8) sc_law_can_be_set.nd rfl (Or.inl rfl) (pe_op op_add (pv 8) (pe_ix ix_list (pv 4) (pv 11) (fun _ _ => rfl))))
    (pss_cons (ps_set (i := 12) sc_law_can_be_set.nd rfl (Or.inl rfl) (pe_ix ix_list (pv 3) pe_int (fun _ _ => rfl)))
    (pss_cons (ps_if (pt_cmpR op_eq (pv 11) pe_int (nomark _))
    (pss_one (ps_set (i := 12) sc_law_can_be_set.nd rfl (Or.inl rfl) (pe_ix ix_list (pv 3) pe_int (fun _ _ => rfl))))
    pss_nil)
    (pss_one (ps_if (PW.pt (pw_and (pt_val (pe_ix ix_list (pv 6) (pv 11) (fun _ _ => rfl))) (pw_and1 (pt_cmpR op_le (pv 8) (pv 12) (nomark _)))))
    (pss_one (ps_set (i := 9) sc_law_can_be_set.nd rfl (Or.inl rfl) pe_bl))
    pss_nil)))))))
    (pss_one (ps_expr (pe_bm PySem.F.plainAttrs_list PySem.F.slot_list_append PySem.F.type_list_append mt_append (pv 6) (pa_cons (pv 9) pa_nil)))))))))
    (pss_one (ps_ret (pe_ix ix_list (pv 6) (pe_un un_neg pe_int) (fun _ _ => rfl))))))))

abbrev s_law_short_words : Stmt := topS 37
theorem sc_law_short_words : FnScope ["_law_letters_here", "_law_letter", "_law_words", "_law_out", "_law_turn", "_law_longer", "_law_word_here"] ["_law_letters_here"] (defScope s_law_short_words) := ⟨rfl, rfl, rfl, by decide +kernel, rfl, by decide +kernel, by decide +kernel⟩
theorem w_law_short_words {P : Program} {w : World} {K : PySem.W.Frag} {mg : Str → Option Value} {base : Heap} {tN tL : Tok} {f : Addr} {cdv : Value} {A : Around} {outer : List Env} {s : Shared} {H : Hp} {E : XK}
    (hr : Room 0 (A.deeper (envOfC "_law_short_words" (defScope s_law_short_words) s.heap.objs.size f cdv))) (B : Bl mg) (G : Gb mg tN tL) :
    PSs (cxOf CX0 P w K mg base ["_law_letters_here", "_law_letter", "_law_words", "_law_out", "_law_turn", "_law_longer", "_law_word_here"] "_law_short_words" (defScope s_law_short_words) f cdv A outer s H E).nox (defBody s_law_short_words) (t_law_short_words K) := by
  exact (pss_cons (ps_setLc (i := 2) (own := [("_law_letter", 1)]) (g := (gName 1)) (tt := tYes) rfl sc_law_short_words.nd rfl rfl (sw_true rfl rfl rfl (by decide +kernel)) (pi_str (pv 0)) (blkOk_by (own := [("_law_letter", 1)]) (N := ["_law_letters_here", "_law_letter", "_law_words", "_law_out", "_law_turn", "_law_longer", "_law_word_here"]) (sc := defScope s_law_short_words) (by decide +kernel)) (fun _ _ _ _ _ => (pg_name (i := 1) sc_law_short_words.nd rfl (Or.inl rfl))) (fun _ _ _ _ _ => pts_nil) (fun _ _ _ _ _ => (pv 1)))
    (pss_cons (ps_set (i := 3) sc_law_short_words.nd rfl (Or.inl rfl) (pe_callTy call_list_of (by rfl) B.list (by decide +kernel) (pa_cons (pv 2) pa_nil)))
    (pss_cons (ps_for PassesOwn.never rfl (pi_range1 (by rfl) B.range (pa_cons (pe_ix ix_list (pe_lst (pa_cons pe_int (pa_cons pe_int (pa_cons pe_int pa_nil)))) (pe_op op_sub (pe_callB tx_len (by rfl) B.len PySem.boot_len (pa_cons (pv 0) pa_nil)) pe_int) (fun _ _ => rfl)) pa_nil)) (pg_name (i := 4) sc_law_short_words.nd rfl (Or.inl rfl))
    (pss_cons (ps_set (i := 5) sc_law_short_words.nd rfl (Or.inl rfl) (pe_lst pa_nil))
    (pss_cons (ps_for PassesOwn.never rfl (pi_list (pv 2)) (pg_name (i := 6) sc_law_short_words.nd rfl (Or.inl rfl))
    (pss_one (ps_for PassesOwn.never rfl (pi_str (pv 0)) (pg_name (i := 1) sc_law_short_words.nd rfl (Or.inl rfl))
    (pss_one (ps_expr (pe_bm PySem.F.plainAttrs_list PySem.F.slot_list_append PySem.F.type_list_append mt_append (pv 5) (pa_cons (pe_op tx_add (pv 6) (pv 1)) pa_nil)))))))
    (pss_cons (ps_set (i := 2) sc_law_short_words.nd rfl (Or.inl rfl) (pe_callTy call_list_of (by rfl) B.list (by decide +kernel) (pa_cons (pv 5) pa_nil)))
    (pss_one (ps_set (i := 3) sc_law_short_words.nd rfl (Or.inl rfl) (pe_op op_cat (pv 3) (pv 2))))))))
    (pss_one (ps_ret (pv 3))))))

abbrev s_law_is_ahead : Stmt := topS 38
theorem sc_law_is_ahead : FnScope ["_law_one", "_law_two"] ["_law_one", "_law_two"] (defScope s_law_is_ahead) := ⟨rfl, rfl, rfl, by decide +kernel, rfl, by decide +kernel, by decide +kernel⟩
theorem w_law_is_ahead {P : Program} {w : World} {K : PySem.W.Frag} {mg : Str → Option Value} {base : Heap} {tN tL : Tok} {f : Addr} {cdv : Value} {A : Around} {outer : List Env} {s : Shared} {H : Hp} {E : XK}
    (hr : Room 0 (A.deeper (envOfC "_law_is_ahead" (defScope s_law_is_ahead) s.heap.objs.size f cdv))) (B : Bl mg) (G : Gb mg tN tL) :
    PSs (cxOf CX0 P w K mg base ["_law_one", "_law_two"] "_law_is_ahead" (defScope s_law_is_ahead) f cdv A outer s H E).nox (defBody s_law_is_ahead) (t_law_is_ahead K) := by
  exact (pss_cons (ps_if (pt_cmpR op_ne (pe_callB tx_len (by rfl) B.len PySem.boot_len (pa_cons (pv 0) pa_nil)) (pe_callB tx_len (by rfl) B.len PySem.boot_len (pa_cons (pv 1) pa_nil)) (nomark _))
    (pss_one (ps_ret (pe_cmpR op_lt (pe_callB tx_len (by rfl) B.len PySem.boot_len (pa_cons (pv 0) pa_nil)) (pe_callB tx_len (by rfl) B.len PySem.boot_len (pa_cons (pv 1) pa_nil)) (nomark _))))
    pss_nil)
    (pss_one (ps_ret (pe_cmpR tx_lt (pv 0) (pv 1) (nomark _)))))

abbrev s_law_near : Stmt := topS 39
theorem sc_law_near : FnScope ["_law_word_here", "_law_letters_here", "_law_out", "_law_k", "_law_start", "_law_end", "_law_letter", "_law_near_here"] ["_law_word_here", "_law_letters_here"] (defScope s_law_near) := ⟨rfl, rfl, rfl, by decide +kernel, rfl, by decide +kernel, by decide +kernel⟩
theorem w_law_near {P : Program} {w : World} {K : PySem.W.Frag} {mg : Str → Option Value} {base : Heap} {tN tL : Tok} {f : Addr} {cdv : Value} {A : Around} {outer : List Env} {s : Shared} {H : Hp} {E : XK}
    (hr : Room 0 (A.deeper (envOfC "_law_near" (defScope s_law_near) s.heap.objs.size f cdv))) (B : Bl mg) (G : Gb mg tN tL) :
    PSs (cxOf CX0 P w K mg base ["_law_word_here", "_law_letters_here", "_law_out", "_law_k", "_law_start", "_law_end", "_law_letter", "_law_near_here"] "_law_near" (defScope s_law_near) f cdv A outer s H E).nox (defBody s_law_near) (t_law_near K) := by
  exact (pss_cons (ps_set (i := 2) sc_law_near.nd rfl (Or.inl rfl) (pe_lst pa_nil))
    (pss_cons (ps_for PassesOwn.never rfl (pi_range1 (by rfl) B.range (pa_cons (pe_callB (call_min2 rfl) (by rfl) B.min (by decide +kernel) (pa_cons (pe_callB tx_len (by rfl) B.len PySem.boot_len (pa_cons (pv 0) pa_nil)) (pa_cons pe_int pa_nil))) pa_nil)) (pg_name (i := 3) sc_law_near.nd rfl (Or.inl rfl))
    (pss_cons (ps_set (i := 4) sc_law_near.nd rfl (Or.inl rfl) (pe_slice tx_sl (pv 0) po_none (po_some (pv 3))))
    (pss_cons (ps_set (i := 5) sc_law_near.nd rfl (Or.inl rfl) (pe_slice tx_sl (pv 0) (po_some (pe_op op_add (pv 3) pe_int)) po_none))
    (pss_cons (ps_set (i := 2) sc_law_near.nd rfl (Or.inl rfl) (pe_op op_cat (pv 2) (pe_lst (pa_cons (pv 4) (pa_cons (pv 5) (pa_cons (pe_op tx_add (pv 4) (pv 5)) pa_nil))))))
    (pss_one (ps_for PassesOwn.never rfl (pi_str (pv 1)) (pg_name (i := 6) sc_law_near.nd rfl (Or.inl rfl))
    (pss_one (ps_if (pt_cmpR tx_lt (pv 6) (pe_ix tx_ix (pv 0) (pv 3) (fun _ _ => rfl)) (nomark _))
    (pss_one (ps_expr (pe_bm PySem.F.plainAttrs_list PySem.F.slot_list_append PySem.F.type_list_append mt_append (pv 2) (pa_cons (pe_op tx_add (pe_op tx_add (pv 4) (pv 6)) (pv 5)) pa_nil))))
    pss_nil))))))))
    (pss_one (ps_ret (pe_lc (own := [("_law_near_here", 7)]) (g := (gName 7)) (tt := (tTest (tOp rNeT (tVar 7) (tC (T []))))) rfl sc_law_near.nd (pi_list (pv 2)) (blkOk_by (own := [("_law_near_here", 7)]) (N := ["_law_word_here", "_law_letters_here", "_law_out", "_law_k", "_law_start", "_law_end", "_law_letter", "_law_near_here"]) (sc := defScope s_law_near) (by decide +kernel)) (fun _ _ _ _ _ => (pg_name (i := 7) sc_law_near.nd rfl (Or.inl rfl))) (fun _ _ _ _ _ => (pts_one (pt_cmpR tx_ne (pv 7) (pe_tx (l := []) (by decide +kernel)) (nomark _)))) (fun _ _ _ _ _ => (pv 7)))))))

abbrev s_law_is_word : Stmt := topS 40
theorem sc_law_is_word : FnScope ["_law_told", "_law_letters_here", "_law_letter"] ["_law_told", "_law_letters_here"] (defScope s_law_is_word) := ⟨rfl, rfl, rfl, by decide +kernel, rfl, by decide +kernel, by decide +kernel⟩
theorem w_law_is_word {P : Program} {w : World} {K : PySem.W.Frag} {mg : Str → Option Value} {base : Heap} {tN tL : Tok} {f : Addr} {cdv : Value} {A : Around} {outer : List Env} {s : Shared} {H : Hp} {E : XK}
    (hr : Room 0 (A.deeper (envOfC "_law_is_word" (defScope s_law_is_word) s.heap.objs.size f cdv))) (B : Bl mg) (G : Gb mg tN tL) :
    PSs (cxOf CX0 P w K mg base ["_law_told", "_law_letters_here", "_law_letter"] "_law_is_word" (defScope s_law_is_word) f cdv A outer s H E).nox (defBody s_law_is_word) (t_law_is_word K) := by
  exact (pss_cons (ps_if (PW.pt (pw_or (pt_not (pt_val (pe_callB call_isi (by rfl) B.isinstance (by decide +kernel) (pa_cons (pv 0) (pa_cons (pe_bltn (by rfl) B.str (by decide +kernel) rfl) pa_nil))))) (pw_or1 (pt_cmpR tx_eq (pv 0) (pe_tx (l := []) (by decide +kernel)) (nomark _)))))
    (pss_one (ps_ret pe_bl))
    pss_nil)
    (pss_cons (ps_for PassesOwn.never rfl (pi_str (pv 0)) (pg_name (i := 2) sc_law_is_word.nd rfl (Or.inl rfl))
    (pss_one (ps_if (pt_cmpR tx_notin (pv 2) (pv 1) rfl)
    (pss_one (ps_ret pe_bl))
    pss_nil)))
    (pss_one (ps_ret pe_bl))))

abbrev s_law_holds : Stmt := topS 41
theorem sc_law_holds : FnScope ["_law_told", "_law_rows", "_law_letters_here", "_law_weight", "_law_numbers_here", "_law_words", "_law_look", "_law_word_here"] ["_law_told", "_law_rows", "_law_letters_here", "_law_weight", "_law_numbers_here", "_law_words"] (defScope s_law_holds) := ⟨rfl, rfl, rfl, by decide +kernel, rfl, by decide +kernel, by decide +kernel⟩
theorem w_law_holds {P : Program} {w : World} {K : PySem.W.Frag} {mg : Str → Option Value} {base : Heap} {tN tL : Tok} {sp_law_is_word sp_law_can_be_set sp_law_near sp_law_is_ahead : Sp} {f : Addr} {cdv : Value} {A : Around} {outer : List Env} {s : Shared} {H : Hp} {E : XK}
    (hr : Room 4 (A.deeper (envOfC "_law_holds" (defScope s_law_holds) s.heap.objs.size f cdv))) (B : Bl mg) (G : Gb mg tN tL)
    (C_law_is_word : Cal P w K mg base "_law_is_word" 1 ["_law_told", "_law_letters_here"] sp_law_is_word)
    (C_law_can_be_set : Cal P w K mg base "_law_can_be_set" 4 ["_law_rows", "_law_word_here", "_law_weight", "_law_numbers_here"] sp_law_can_be_set)
    (C_law_near : Cal P w K mg base "_law_near" 1 ["_law_word_here", "_law_letters_here"] sp_law_near)
    (C_law_is_ahead : Cal P w K mg base "_law_is_ahead" 1 ["_law_one", "_law_two"] sp_law_is_ahead) :
    PSs (cxOf CX0 P w K mg base ["_law_told", "_law_rows", "_law_letters_here", "_law_weight", "_law_numbers_here", "_law_words", "_law_look", "_law_word_here"] "_law_holds" (defScope s_law_holds) f cdv A outer s H E).nox (defBody s_law_holds) (t_law_holds K sp_law_is_word sp_law_can_be_set sp_law_near sp_law_is_ahead) := by
  exact (pss_cons (ps_set (i := 6) sc_law_holds.nd rfl (Or.inl rfl) (pe_callTy call_list_of (by rfl) B.list (by decide +kernel) (pa_cons (pv 5) pa_nil)))
    (pss_cons (ps_if (pt_cmpR op_notN (pv 0) pe_non (nomark _))
    (pss_cons (ps_if (pt_not (pt_val (pe_cal C_law_is_word (hr.mono (by decide)) (by rfl) (pa_cons (pv 0) (pa_cons (pv 2) pa_nil)))))
    (pss_one (ps_ret pe_bl))
    pss_nil)
    (pss_cons (ps_if (pt_val (pe_cal C_law_can_be_set (hr.mono (by decide)) (by rfl) (pa_cons (pv 1) (pa_cons (pv 0) (pa_cons (pv 3) (pa_cons (pv 4) pa_nil))))))
    (pss_one (ps_ret pe_bl))
    pss_nil)
    (pss_one (ps_set (i := 6) sc_law_holds.nd rfl (Or.inl rfl) (pe_op op_cat (pv 6) (pe_cal C_law_near (hr.mono (by decide)) (by rfl) (pa_cons (pv 0) (pa_cons (pv 2) pa_nil))))))))
    pss_nil)
    (pss_cons (ps_for PassesOwn.never rfl (pi_list (pv 6)) (pg_name (i := 7) sc_law_holds.nd rfl (Or.inl rfl))
    (pss_one (ps_if (PW.pt (pw_or (pt_cmpR op_isN (pv 0) pe_non (nomark _)) (pw_or1 (pt_val (pe_cal C_law_is_ahead (hr.mono (by decide)) (by rfl) (pa_cons (pv 7) (pa_cons (pv 0) pa_nil)))))))
    (pss_one (ps_if (pt_not (pt_val (pe_cal C_law_can_be_set (hr.mono (by decide)) (by rfl) (pa_cons (pv 1) (pa_cons (pv 7) (pa_cons (pv 3) (pa_cons (pv 4) pa_nil)))))))
    (pss_one (ps_ret pe_bl))
    pss_nil))
    pss_nil)))
    (pss_one (ps_ret pe_bl)))))

abbrev s_law_overflow : Stmt := topS 42
theorem sc_law_overflow : FnScope ["_law_joints", "_law_letters_here", "_law_weight", "_law_numbers_here", "_law_short", "_law_wide", "_law_head"] ["_law_joints", "_law_letters_here", "_law_weight", "_law_numbers_here"] (defScope s_law_overflow) := ⟨rfl, rfl, rfl, by decide +kernel, rfl, by decide +kernel, by decide +kernel⟩
theorem w_law_overflow {P : Program} {w : World} {K : PySem.W.Frag} {mg : Str → Option Value} {base : Heap} {tN tL : Tok} {sp_overflow : Sp} {f : Addr} {cdv : Value} {A : Around} {outer : List Env} {s : Shared} {H : Hp} {E : XK}
    (hr : Room 5 (A.deeper (envOfC "_law_overflow" (defScope s_law_overflow) s.heap.objs.size f cdv))) (B : Bl mg) (G : Gb mg tN tL)
    (C_overflow : CalK P w K mg base "overflow" 5 ["joints", "letters", "weight", "hyphen", "room", "first"] ["hyphen", "room", "first"] sp_overflow) :
    PSs (cxOf CX0 P w K mg base ["_law_joints", "_law_letters_here", "_law_weight", "_law_numbers_here", "_law_short", "_law_wide", "_law_head"] "_law_overflow" (defScope s_law_overflow) f cdv A outer s H E).nox (defBody s_law_overflow) (t_law_overflow K sp_overflow) := by
  exact (pss_cons (ps_asg (pv 3) (pg_unl rfl (pgs_cons (pg_name (i := 4) sc_law_overflow.nd rfl (Or.inl rfl)) (pgs_cons (pg_name (i := 5) sc_law_overflow.nd rfl (Or.inl rfl)) (pgs_cons (pg_name (i := 6) sc_law_overflow.nd rfl (Or.inl rfl)) pgs_nil)))))
    (pss_one (ps_ret (pe_calK C_overflow (hr.mono (by decide)) (by rfl) (pa_cons (pv 0) (pa_cons (pv 1) (pa_cons (pv 2) pa_nil))) (pk_cons (pv 4) (pk_cons (pv 5) (pk_cons (pv 6) pk_nil)))))))

abbrev s_law : Stmt := topS 43
theorem sc_law : FnScope ["_law_script", "_law_letters_here", "_law_rows", "_law_joints", "_law_weight", "_law_numbers_here", "_law_words", "_law_handed", "_law_told", "_law_short", "_law_least", "_law_most", "_law_heavy", "_law_more", "_law_others", "_law_k", "_law_row_here", "_law_letter"] ["_law_script"] (defScope s_law) := ⟨rfl, rfl, rfl, by decide +kernel, rfl, by decide +kernel, by decide +kernel⟩
theorem w_law {P : Program} {w : World} {K : PySem.W.Frag} {mg : Str → Option Value} {base : Heap} {tN tL : Tok} {C : Addr} {sp_law_cell sp_law_letters sp_law_list sp_law_written sp_law_numbers sp_law_word sp_law_overflow sp_law_short_words sp_law_holds sp_heaviest_syllable sp_law_row sp_init : Sp} {f : Addr} {cdv : Value} {A : Around} {outer : List Env} {s : Shared} {H : Hp} {E : XK}
    (hr : Room 6 (A.deeper (envOfC "law" (defScope s_law) s.heap.objs.size f cdv))) (B : Bl mg) (G : Gb mg tN tL)
    (C_law_cell : Cal P w K mg base "_law_cell" 1 ["_law_script", "_law_k"] sp_law_cell)
    (C_law_letters : Cal P w K mg base "_law_letters" 2 ["_law_cell_here"] sp_law_letters)
    (C_law_list : Cal P w K mg base "_law_list" 3 ["_law_script", "_law_at", "_law_letters_here"] sp_law_list)
    (C_law_written : Cal P w K mg base "_law_written" 1 ["_law_row_here"] sp_law_written)
    (C_law_numbers : Cal P w K mg base "_law_numbers" 2 ["_law_cell_here", "_law_letters_here"] sp_law_numbers)
    (C_law_word : Cal P w K mg base "_law_word" 2 ["_law_cell_here", "_law_letters_here"] sp_law_word)
    (C_law_overflow : Cal P w K mg base "_law_overflow" 6 ["_law_joints", "_law_letters_here", "_law_weight", "_law_numbers_here"] sp_law_overflow)
    (C_law_short_words : Cal P w K mg base "_law_short_words" 1 ["_law_letters_here"] sp_law_short_words)
    (C_law_holds : Cal P w K mg base "_law_holds" 5 ["_law_told", "_law_rows", "_law_letters_here", "_law_weight", "_law_numbers_here", "_law_words"] sp_law_holds)
    (C_heaviest_syllable : Cal P w K mg base "heaviest_syllable" 5 ["joints", "letters", "weight"] sp_heaviest_syllable)
    (C_law_row : Cal P w K mg base "_law_row" 1 ["_law_cell_here", "_law_limits"] sp_law_row)
    (ZJ : CalC P w K mg base C "Joints" 3 ["self", "lines"] sp_init) :
    PSs (cxOf CX0 P w K mg base ["_law_script", "_law_letters_here", "_law_rows", "_law_joints", "_law_weight", "_law_numbers_here", "_law_words", "_law_handed", "_law_told", "_law_short", "_law_least", "_law_most", "_law_heavy", "_law_more", "_law_others", "_law_k", "_law_row_here", "_law_letter"] "law" (defScope s_law) f cdv A outer s H E).nox (defBody s_law) (t_law K C sp_law_cell sp_law_letters sp_law_list sp_law_written sp_law_numbers sp_law_word sp_law_overflow sp_law_short_words sp_law_holds sp_heaviest_syllable sp_law_row sp_init) := by
  exact (pss_cons (ps_set (i := 1) sc_law.nd rfl (Or.inr rfl) (pe_cal C_law_letters (hr.mono (by decide)) (by rfl) (pa_cons (pe_cal C_law_cell (hr.mono (by decide)) (by rfl) (pa_cons (pv 0) (pa_cons pe_int pa_nil))) pa_nil)))
    (pss_cons (ps_set (i := 2) sc_law.nd rfl (Or.inl rfl) (pe_cal C_law_list (hr.mono (by decide)) (by rfl) (pa_cons (pv 0) (pa_cons pe_int (pa_cons (pv 1) pa_nil)))))
    (pss_cons (ps_set (i := 3) sc_law.nd rfl (Or.inl rfl) (pe_calC ZJ (hr.mono (by decide)) (by rfl) (pa_cons (pe_lc (own := [("_law_row_here", 16)]) (g := (gName 16)) (tt := tYes) rfl sc_law.nd (pi_list (pv 2)) (blkOk_by (own := [("_law_row_here", 16)]) (N := ["_law_script", "_law_letters_here", "_law_rows", "_law_joints", "_law_weight", "_law_numbers_here", "_law_words", "_law_handed", "_law_told", "_law_short", "_law_least", "_law_most", "_law_heavy", "_law_more", "_law_others", "_law_k", "_law_row_here", "_law_letter"]) (sc := defScope s_law) (by decide +kernel)) (fun _ _ _ _ _ => (pg_name (i := 16) sc_law.nd rfl (Or.inl rfl))) (fun _ _ _ _ _ => pts_nil) (fun _ _ _ _ _ => (pe_cal C_law_written (hr.mono (by decide)) (by rfl) (pa_cons (pv 16) pa_nil)))) pa_nil)))
    (pss_cons (ps_asg (pe_cal C_law_numbers (hr.mono (by decide)) (by rfl) (pa_cons (pe_cal C_law_cell (hr.mono (by decide)) (by rfl) (pa_cons (pv 0) (pa_cons pe_int pa_nil))) (pa_cons (pv 1) pa_nil))) (pg_tup rfl (pgs_cons (pg_name (i := 4) sc_law.nd rfl (Or.inr rfl)) (pgs_cons (pg_name (i := 5) sc_law.nd rfl (Or.inl rfl)) pgs_nil))))
    (pss_cons (ps_setLc (i := 6) (own := [("_law_k", 15)]) (g := (gName 15)) (tt := tYes) rfl sc_law.nd rfl rfl (sw_true rfl rfl rfl (by decide +kernel)) (pi_range1 (by rfl) B.range (pa_cons pe_int pa_nil)) (blkOk_by (own := [("_law_k", 15)]) (N := ["_law_script", "_law_letters_here", "_law_rows", "_law_joints", "_law_weight", "_law_numbers_here", "_law_words", "_law_handed", "_law_told", "_law_short", "_law_least", "_law_most", "_law_heavy", "_law_more", "_law_others", "_law_k", "_law_row_here", "_law_letter"]) (sc := defScope s_law) (by decide +kernel)) (fun _ _ _ _ _ => (pg_name (i := 15) sc_law.nd rfl (Or.inl rfl))) (fun _ _ _ _ _ => pts_nil) (fun _ _ _ _ _ => (pe_cal C_law_word (hr.mono (by decide)) (by rfl) (pa_cons (pe_op op_add (pe_cal C_law_cell (hr.mono (by decide)) (by rfl) (pa_cons (pv 0) (pa_cons (pe_op op_add pe_int (pv 15)) pa_nil))) (pv 15)) (pa_cons (pv 1) pa_nil)))))
    (pss_cons (ps_set (i := 7) sc_law.nd rfl (Or.inl rfl) (pe_callTy call_copyD (by rfl) B.dict (by decide +kernel) (pa_cons (pv 4) pa_nil)))
    (pss_cons (ps_set (i := 8) sc_law.nd rfl (Or.inl rfl) (pe_cal C_law_overflow (hr.mono (by decide)) (by rfl) (pa_cons (pv 3) (pa_cons (pv 1) (pa_cons (pv 7) (pa_cons (pv 5) pa_nil))))))
    (pss_cons (ps_set (i := 9) sc_law.nd rfl (Or.inl rfl) (pe_cal C_law_short_words (hr.mono (by decide)) (by rfl) (pa_cons (pv 1) pa_nil)))
    (pss_cons (ps_if (pt_not (pt_val (pe_cal C_law_holds (hr.mono (by decide)) (by rfl) (pa_cons (pv 8) (pa_cons (pv 2) (pa_cons (pv 1) (pa_cons (pv 4) (pa_cons (pv 5) (pa_cons (pe_op op_cat (pv 9) (pv 6)) pa_nil)))))))))
    (pss_one (ps_ret pe_bl))
    pss_nil)
    (pss_cons (ps_set (i := 10) sc_law.nd rfl (Or.inl rfl) (pe_callB (call_min2 rfl) (by rfl) B.min (by decide +kernel) (pa_cons (pe_ix ix_list (pv 5) pe_int (fun _ _ => rfl)) (pa_cons (pe_ix ix_list (pv 5) pe_int (fun _ _ => rfl)) pa_nil))))
    (pss_cons (ps_set (i := 11) sc_law.nd rfl (Or.inl rfl) (pe_callB (call_max2 rfl) (by rfl) B.max (by decide +kernel) (pa_cons (pe_ix ix_list (pv 5) pe_int (fun _ _ => rfl)) (pa_cons (pe_ix ix_list (pv 5) pe_int (fun _ _ => rfl)) pa_nil))))
    (pss_cons (ps_set (i := 12) sc_law.nd rfl (Or.inl rfl) (pe_cal C_heaviest_syllable (hr.mono (by decide)) (by rfl) (pa_cons (pv 3) (pa_cons (pv 1) (pa_cons (pe_callTy call_copyD (by rfl) B.dict (by decide +kernel) (pa_cons (pv 4) pa_nil)) pa_nil)))))
    (pss_cons (ps_if (PW.pt (pw_or (pt_cmpR op_isN (pv 12) pe_non (nomark _)) (pw_or1 (pt_cmpR op_gt (pe_ix ix_tup (pv 12) pe_int (fun _ _ => rfl)) (pv 11) (nomark _)))))
    (pss_one (ps_if (pt_cmpR op_isN (pv 8) pe_non (nomark _))
    (pss_one (ps_ret pe_bl))
    pss_nil))
    (pss_one (ps_if (PW.pt (pw_and (pt_cmpR op_le (pe_op op_add (pe_ix ix_tup (pv 12) pe_int (fun _ _ => rfl)) (pe_ix ix_list (pv 5) pe_int (fun _ _ => rfl))) (pv 10) (nomark _)) (pw_and1 (pt_cmpR op_notN (pv 8) pe_non (nomark _)))))
    (pss_one (ps_ret pe_bl))
    pss_nil)))
    (pss_cons (ps_set (i := 13) sc_law.nd rfl (Or.inl rfl) (pe_cal C_law_row (hr.mono (by decide)) (by rfl) (pa_cons (pe_cal C_law_cell (hr.mono (by decide)) (by rfl) (pa_cons (pv 0) (pa_cons pe_int pa_nil))) (pa_cons (pe_lst (pa_cons pe_int (pa_cons pe_int pa_nil))) pa_nil))))
    (pss_cons (ps_set (i := 14) sc_law.nd rfl (Or.inl rfl) (pe_lst (pa_cons (pe_ix ix_list (pv 5) pe_int (fun _ _ => rfl)) (pa_cons (pe_ix ix_list (pv 5) pe_int (fun _ _ => rfl)) (pa_cons (pe_op op_sub (pe_ix ix_list (pv 13) pe_int (fun _ _ => rfl)) pe_int) pa_nil)))))
    (pss_cons (ps_if (PW.pt (pw_or (pt_cmpR op_eq (pe_callB tx_len (by rfl) B.len PySem.boot_len (pa_cons (pv 1) pa_nil)) pe_int (nomark _)) (pw_or1 (pt_cmpR op_gt (pe_callB (cr_min rfl) (by rfl) B.min (by decide +kernel) (pa_cons (pe_lc (own := [("_law_letter", 17)]) (g := (gName 17)) (tt := tYes) rfl sc_law.nd (pi_str (pv 1)) (blkOk_by (own := [("_law_letter", 17)]) (N := ["_law_script", "_law_letters_here", "_law_rows", "_law_joints", "_law_weight", "_law_numbers_here", "_law_words", "_law_handed", "_law_told", "_law_short", "_law_least", "_law_most", "_law_heavy", "_law_more", "_law_others", "_law_k", "_law_row_here", "_law_letter"]) (sc := defScope s_law) (by decide +kernel)) (fun _ _ _ _ _ => (pg_name (i := 17) sc_law.nd rfl (Or.inl rfl))) (fun _ _ _ _ _ => pts_nil) (fun _ _ _ _ _ => (pe_dget (hu_of hr) (pv 4) (pv 17) (fun _ _ => rfl)))) pa_nil)) pe_int (nomark _)))))
    (pss_one (ps_asg (pe_ix ix_list (pv 13) pe_int (fun _ _ => rfl)) (pg_sub (pv 14) pe_int set_list)))
    pss_nil)
    (pss_cons (ps_set (i := 8) sc_law.nd rfl (Or.inl rfl) (pe_cal C_law_overflow (hr.mono (by decide)) (by rfl) (pa_cons (pv 3) (pa_cons (pv 1) (pa_cons (pv 7) (pa_cons (pv 14) pa_nil))))))
    (pss_cons (ps_if (pt_cmpR (op_ne_dictA hr.units0) (pv 7) (pv 4) (nomark _))
    (pss_one (ps_ret pe_bl))
    pss_nil)
    (pss_one (ps_ret (pe_cal C_law_holds (hr.mono (by decide)) (by rfl) (pa_cons (pv 8) (pa_cons (pv 2) (pa_cons (pv 1) (pa_cons (pv 4) (pa_cons (pv 14) (pa_cons (pv 6) pa_nil)))))))))))))))))))))))))))
end K33
set_option linter.all false
set_option maxRecDepth 100000
set_option maxHeartbeats 4000000
/-! joint rows over lists of codes: 46 the dot, 63 the question mark, 45 the hyphen -/
namespace K33
abbrev Word := List Nat
abbrev Row := Word × Word × Bool
def sayB : Word → Word → Bool
  | [], [] => true
  | p :: ps, t :: ts => (p == t || (p == 63 && t != 46)) && sayB ps ts
  | _, _ => false
/-- the left part at the end of what stands ahead -/
def leftB (l w : Word) (k : Nat) : Bool := decide (l.length ≤ (46 :: w.take k).length) && sayB l ((46 :: w.take k).drop ((46 :: w.take k).length - l.length))
def rightB (r w : Word) (k : Nat) : Bool := sayB r ((w.drop k ++ [46]).take r.length)
def fitsB (row : Row) (w : Word) (k : Nat) : Bool := leftB row.1 w k && rightB row.2.1 w k
def jointB (rows : List Row) (w : Word) (k : Nat) : Bool := match rows.find? (fun r => fitsB r w k) with
  | none => false
  | some r => !r.2.2
def Short (rows : List Row) : Prop := ∀ r ∈ rows, r.1.length ≤ 3 ∧ r.2.1.length ≤ 3
/-- the up to three letters on both sides of a gap -/
def lsit (w : Word) (k : Nat) : Word := (w.take k).drop (k - 3)
def rsit (w : Word) (k : Nat) : Word := (w.drop k).take 3
def jt (rows : List Row) (l r : Word) : Bool := jointB rows (l ++ r) l.length
theorem drop_cons_last (a : Nat) (l : Word) (n : Nat) (h : n ≤ l.length) : (a :: l).drop ((a :: l).length - n) = l.drop (l.length - n) := by
  have e : (a :: l).length - n = (l.length - n) + 1 := by rw [List.length_cons]; omega
  rw [e, List.drop_succ_cons]
theorem leftB_loc (l w v : Word) (k j : Nat) (hl : l.length ≤ 3) (hk : k ≤ w.length) (hj : j ≤ v.length)
    (h : (k ≤ 3 ∧ v.take j = w.take k) ∨ (3 < k ∧ v.take j = (w.take k).drop (k - 3))) : leftB l w k = leftB l v j := by
  rcases h with ⟨_, h⟩ | ⟨h3, h⟩
  · unfold leftB
    rw [h]
  · have lk : (w.take k).length = k := by rw [List.length_take]; omega
    have lj : (v.take j).length = 3 := by rw [h, List.length_drop, lk]; omega
    unfold leftB
    rw [drop_cons_last 46 (w.take k) l.length (by omega), drop_cons_last 46 (v.take j) l.length (by omega), List.length_cons, List.length_cons, decide_eq_true (by omega), decide_eq_true (by omega), lk, lj, h, List.drop_drop]
    congr 3
    omega
theorem take_app_le {α : Type} (a b : List α) (n : Nat) (h : n ≤ a.length) : (a ++ b).take n = a.take n := List.take_append_of_le_length h
theorem rightB_loc (r w v : Word) (k j : Nat) (hr : r.length ≤ 3) (h : v.drop j = (w.drop k).take 3) : rightB r w k = rightB r v j := by
  unfold rightB
  rw [h]
  by_cases h3 : (w.drop k).length ≤ 3
  · rw [List.take_of_length_le h3]
  · rw [take_app_le _ _ _ (by omega), take_app_le _ _ _ (by rw [List.length_take]; omega), List.take_take, Nat.min_eq_left hr]
theorem fits_loc (row : Row) (w : Word) (k : Nat) (h1 : row.1.length ≤ 3) (h2 : row.2.1.length ≤ 3) (hk : k ≤ w.length) : fitsB row w k = fitsB row (lsit w k ++ rsit w k) (lsit w k).length := by
  unfold fitsB
  rw [leftB_loc row.1 w (lsit w k ++ rsit w k) k (lsit w k).length h1 hk (by rw [List.length_append]; omega) ?_, rightB_loc row.2.1 w (lsit w k ++ rsit w k) k (lsit w k).length h2 ?_]
  · rw [List.drop_left]; rfl
  · rw [List.take_left]
    by_cases h3 : k ≤ 3
    · refine .inl ⟨h3, ?_⟩
      unfold lsit
      rw [show k - 3 = 0 by omega, List.drop_zero]
    · exact .inr ⟨by omega, rfl⟩
theorem find_congr {α : Type} {p q : α → Bool} : ∀ {l : List α}, (∀ x ∈ l, p x = q x) → l.find? p = l.find? q
  | [], _ => rfl
  | a :: r, h => by
    rw [List.find?_cons, List.find?_cons, h a (List.mem_cons_self ..), find_congr fun x hx => h x (List.mem_cons_of_mem _ hx)]
theorem joint_loc {rows : List Row} (hs : Short rows) (w : Word) (k : Nat) (hk : k ≤ w.length) : jointB rows w k = jt rows (lsit w k) (rsit w k) := by
  unfold jt jointB
  rw [find_congr fun r hr => fits_loc r w k (hs r hr).1 (hs r hr).2 hk]

/-! ### situations -/
def ext (ls : Word) (ts : List Word) : List Word := ts.flatMap fun t => ls.map fun c => t ++ [c]
def lng (ls : Word) : Nat → List Word
  | 0 => [[]]
  | n + 1 => ext ls (lng ls n)
def fnd (ls : Word) : Nat → List Word
  | 0 => []
  | n + 1 => fnd ls n ++ lng ls (n + 1)
def sidesL (ls : Word) : List Word := fnd ls 3
def Over (ls w : Word) : Prop := ∀ c ∈ w, c ∈ ls
theorem mem_ext {ls : Word} {ts : List Word} {w : Word} : w ∈ ext ls ts ↔ ∃ t ∈ ts, ∃ c ∈ ls, w = t ++ [c] := by
  unfold ext
  rw [List.mem_flatMap]
  constructor
  · rintro ⟨t, ht, hw⟩
    obtain ⟨c, hc, rfl⟩ := List.mem_map.mp hw
    exact ⟨t, ht, c, hc, rfl⟩
  · rintro ⟨t, ht, c, hc, rfl⟩
    exact ⟨t, ht, List.mem_map.mpr ⟨c, hc, rfl⟩⟩
theorem mem_lng {ls : Word} : ∀ {n : Nat} {w : Word}, w ∈ lng ls n ↔ w.length = n ∧ Over ls w
  | 0, w => by
    show w ∈ [[]] ↔ _
    rw [List.mem_singleton, List.length_eq_zero_iff]
    constructor
    · rintro rfl
      exact ⟨rfl, fun c hc => nomatch hc⟩
    · exact fun h => h.1
  | n + 1, w => by
    show w ∈ ext ls (lng ls n) ↔ _
    rw [mem_ext]
    constructor
    · rintro ⟨t, ht, c, hc, rfl⟩
      obtain ⟨h1, h2⟩ := mem_lng.mp ht
      refine ⟨by rw [List.length_append, h1]; rfl, fun d hd => ?_⟩
      rcases List.mem_append.mp hd with h | h
      · exact h2 d h
      · rw [List.mem_singleton.mp h]; exact hc
    · rintro ⟨h1, h2⟩
      have hne : w ≠ [] := fun e => by rw [e] at h1; cases h1
      refine ⟨w.dropLast, mem_lng.mpr ⟨by rw [List.length_dropLast, h1]; rfl, fun c hc => h2 c ((List.dropLast_sublist w).subset hc)⟩, w.getLast hne, h2 _ (List.getLast_mem hne), (List.dropLast_concat_getLast hne).symm⟩
theorem mem_sides {ls w : Word} : w ∈ sidesL ls ↔ 1 ≤ w.length ∧ w.length ≤ 3 ∧ Over ls w := by
  show w ∈ (([] ++ lng ls 1) ++ lng ls 2) ++ lng ls 3 ↔ _
  rw [List.mem_append, List.mem_append, List.nil_append, mem_lng, mem_lng, mem_lng]
  constructor
  · rintro ((⟨h, o⟩ | ⟨h, o⟩) | ⟨h, o⟩)
    · exact ⟨by omega, by omega, o⟩
    · exact ⟨by omega, by omega, o⟩
    · exact ⟨by omega, by omega, o⟩
  · rintro ⟨h1, h2, o⟩
    rcases (show w.length = 1 ∨ w.length = 2 ∨ w.length = 3 by omega) with h | h | h
    · exact .inl (.inl ⟨h, o⟩)
    · exact .inl (.inr ⟨h, o⟩)
    · exact .inr ⟨h, o⟩
theorem len_ext (ls : Word) : ∀ ts : List Word, (ext ls ts).length = ts.length * ls.length
  | [] => by simp [ext]
  | t :: r => by
    have ih := len_ext ls r
    unfold ext at ih ⊢
    rw [List.flatMap_cons, List.length_append, List.length_map, ih, List.length_cons, Nat.succ_mul, Nat.add_comm]
theorem len_lng {ls : Word} (h : ls.length ≤ 3) : ∀ n : Nat, (lng ls n).length ≤ 3 ^ n
  | 0 => Nat.le_refl 1
  | n + 1 => by
    show (ext ls (lng ls n)).length ≤ _
    rw [len_ext, Nat.pow_succ]
    exact Nat.mul_le_mul (len_lng h n) h
theorem len_fnd {ls : Word} (h : ls.length ≤ 3) : ∀ n : Nat, n ≤ 3 → (fnd ls n).length ≤ 39
  | 0, _ => Nat.zero_le _
  | 1, _ => by have := len_lng h 1; show ([] ++ lng ls 1).length ≤ 39; rw [List.nil_append]; omega
  | 2, _ => by
    have := len_lng h 1
    have := len_lng h 2
    show (([] ++ lng ls 1) ++ lng ls 2).length ≤ 39
    rw [List.nil_append, List.length_append]; omega
  | 3, _ => by
    have := len_lng h 1
    have := len_lng h 2
    have := len_lng h 3
    show ((([] ++ lng ls 1) ++ lng ls 2) ++ lng ls 3).length ≤ 39
    rw [List.nil_append, List.length_append, List.length_append]; omega
  | n + 4, h => absurd h (by omega)
theorem lng_word {ls : Word} {n : Nat} {w : Word} (h : w ∈ lng ls n) : w.length = n := (mem_lng.mp h).1
theorem lsit_over {ls w : Word} (h : Over ls w) (k : Nat) : Over ls (lsit w k) := fun c hc => h c (List.mem_of_mem_take (List.mem_of_mem_drop hc))
theorem rsit_over {ls w : Word} (h : Over ls w) (k : Nat) : Over ls (rsit w k) := fun c hc => h c (List.mem_of_mem_drop (List.mem_of_mem_take hc))
theorem lsit_len {w : Word} {k : Nat} (h1 : 1 ≤ k) (h2 : k ≤ w.length) : 1 ≤ (lsit w k).length ∧ (lsit w k).length ≤ 3 := by
  unfold lsit
  rw [List.length_drop, List.length_take]
  omega
theorem rsit_len {w : Word} {k : Nat} (h2 : k < w.length) : 1 ≤ (rsit w k).length ∧ (rsit w k).length ≤ 3 := by
  unfold rsit
  rw [List.length_take, List.length_drop]
  omega
theorem lsit_mem {ls w : Word} {k : Nat} (h : Over ls w) (h1 : 1 ≤ k) (h2 : k ≤ w.length) : lsit w k ∈ sidesL ls := mem_sides.mpr ⟨(lsit_len h1 h2).1, (lsit_len h1 h2).2, lsit_over h k⟩
theorem rsit_mem {ls w : Word} {k : Nat} (h : Over ls w) (h2 : k < w.length) : rsit w k ∈ sidesL ls := mem_sides.mpr ⟨(rsit_len h2).1, (rsit_len h2).2, rsit_over h k⟩
end K33
set_option linter.all false
set_option maxRecDepth 100000
set_option maxHeartbeats 4000000
/-! lines: the program's machine, the exact one, the law's table of good places -/
namespace K33
abbrev NEV : Int := 1000000
/-- the program's step over a letter of width x, j: a joint stands ahead of it -/
def pstep (h R F : Int) (j : Bool) (x : Int) (s : Int × Int) : Int × Int :=
  let l := if j = true ∧ (s.1 + h ≤ F ∨ s.2 + h ≤ R) then 0 else s.2
  (if s.1 + x > F then NEV else s.1 + x, if l + x > R then NEV else l + x)
def jAt (rows : List Row) (w : Word) (k : Nat) : Bool := decide (0 < k) && jointB rows w k
def prun (rows : List Row) (wt : Nat → Int) (h R F : Int) (w : Word) : Nat → Int × Int
  | 0 => (0, NEV)
  | n + 1 => pstep h R F (jAt rows w n) (wt (w.getD n 0)) (prun rows wt h R F w n)
def okW (rows : List Row) (wt : Nat → Int) (h R F : Int) (w : Word) : Prop := prun rows wt h R F w w.length ≠ (NEV, NEV)
/-- all lines kept: the first line's width, the widths of the later last lines -/
def estep (h R F : Int) (j : Bool) (x : Int) (s : Int × List Int) : Int × List Int :=
  (s.1 + x, (if j = true ∧ (s.1 + h ≤ F ∨ ∃ c ∈ s.2, c + h ≤ R) then 0 :: s.2 else s.2).map (· + x))
def erun (rows : List Row) (wt : Nat → Int) (h R F : Int) (w : Word) : Nat → Int × List Int
  | 0 => (0, [])
  | n + 1 => estep h R F (jAt rows w n) (wt (w.getD n 0)) (erun rows wt h R F w n)
structure Rel (F R : Int) (p : Int × Int) (e : Int × List Int) : Prop where
  hd : p.1 = e.1 ∨ (F < e.1 ∧ p.1 = NEV)
  lo : ∀ c ∈ e.2, c ≤ R → p.2 ≤ c
  at_ : p.2 = NEV ∨ (p.2 ∈ e.2 ∧ p.2 ≤ R)
  nn : ∀ c ∈ e.2, 0 ≤ c
/-- numbers as they come -/
structure Nums (wt : Nat → Int) (h R F : Int) (ls : Word) : Prop where
  w1 : ∀ c ∈ ls, 1 ≤ wt c ∧ wt c ≤ 30
  h0 : 0 ≤ h
  h1 : h ≤ 30
  r1 : R ≤ 30
  f1 : F ≤ 30
theorem rel_step {h R F x : Int} {j : Bool} {p : Int × Int} {e : Int × List Int} (hh : 0 ≤ h) (hR : R ≤ 30) (hF : F ≤ 30) (hx : 1 ≤ x) (r : Rel F R p e) :
    Rel F R (pstep h R F j x p) (estep h R F j x e) ∧ ((pstep h R F j x p).1 = NEV ↔ F < (estep h R F j x e).1) := by
  obtain ⟨p1, p2⟩ := p
  obtain ⟨e1, cs⟩ := e
  obtain ⟨hd, lo, at_, nn⟩ := r
  simp only at hd lo at_ nn
  have hN : NEV = 1000000 := rfl
  have tests : (p1 + h ≤ F ∨ p2 + h ≤ R) ↔ (e1 + h ≤ F ∨ ∃ c ∈ cs, c + h ≤ R) := by
    constructor
    · rintro (q | q)
      · rcases hd with z | ⟨z, z2⟩
        · exact .inl (by omega)
        · exact absurd q (by omega)
      · rcases at_ with z | ⟨z, z2⟩
        · exact absurd q (by omega)
        · exact .inr ⟨p2, z, q⟩
    · rintro (q | ⟨c, hc, q⟩)
      · rcases hd with z | ⟨z, z2⟩
        · exact .inl (by omega)
        · exact absurd q (by omega)
      · have := lo c hc (by omega)
        exact .inr (by omega)
  -- the lists ahead of the letter
  have mid : ∀ (l : Int) (ds : List Int), (∀ c ∈ ds, c ≤ R → l ≤ c) → (l = NEV ∨ l ∈ ds) → (∀ c ∈ ds, 0 ≤ c) →
      (∀ c ∈ ds.map (· + x), c ≤ R → (if l + x > R then NEV else l + x) ≤ c) ∧ ((if l + x > R then NEV else l + x) = NEV ∨ ((if l + x > R then NEV else l + x) ∈ ds.map (· + x) ∧ (if l + x > R then NEV else l + x) ≤ R)) ∧ ∀ c ∈ ds.map (· + x), 0 ≤ c := by
    intro l ds h1 h2 h3
    refine ⟨fun c hc hcR => ?_, ?_, fun c hc => ?_⟩
    · obtain ⟨d, hd', rfl⟩ := List.mem_map.mp hc
      have := h1 d hd' (by omega)
      rw [if_neg (by omega)]
      omega
    · by_cases q : l + x > R
      · rw [if_pos q]; exact .inl rfl
      · rw [if_neg q]
        rcases h2 with z | z
        · exact absurd q (by omega)
        · exact .inr ⟨List.mem_map.mpr ⟨l, z, rfl⟩, by omega⟩
    · obtain ⟨d, hd', rfl⟩ := List.mem_map.mp hc
      have := h3 d hd'
      omega
  have heads : ((if p1 + x > F then NEV else p1 + x) = e1 + x ∨ (F < e1 + x ∧ (if p1 + x > F then NEV else p1 + x) = NEV)) ∧ ((if p1 + x > F then NEV else p1 + x) = NEV ↔ F < e1 + x) := by
    by_cases q : p1 + x > F
    · rw [if_pos q]
      have : F < e1 + x := by
        rcases hd with z | ⟨z, z2⟩ <;> omega
      exact ⟨.inr ⟨this, rfl⟩, fun _ => this, fun _ => rfl⟩
    · rw [if_neg q]
      rcases hd with z | ⟨z, z2⟩
      · exact ⟨.inl (by omega), fun _ => by omega, fun _ => by omega⟩
      · exact absurd q (by omega)
  unfold pstep estep
  simp only
  by_cases t : j = true ∧ (p1 + h ≤ F ∨ p2 + h ≤ R)
  · have t2 : j = true ∧ (e1 + h ≤ F ∨ ∃ c ∈ cs, c + h ≤ R) := ⟨t.1, tests.mp t.2⟩
    rw [if_pos t, if_pos t2]
    obtain ⟨m1, m2, m3⟩ := mid 0 (0 :: cs) (fun c hc _ => by
      rcases List.mem_cons.mp hc with z | z
      · omega
      · exact nn c z) (.inr (List.mem_cons_self ..)) (fun c hc => by
      rcases List.mem_cons.mp hc with z | z
      · omega
      · exact nn c z)
    exact ⟨⟨heads.1, m1, m2, m3⟩, heads.2⟩
  · have t2 : ¬ (j = true ∧ (e1 + h ≤ F ∨ ∃ c ∈ cs, c + h ≤ R)) := fun q => t ⟨q.1, tests.mpr q.2⟩
    rw [if_neg t, if_neg t2]
    obtain ⟨m1, m2, m3⟩ := mid p2 cs lo (at_.imp id (·.1)) nn
    exact ⟨⟨heads.1, m1, m2, m3⟩, heads.2⟩
theorem getD_mem {w : Word} {n : Nat} (h : n < w.length) : w.getD n 0 ∈ w := by
  rw [List.getD_eq_getElem?_getD, List.getElem?_eq_getElem h]
  exact List.getElem_mem h
theorem rel_run {rows : List Row} {wt : Nat → Int} {h R F : Int} {ls w : Word} (N : Nums wt h R F ls) (ho : Over ls w) : ∀ n : Nat, n ≤ w.length → Rel F R (prun rows wt h R F w n) (erun rows wt h R F w n)
  | 0, _ => ⟨.inl rfl, fun c hc => (nomatch hc), .inl rfl, fun c hc => (nomatch hc)⟩
  | n + 1, hn => (rel_step N.h0 N.r1 N.f1 (N.w1 _ (ho _ (getD_mem (by omega)))).1 (rel_run N ho n (by omega))).1
/-- set: the first line fits, or some later last one -/
def okE (R F : Int) (e : Int × List Int) : Prop := e.1 ≤ F ∨ ∃ c ∈ e.2, c ≤ R
theorem okW_iff {rows : List Row} {wt : Nat → Int} {h R F : Int} {ls w : Word} (N : Nums wt h R F ls) (ho : Over ls w) (hw : w ≠ []) : okW rows wt h R F w ↔ okE R F (erun rows wt h R F w w.length) := by
  obtain ⟨n, hn⟩ : ∃ n, w.length = n + 1 := ⟨w.length - 1, by have := List.length_pos_iff.mpr hw; omega⟩
  unfold okW
  rw [hn]
  obtain ⟨⟨hd, lo, at_, nn⟩, hk⟩ := rel_step (j := jAt rows w n) N.h0 N.r1 N.f1 (N.w1 _ (ho _ (getD_mem (show n < w.length by omega)))).1 (rel_run (rows := rows) N ho n (by omega))
  show pstep h R F (jAt rows w n) (wt (w.getD n 0)) (prun rows wt h R F w n) ≠ (NEV, NEV) ↔ okE R F (estep h R F (jAt rows w n) (wt (w.getD n 0)) (erun rows wt h R F w n))
  generalize pstep h R F (jAt rows w n) (wt (w.getD n 0)) (prun rows wt h R F w n) = p at hd lo at_ hk ⊢
  generalize estep h R F (jAt rows w n) (wt (w.getD n 0)) (erun rows wt h R F w n) = e at hd lo at_ hk nn ⊢
  obtain ⟨p1, p2⟩ := p
  have hN : NEV = 1000000 := rfl
  have hr := N.r1
  unfold okE
  simp only at hd lo at_ hk ⊢
  constructor
  · intro q
    by_cases z : p1 = NEV
    · have z2 : p2 ≠ NEV := fun z2 => q (by rw [z, z2])
      rcases at_ with y | ⟨y, y2⟩
      · exact absurd y z2
      · exact .inr ⟨p2, y, y2⟩
    · refine .inl ?_
      have := mt hk.mpr z
      omega
  · rintro (q | ⟨c, hc, q⟩) z
    · have z1 : p1 = NEV := congrArg Prod.fst z
      have := hk.mp z1
      omega
    · have z2 : p2 = NEV := congrArg Prod.snd z
      have := lo c hc q
      omega

/-! ### the law's table -/
def okLine (R F : Int) (ws : List Int) (gs : List Bool) (e : Nat) (hy : Int) : Bool := (List.range e).any fun s => gs.getD s false && decide (hy + ((ws.take e).drop s).sum ≤ if s = 0 then F else R)
def gN (h R F : Int) (ws : List Int) : Nat → List Bool
  | 0 => [true]
  | e + 1 => gN h R F ws e ++ [okLine R F ws (gN h R F ws e) (e + 1) h]
/-- the widths of the syllables: all but the last, and the last -/
def wstep (j : Bool) (x : Int) (s : List Int × Int) : List Int × Int := if j = true then (s.1 ++ [s.2], x) else (s.1, s.2 + x)
def wrun (rows : List Row) (wt : Nat → Int) (w : Word) : Nat → List Int × Int
  | 0 => ([], 0)
  | n + 1 => wstep (jAt rows w n) (wt (w.getD n 0)) (wrun rows wt w n)
def lawOk (h R F : Int) (s : List Int × Int) : Bool := okLine R F (s.1 ++ [s.2]) (gN h R F (s.1 ++ [s.2]) s.1.length) (s.1.length + 1) 0
theorem gN_len (h R F : Int) (ws : List Int) : ∀ e, (gN h R F ws e).length = e + 1
  | 0 => rfl
  | e + 1 => by
    show (gN h R F ws e ++ [_]).length = _
    rw [List.length_append, gN_len h R F ws e]
    rfl
theorem okLine_app (R F : Int) (ws vs : List Int) (gs : List Bool) (e : Nat) (hy : Int) (he : e ≤ ws.length) : okLine R F (ws ++ vs) gs e hy = okLine R F ws gs e hy := by
  unfold okLine
  rw [List.take_append_of_le_length he]
theorem gN_app (h R F : Int) (ws vs : List Int) : ∀ e, e ≤ ws.length → gN h R F (ws ++ vs) e = gN h R F ws e
  | 0, _ => rfl
  | e + 1, he => by
    show gN h R F (ws ++ vs) e ++ [_] = gN h R F ws e ++ [_]
    rw [gN_app h R F ws vs e (by omega), okLine_app R F ws vs _ _ _ he]
/-- the later last lines are those that begin at a good place -/
structure RelW (h R F : Int) (s : List Int × Int) (e : Int × List Int) : Prop where
  hd : e.1 = (s.1 ++ [s.2]).sum
  cs : ∀ c, c ∈ e.2 ↔ ∃ k, 1 ≤ k ∧ k ≤ s.1.length ∧ (gN h R F s.1 s.1.length).getD k false = true ∧ c = ((s.1 ++ [s.2]).drop k).sum
theorem any_split (R F : Int) (ws : List Int) (gs : List Bool) (n : Nat) (hy : Int) (h0 : gs.getD 0 false = true) (hn : ws.length = n + 1) :
    okLine R F ws gs (n + 1) hy = true ↔ (hy + ws.sum ≤ F ∨ ∃ k, 1 ≤ k ∧ k ≤ n ∧ gs.getD k false = true ∧ hy + (ws.drop k).sum ≤ R) := by
  unfold okLine
  rw [← hn, List.take_length, List.any_eq_true]
  constructor
  · rintro ⟨k, hk, q⟩
    rw [Bool.and_eq_true, decide_eq_true_eq] at q
    have hk2 := List.mem_range.mp hk
    by_cases z : k = 0
    · subst z
      rw [if_pos rfl, List.drop_zero] at q
      exact .inl q.2
    · rw [if_neg z] at q
      exact .inr ⟨k, by omega, by omega, q.1, q.2⟩
  · rintro (q | ⟨k, k1, k2, k3, q⟩)
    · refine ⟨0, List.mem_range.mpr (by omega), ?_⟩
      rw [h0, if_pos rfl, List.drop_zero, decide_eq_true q]
      rfl
    · refine ⟨k, List.mem_range.mpr (by omega), ?_⟩
      rw [k3, if_neg (by omega), decide_eq_true q]
      rfl
theorem gN_zero (h R F : Int) (ws : List Int) : ∀ e, (gN h R F ws e).getD 0 false = true
  | 0 => rfl
  | e + 1 => by
    show (gN h R F ws e ++ [_]).getD 0 false = true
    have := gN_len h R F ws e
    rw [List.getD_eq_getElem?_getD, List.getElem?_append_left (by omega), ← List.getD_eq_getElem?_getD]
    exact gN_zero h R F ws e
theorem getD_app_left (a b : List Bool) (k : Nat) (h : k < a.length) : (a ++ b).getD k false = a.getD k false := by
  rw [List.getD_eq_getElem?_getD, List.getElem?_append_left h, ← List.getD_eq_getElem?_getD]
theorem sum_snoc_drop (l : List Int) (a : Int) (k : Nat) (h : k ≤ l.length) : ((l ++ [a]).drop k).sum = (l.drop k).sum + a := by
  rw [List.drop_append_of_le_length h, List.sum_append]
  simp
theorem relW_step {h R F x : Int} {j : Bool} {s : List Int × Int} {e : Int × List Int} (r : RelW h R F s e) : RelW h R F (wstep j x s) (estep h R F j x e) := by
  obtain ⟨ini, la⟩ := s
  obtain ⟨e1, es⟩ := e
  obtain ⟨hd, cs⟩ := r
  simp only at hd cs
  have tot : (ini ++ [la]).sum = ini.sum + la := by simp [List.sum_append]
  cases j with
  | false =>
    have e1' : wstep false x (ini, la) = (ini, la + x) := rfl
    have e2' : estep h R F false x (e1, es) = (e1 + x, es.map (· + x)) := by
      unfold estep
      simp
    rw [e1', e2']
    refine ⟨by simp only [hd, List.sum_append]; simp; omega, fun c => ?_⟩
    simp only [List.mem_map]
    constructor
    · rintro ⟨d, hd', rfl⟩
      obtain ⟨k, k1, k2, k3, rfl⟩ := (cs d).mp hd'
      exact ⟨k, k1, k2, k3, by rw [sum_snoc_drop _ _ _ k2, sum_snoc_drop _ _ _ k2]; omega⟩
    · rintro ⟨k, k1, k2, k3, rfl⟩
      exact ⟨_, (cs _).mpr ⟨k, k1, k2, k3, rfl⟩, by rw [sum_snoc_drop _ _ _ k2, sum_snoc_drop _ _ _ k2]; omega⟩
  | true =>
    have e1' : wstep true x (ini, la) = (ini ++ [la], x) := rfl
    have nl : (ini ++ [la]).length = ini.length + 1 := by simp
    -- the new place
    have gap : gN h R F (ini ++ [la]) ini.length = gN h R F ini ini.length := gN_app h R F ini [la] ini.length (Nat.le_refl _)
    have new : okLine R F (ini ++ [la]) (gN h R F ini ini.length) (ini.length + 1) h = true ↔ (e1 + h ≤ F ∨ ∃ c ∈ es, c + h ≤ R) := by
      rw [any_split R F (ini ++ [la]) _ ini.length h (gN_zero h R F ini ini.length) nl, hd]
      constructor
      · rintro (q | ⟨k, k1, k2, k3, q⟩)
        · exact .inl (by omega)
        · exact .inr ⟨_, (cs _).mpr ⟨k, k1, k2, k3, rfl⟩, by omega⟩
      · rintro (q | ⟨c, hc, q⟩)
        · exact .inl (by omega)
        · obtain ⟨k, k1, k2, k3, rfl⟩ := (cs c).mp hc
          exact .inr ⟨k, k1, k2, k3, by omega⟩
    have gs : gN h R F (ini ++ [la]) (ini ++ [la]).length = gN h R F ini ini.length ++ [okLine R F (ini ++ [la]) (gN h R F ini ini.length) (ini.length + 1) h] := by
      rw [nl]
      show gN h R F (ini ++ [la]) ini.length ++ [okLine R F (ini ++ [la]) (gN h R F (ini ++ [la]) ini.length) (ini.length + 1) h] = _
      rw [gap]
    have gl := gN_len h R F ini ini.length
    have gnew : (gN h R F (ini ++ [la]) (ini ++ [la]).length).getD (ini.length + 1) false = okLine R F (ini ++ [la]) (gN h R F ini ini.length) (ini.length + 1) h := by
      rw [gs, List.getD_eq_getElem?_getD, List.getElem?_append_right (by omega), gl, Nat.sub_self]
      rfl
    have gold : ∀ k, k ≤ ini.length → (gN h R F (ini ++ [la]) (ini ++ [la]).length).getD k false = (gN h R F ini ini.length).getD k false := fun k hk => by
      rw [gs, getD_app_left _ _ _ (by omega)]
    rw [e1']
    refine ⟨?_, fun c => ?_⟩
    · show e1 + x = _
      rw [hd, List.sum_append, List.sum_append]
      simp
    · show c ∈ (if true = true ∧ (e1 + h ≤ F ∨ ∃ c ∈ es, c + h ≤ R) then 0 :: es else es).map (· + x) ↔ ∃ k, 1 ≤ k ∧ k ≤ (ini ++ [la]).length ∧ (gN h R F (ini ++ [la]) (ini ++ [la]).length).getD k false = true ∧ c = (((ini ++ [la]) ++ [x]).drop k).sum
      have olds : (∃ d ∈ es, d + x = c) ↔ ∃ k, 1 ≤ k ∧ k ≤ ini.length ∧ (gN h R F ini ini.length).getD k false = true ∧ c = (((ini ++ [la]) ++ [x]).drop k).sum := by
        constructor
        · rintro ⟨d, hd', rfl⟩
          obtain ⟨k, k1, k2, k3, rfl⟩ := (cs d).mp hd'
          exact ⟨k, k1, k2, k3, by rw [sum_snoc_drop (ini ++ [la]) x k (by omega)]⟩
        · rintro ⟨k, k1, k2, k3, rfl⟩
          exact ⟨_, (cs _).mpr ⟨k, k1, k2, k3, rfl⟩, by rw [sum_snoc_drop (ini ++ [la]) x k (by omega)]⟩
      have lastS : (((ini ++ [la]) ++ [x]).drop (ini.length + 1)).sum = x := by
        rw [sum_snoc_drop (ini ++ [la]) x _ (by omega), List.drop_of_length_le (by omega)]
        simp
      by_cases t : (e1 + h ≤ F ∨ ∃ c ∈ es, c + h ≤ R)
      · rw [if_pos ⟨rfl, t⟩, List.map_cons, List.mem_cons, List.mem_map, olds]
        constructor
        · rintro (q | ⟨k, k1, k2, k3, q⟩)
          · exact ⟨ini.length + 1, by omega, by omega, by rw [gnew]; exact new.mpr t, by rw [lastS]; omega⟩
          · exact ⟨k, k1, by omega, by rw [gold k k2]; exact k3, q⟩
        · rintro ⟨k, k1, k2, k3, q⟩
          by_cases z : k = ini.length + 1
          · subst z
            rw [lastS] at q
            exact .inl (by omega)
          · exact .inr ⟨k, k1, by omega, by rw [← gold k (by omega)]; exact k3, q⟩
      · rw [if_neg (fun z => t z.2), List.mem_map, olds]
        constructor
        · rintro ⟨k, k1, k2, k3, q⟩
          exact ⟨k, k1, by omega, by rw [gold k k2]; exact k3, q⟩
        · rintro ⟨k, k1, k2, k3, q⟩
          by_cases z : k = ini.length + 1
          · subst z
            rw [gnew] at k3
            exact absurd (new.mp k3) t
          · exact ⟨k, k1, by omega, by rw [← gold k (by omega)]; exact k3, q⟩
theorem relW_run (rows : List Row) (wt : Nat → Int) (h R F : Int) (w : Word) : ∀ n, RelW h R F (wrun rows wt w n) (erun rows wt h R F w n)
  | 0 => ⟨rfl, fun c => ⟨fun q => (nomatch q), fun ⟨k, k1, k2, _⟩ => absurd k1 (by have : k ≤ 0 := k2; omega)⟩⟩
  | n + 1 => relW_step (relW_run rows wt h R F w n)
theorem lawOk_iff {h R F : Int} {s : List Int × Int} {e : Int × List Int} (r : RelW h R F s e) : lawOk h R F s = true ↔ okE R F e := by
  obtain ⟨ini, la⟩ := s
  obtain ⟨hd, cs⟩ := r
  have nl : (ini ++ [la]).length = ini.length + 1 := by simp
  have gap : gN h R F (ini ++ [la]) ini.length = gN h R F ini ini.length := gN_app h R F ini [la] ini.length (Nat.le_refl _)
  unfold lawOk okE
  simp only at hd cs ⊢
  rw [gap, any_split R F (ini ++ [la]) _ ini.length 0 (gN_zero h R F ini ini.length) nl, ← hd]
  constructor
  · rintro (q | ⟨k, k1, k2, k3, q⟩)
    · exact .inl (by omega)
    · exact .inr ⟨_, (cs _).mpr ⟨k, k1, k2, k3, rfl⟩, by omega⟩
  · rintro (q | ⟨c, hc, q⟩)
    · exact .inl (by omega)
    · obtain ⟨k, k1, k2, k3, rfl⟩ := (cs c).mp hc
      exact .inr ⟨k, k1, k2, k3, by omega⟩
/-- the law's reading of a word -/
def lawW (rows : List Row) (wt : Nat → Int) (h R F : Int) (w : Word) : Bool := lawOk h R F (wrun rows wt w w.length)
theorem law_iff {rows : List Row} {wt : Nat → Int} {h R F : Int} {ls w : Word} (N : Nums wt h R F ls) (ho : Over ls w) (hw : w ≠ []) : lawW rows wt h R F w = true ↔ okW rows wt h R F w :=
  (lawOk_iff (relW_run rows wt h R F w w.length)).trans (okW_iff N ho hw).symm
end K33
set_option linter.all false
set_option maxRecDepth 100000
set_option maxHeartbeats 4000000
/-! the search for the first word that cannot be set -/
namespace K33
/-! ### the order -/
def ahead (u v : Word) : Prop := u.length < v.length ∨ (u.length = v.length ∧ u < v)
theorem lt_app {a b : Word} (h : a < b) (hl : a.length = b.length) (c d : Word) : a ++ c < b ++ d := by
  induction h with
  | nil => cases hl
  | rel h => exact List.Lex.rel h
  | cons h ih => exact List.Lex.cons (ih (by simpa using hl))
theorem lt_pre (a : Word) {c d : Word} (h : c < d) : a ++ c < a ++ d := by
  induction a with
  | nil => exact h
  | cons x r ih => exact List.Lex.cons ih
theorem lt_irr (a : Word) : ¬ a < a := by
  induction a with
  | nil => intro h; cases h
  | cons x r ih =>
    intro h
    cases h with
    | rel h => exact Nat.lt_irrefl _ h
    | cons h => exact ih h
theorem lt_tr {a b c : Word} (h : a < b) (h2 : b < c) : a < c := by
  induction h generalizing c with
  | nil => cases h2 <;> exact List.Lex.nil
  | rel h =>
    cases h2 with
    | rel h3 => exact List.Lex.rel (Nat.lt_trans h h3)
    | cons h3 => exact List.Lex.rel h
  | cons h ih =>
    cases h2 with
    | rel h3 => exact List.Lex.rel h3
    | cons h3 => exact List.Lex.cons (ih h3)
theorem ahead_irr (a : Word) : ¬ ahead a a := by
  rintro (h | ⟨_, h⟩)
  · exact Nat.lt_irrefl _ h
  · exact lt_irr a h
theorem ahead_tr {a b c : Word} (h : ahead a b) (h2 : ahead b c) : ahead a c := by
  rcases h with h | ⟨h, k⟩
  · rcases h2 with g | ⟨g, _⟩
    · exact .inl (by omega)
    · exact .inl (by omega)
  · rcases h2 with g | ⟨g, m⟩
    · exact .inl (by omega)
    · exact .inr ⟨by omega, lt_tr k m⟩
abbrev Asc (l : List Word) : Prop := l.Pairwise (· < ·)
theorem asc_ext {ls : Word} (hl : ls.Pairwise (· < ·)) {n : Nat} : ∀ {ts : List Word}, Asc ts → (∀ t ∈ ts, t.length = n) → Asc (ext ls ts)
  | [], _, _ => List.Pairwise.nil
  | t :: r, h, hn => by
    have h' := List.pairwise_cons.mp h
    unfold ext
    rw [List.flatMap_cons]
    refine List.pairwise_append.mpr ⟨?_, asc_ext hl h'.2 fun x hx => hn x (List.mem_cons_of_mem _ hx), ?_⟩
    · refine List.pairwise_map.mpr (hl.imp fun {a b} hab => lt_pre t (List.Lex.rel hab))
    · intro a ha b hb
      obtain ⟨c, hc, rfl⟩ := List.mem_map.mp ha
      obtain ⟨t2, ht2, d, hd, rfl⟩ := mem_ext.mp (show b ∈ ext ls r from hb)
      exact lt_app (h'.1 t2 ht2) ((hn t (List.mem_cons_self ..)).trans (hn t2 (List.mem_cons_of_mem _ ht2)).symm) _ _
theorem asc_lng {ls : Word} (hl : ls.Pairwise (· < ·)) : ∀ n, Asc (lng ls n)
  | 0 => List.pairwise_singleton _ _
  | n + 1 => asc_ext hl (asc_lng hl n) fun t ht => lng_word ht
theorem first_of {P : Word → Prop} : ∀ {l : List Word}, Asc l → ∀ u ∈ l, P u → ∃ v ∈ l, P v ∧ (v = u ∨ v < u) ∧ ∀ z ∈ l, z < v → ¬ P z
  | [], _, u, hu, _ => nomatch hu
  | a :: r, h, u, hu, hP => by
    have h' := List.pairwise_cons.mp h
    by_cases pa : P a
    · refine ⟨a, List.mem_cons_self .., pa, ?_, fun z hz zl => ?_⟩
      · rcases List.mem_cons.mp hu with e | e
        · exact .inl e.symm
        · exact .inr (h'.1 u e)
      · rcases List.mem_cons.mp hz with e | e
        · rw [e] at zl; exact absurd zl (lt_irr a)
        · exact absurd (lt_tr zl (h'.1 z e)) (lt_irr z)
    · rcases List.mem_cons.mp hu with e | e
      · exact absurd (e ▸ hP) pa
      · obtain ⟨v, hv, pv, q, m⟩ := first_of h'.2 u e hP
        refine ⟨v, List.mem_cons_of_mem _ hv, pv, q, fun z hz zl => ?_⟩
        rcases List.mem_cons.mp hz with e2 | e2
        · rw [e2]; exact pa
        · exact m z e2 zl
/-! ### bad words -/
section
variable {ls : Word} {ok : Word → Prop}
def Bad (ls : Word) (ok : Word → Prop) (v : Word) : Prop := v ≠ [] ∧ Over ls v ∧ ¬ ok v
def MinBad (ls : Word) (ok : Word → Prop) (v : Word) : Prop := Bad ls ok v ∧ ∀ u, Bad ls ok u → ¬ ahead u v
theorem min_of (hl : ls.Pairwise (· < ·)) : ∀ (n : Nat) (u : Word), u.length = n → Bad ls ok u → ∃ v, MinBad ls ok v ∧ (v = u ∨ ahead v u) := by
  intro n
  induction n using Nat.strongRecOn with
  | _ n ih =>
    intro u hn hb
    by_cases sh : ∃ u', u'.length < n ∧ Bad ls ok u'
    · obtain ⟨u', h1, h2⟩ := sh
      obtain ⟨v, m, q⟩ := ih _ h1 u' rfl h2
      refine ⟨v, m, .inr ?_⟩
      rcases q with e | q
      · rw [e]; exact .inl (by omega)
      · exact ahead_tr q (.inl (by omega))
    · obtain ⟨v, hv, bv, q, m⟩ := first_of (P := Bad ls ok) (asc_lng hl n) u (mem_lng.mpr ⟨hn, hb.2.1⟩) hb
      have lv := lng_word hv
      refine ⟨v, ⟨bv, fun z bz za => ?_⟩, q.imp id fun z => .inr ⟨by omega, z⟩⟩
      rcases za with za | ⟨za, zb⟩
      · exact sh ⟨z, by omega, bz⟩
      · exact m z (mem_lng.mpr ⟨by omega, bz.2.1⟩) zb bz
end
/-! ### the program's run over longer words -/
section
variable {rows : List Row} {wt : Nat → Int} {h R F : Int} {ls : Word}
def tail5 (w : Word) : Word := w.drop (w.length - 5)
def pst (rows : List Row) (wt : Nat → Int) (h R F : Int) (w : Word) : Int × Int := prun rows wt h R F w (w.length - 2)
theorem lsit_app (w y : Word) (k : Nat) (hk : k ≤ w.length) : lsit (w ++ y) k = lsit w k := by
  unfold lsit
  rw [List.take_append_of_le_length hk]
theorem rsit_app (w y : Word) (k : Nat) (hk : k + 3 ≤ w.length) : rsit (w ++ y) k = rsit w k := by
  unfold rsit
  rw [List.drop_append_of_le_length (by omega), List.take_append_of_le_length (by rw [List.length_drop]; omega)]
theorem getD_app (w y : Word) (k : Nat) (hk : k < w.length) : (w ++ y).getD k 0 = w.getD k 0 := by
  rw [List.getD_eq_getElem?_getD, List.getElem?_append_left hk, ← List.getD_eq_getElem?_getD]
theorem jAt_app (hs : Short rows) (w y : Word) (k : Nat) (hk : k + 3 ≤ w.length) : jAt rows (w ++ y) k = jAt rows w k := by
  unfold jAt
  rw [joint_loc hs _ k (by rw [List.length_append]; omega), joint_loc hs w k (by omega), lsit_app w y k (by omega), rsit_app w y k hk]
theorem prun_app (hs : Short rows) (w y : Word) : ∀ n, n + 2 ≤ w.length ∨ n = 0 → prun rows wt h R F (w ++ y) n = prun rows wt h R F w n
  | 0, _ => rfl
  | n + 1, hn => by
    have hn' : n + 3 ≤ w.length := by omega
    show pstep h R F (jAt rows (w ++ y) n) (wt ((w ++ y).getD n 0)) _ = _
    rw [prun_app hs w y n (by omega), jAt_app hs w y n hn', getD_app w y n (by omega)]
    rfl
/-- the state ahead of the last two letters, a letter later -/
theorem pst_snoc (hs : Short rows) (w : Word) (c : Nat) : pst rows wt h R F (w ++ [c]) = if w.length < 2 then pst rows wt h R F w else pstep h R F (jAt rows (w ++ [c]) (w.length - 2)) (wt ((w ++ [c]).getD (w.length - 2) 0)) (pst rows wt h R F w) := by
  unfold pst
  by_cases q : w.length < 2
  · rw [if_pos q, show (w ++ [c]).length - 2 = 0 by simp; omega, show w.length - 2 = 0 by omega]
    rfl
  · rw [if_neg q, show (w ++ [c]).length - 2 = (w.length - 2) + 1 by simp; omega]
    show pstep h R F _ _ (prun rows wt h R F (w ++ [c]) (w.length - 2)) = _
    rw [prun_app hs w [c] (w.length - 2) (by omega)]
def Le2 (a b : Int × Int) : Prop := a.1 ≤ b.1 ∧ a.2 ≤ b.2
theorem pstep_val (hR : R ≤ 30) (hF : F ≤ 30) {x : Int} (hx : 1 ≤ x) {j : Bool} {s : Int × Int} (n1 : 0 ≤ s.1) (n2 : 0 ≤ s.2) :
    ((pstep h R F j x s).1 = NEV ∨ (0 ≤ (pstep h R F j x s).1 ∧ (pstep h R F j x s).1 ≤ 30)) ∧ ((pstep h R F j x s).2 = NEV ∨ (0 ≤ (pstep h R F j x s).2 ∧ (pstep h R F j x s).2 ≤ 30)) := by
  unfold pstep
  simp only
  constructor
  · by_cases q : s.1 + x > F
    · rw [if_pos q]; exact .inl rfl
    · rw [if_neg q]; exact .inr ⟨by omega, by omega⟩
  · generalize hl : (if j = true ∧ (s.1 + h ≤ F ∨ s.2 + h ≤ R) then (0 : Int) else s.2) = l
    have ln : 0 ≤ l := by
      rw [← hl]
      split
      · exact Int.le_refl 0
      · exact n2
    by_cases q : l + x > R
    · rw [if_pos q]; exact .inl rfl
    · rw [if_neg q]; exact .inr ⟨by omega, by omega⟩
theorem prun_val (N : Nums wt h R F ls) {w : Word} (ho : Over ls w) : ∀ n, n ≤ w.length → ((prun rows wt h R F w n).1 = NEV ∨ (0 ≤ (prun rows wt h R F w n).1 ∧ (prun rows wt h R F w n).1 ≤ 30)) ∧ ((prun rows wt h R F w n).2 = NEV ∨ (0 ≤ (prun rows wt h R F w n).2 ∧ (prun rows wt h R F w n).2 ≤ 30))
  | 0, _ => ⟨.inr ⟨Int.le_refl 0, by show (0 : Int) ≤ 30; decide⟩, .inl rfl⟩
  | n + 1, hn => by
    obtain ⟨h1, h2⟩ := prun_val N ho n (by omega)
    have hN : NEV = 1000000 := rfl
    exact pstep_val N.r1 N.f1 (N.w1 _ (ho _ (getD_mem (by omega)))).1 (by omega) (by omega)
theorem pstep_mono {x : Int} {j : Bool} {s t : Int × Int} (hR : R ≤ 30) (hF : F ≤ 30) (n2 : 0 ≤ t.2) (l : Le2 s t) : Le2 (pstep h R F j x s) (pstep h R F j x t) := by
  obtain ⟨s1, s2⟩ := s
  obtain ⟨t1, t2⟩ := t
  obtain ⟨l1, l2⟩ := l
  simp only at l1 l2 n2
  have hN : NEV = 1000000 := rfl
  unfold pstep Le2
  simp only
  constructor
  · by_cases q : t1 + x > F
    · rw [if_pos q]
      split <;> omega
    · rw [if_neg q, if_neg (by omega)]
      omega
  · have mid : (if j = true ∧ (s1 + h ≤ F ∨ s2 + h ≤ R) then (0 : Int) else s2) ≤ (if j = true ∧ (t1 + h ≤ F ∨ t2 + h ≤ R) then (0 : Int) else t2) := by
      by_cases q : j = true ∧ (t1 + h ≤ F ∨ t2 + h ≤ R)
      · rw [if_pos q, if_pos ⟨q.1, q.2.imp (fun z => by omega) (fun z => by omega)⟩]
        exact Int.le_refl 0
      · rw [if_neg q]
        split
        · exact n2
        · exact l2
    generalize (if j = true ∧ (s1 + h ≤ F ∨ s2 + h ≤ R) then (0 : Int) else s2) = a at mid ⊢
    generalize (if j = true ∧ (t1 + h ≤ F ∨ t2 + h ≤ R) then (0 : Int) else t2) = b at mid ⊢
    by_cases q : b + x > R
    · rw [if_pos q]
      split <;> omega
    · rw [if_neg q, if_neg (by omega)]
      omega
/-- two words with the same last five letters go on alike -/
theorem jAt_tail (hs : Short rows) {u x a : Word} (y : Word) (i : Nat) (hu : 5 ≤ u.length) (hx : 5 ≤ x.length) (eu : u.drop (u.length - 5) = a) (ex : x.drop (x.length - 5) = a) (hi : i < y.length + 2) :
    jAt rows (u ++ y) (u.length - 2 + i) = jAt rows (x ++ y) (x.length - 2 + i) ∧ (u ++ y).getD (u.length - 2 + i) 0 = (x ++ y).getD (x.length - 2 + i) 0 := by
  have al : a.length = 5 := by rw [← eu, List.length_drop]; omega
  have key : ∀ (z : Word), 5 ≤ z.length → z.drop (z.length - 5) = a → lsit (z ++ y) (z.length - 2 + i) = ((a ++ y).drop i).take 3 ∧ rsit (z ++ y) (z.length - 2 + i) = ((a ++ y).drop (3 + i)).take 3 ∧ (z ++ y).getD (z.length - 2 + i) 0 = (a ++ y).getD (3 + i) 0 := by
    intro z hz ez
    have d : (z ++ y).drop (z.length - 5) = a ++ y := by rw [List.drop_append_of_le_length (by omega), ez]
    refine ⟨?_, ?_, ?_⟩
    · unfold lsit
      rw [← d, List.drop_drop, List.drop_take]
      congr 2 <;> omega
    · unfold rsit
      rw [← d, List.drop_drop]
      congr 2
      omega
    · rw [← d, List.getD_eq_getElem?_getD, List.getD_eq_getElem?_getD, List.getElem?_drop]
      congr 2
      omega
  obtain ⟨u1, u2, u3⟩ := key u hu eu
  obtain ⟨x1, x2, x3⟩ := key x hx ex
  refine ⟨?_, by rw [u3, x3]⟩
  unfold jAt
  rw [joint_loc hs _ _ (by rw [List.length_append]; omega), joint_loc hs _ _ (by rw [List.length_append]; omega), u1, u2, x1, x2, decide_eq_true (by omega), decide_eq_true (by omega)]
theorem dom_run (hs : Short rows) (N : Nums wt h R F ls) {u x : Word} (y : Word) (ou : Over ls (u ++ y)) (hu : 5 ≤ u.length) (hx : 5 ≤ x.length) (et : tail5 u = tail5 x) (le : Le2 (pst rows wt h R F x) (pst rows wt h R F u)) :
    ∀ i, i ≤ y.length + 2 → Le2 (prun rows wt h R F (x ++ y) (x.length - 2 + i)) (prun rows wt h R F (u ++ y) (u.length - 2 + i))
  | 0, _ => by
    rw [Nat.add_zero, Nat.add_zero, prun_app hs x y _ (by omega), prun_app hs u y _ (by omega)]
    exact le
  | i + 1, hi => by
    have ih := dom_run hs N y ou hu hx et le i (by omega)
    obtain ⟨j1, j2⟩ := jAt_tail hs y i hu hx et rfl (by omega)
    have v := (prun_val (rows := rows) N ou (u.length - 2 + i) (by rw [List.length_append]; omega)).2
    have hN : NEV = 1000000 := rfl
    have vv : 0 ≤ (prun rows wt h R F (u ++ y) (u.length - 2 + i)).2 := by omega
    show Le2 (pstep h R F (jAt rows (x ++ y) (x.length - 2 + i)) (wt ((x ++ y).getD (x.length - 2 + i) 0)) _) (pstep h R F (jAt rows (u ++ y) (u.length - 2 + i)) (wt ((u ++ y).getD (u.length - 2 + i) 0)) _)
    rw [j1, j2]
    exact pstep_mono N.r1 N.f1 vv ih
theorem dom_bad (hs : Short rows) (N : Nums wt h R F ls) {u x : Word} (y : Word) (ou : Over ls (u ++ y)) (et : tail5 u = tail5 x) (le : Le2 (pst rows wt h R F x) (pst rows wt h R F u)) (bad : ¬ okW rows wt h R F (x ++ y)) : ¬ okW rows wt h R F (u ++ y) := by
  by_cases hu : 5 ≤ u.length
  · have hx : 5 ≤ x.length := by
      have e := congrArg List.length et
      unfold tail5 at e
      rw [List.length_drop, List.length_drop] at e
      omega
    have d := dom_run hs N y ou hu hx et le (y.length + 2) (Nat.le_refl _)
    rw [show x.length - 2 + (y.length + 2) = (x ++ y).length by rw [List.length_append]; omega, show u.length - 2 + (y.length + 2) = (u ++ y).length by rw [List.length_append]; omega] at d
    have b : prun rows wt h R F (x ++ y) (x ++ y).length = (NEV, NEV) := Classical.not_not.mp bad
    rw [b] at d
    obtain ⟨v1, v2⟩ := prun_val (rows := rows) N ou (u ++ y).length (Nat.le_refl _)
    have hN : NEV = 1000000 := rfl
    obtain ⟨d1, d2⟩ := d
    simp only at d1 d2
    intro ok
    refine ok (Prod.ext ?_ ?_)
    · show _ = NEV
      omega
    · show _ = NEV
      omega
  · have eu : tail5 u = u := by unfold tail5; rw [show u.length - 5 = 0 by omega, List.drop_zero]
    have ex : u = x := by
      rw [← eu, et]
      unfold tail5
      have e := congrArg List.length et
      unfold tail5 at e
      rw [List.length_drop, List.length_drop] at e
      rw [show x.length - 5 = 0 by omega, List.drop_zero]
    rw [ex]
    exact bad
end
end K33
set_option linter.all false
set_option maxRecDepth 100000
set_option maxHeartbeats 4000000
/-! what the search keeps, and that it ends -/
namespace K33
abbrev KeptP := List (Word × List (Int × Int))
def kget (K : KeptP) (t : Word) : List (Int × Int) := match K.find? (fun p => decide (p.1 = t)) with
  | some p => p.2
  | none => []
def khas (K : KeptP) (t : Word) : Bool := K.any fun p => decide (p.1 = t)
def kput (K : KeptP) (t : Word) (st : Int × Int) : KeptP := if khas K t = true then K.map (fun p => if p.1 = t then (p.1, p.2 ++ [st]) else p) else K ++ [(t, [st])]
def domB (rows : List (Int × Int)) (st : Int × Int) : Bool := rows.any fun r => decide (st.1 ≤ r.1) && decide (st.2 ≤ r.2)
def Ent (K : KeptP) (t : Word) (s : Int × Int) : Prop := ∃ p ∈ K, p.1 = t ∧ s ∈ p.2
def ksum : KeptP → Nat
  | [] => 0
  | p :: r => p.2.length + ksum r
theorem kget_mem {K : KeptP} {t : Word} {s : Int × Int} (h : s ∈ kget K t) : Ent K t s := by
  unfold kget at h
  split at h
  · rename_i p hp
    have e := List.find?_some hp
    exact ⟨p, List.mem_of_find?_eq_some hp, of_decide_eq_true e, h⟩
  · cases h
theorem kget_of {K : KeptP} (hn : (K.map (·.1)).Nodup) {p : Word × List (Int × Int)} (hp : p ∈ K) : kget K p.1 = p.2 := by
  unfold kget
  induction K with
  | nil => cases hp
  | cons a r ih =>
    rw [List.map_cons, List.nodup_cons] at hn
    rcases List.mem_cons.mp hp with e | e
    · subst e
      rw [List.find?_cons, decide_eq_true rfl]
    · have ne : ¬ a.1 = p.1 := fun z => hn.1 (z ▸ List.mem_map.mpr ⟨p, e, rfl⟩)
      rw [List.find?_cons, decide_eq_false ne]
      exact ih hn.2 e
theorem khas_iff {K : KeptP} {t : Word} : khas K t = true ↔ ∃ p ∈ K, p.1 = t := by
  unfold khas
  rw [List.any_eq_true]
  constructor
  · rintro ⟨p, hp, e⟩; exact ⟨p, hp, of_decide_eq_true e⟩
  · rintro ⟨p, hp, e⟩; exact ⟨p, hp, decide_eq_true e⟩
theorem ent_put {K : KeptP} {t t' : Word} {st s : Int × Int} (h : Ent (kput K t st) t' s) : Ent K t' s ∨ (t' = t ∧ s = st) := by
  obtain ⟨p, hp, e, hs⟩ := h
  unfold kput at hp
  by_cases c : khas K t = true
  · rw [if_pos c] at hp
    obtain ⟨q, hq, rfl⟩ := List.mem_map.mp hp
    by_cases z : q.1 = t
    · rw [if_pos z] at e hs
      rcases List.mem_append.mp hs with y | y
      · exact .inl ⟨q, hq, e, y⟩
      · exact .inr ⟨e.symm.trans z, List.mem_singleton.mp y⟩
    · rw [if_neg z] at e hs
      exact .inl ⟨q, hq, e, hs⟩
  · rw [if_neg c] at hp
    rcases List.mem_append.mp hp with y | y
    · exact .inl ⟨p, y, e, hs⟩
    · rw [List.mem_singleton.mp y] at e hs
      exact .inr ⟨e.symm, List.mem_singleton.mp hs⟩
theorem ksum_app : ∀ (a b : KeptP), ksum (a ++ b) = ksum a + ksum b
  | [], b => by show ksum b = 0 + ksum b; omega
  | p :: r, b => by
    show p.2.length + ksum (r ++ b) = p.2.length + ksum r + ksum b
    rw [ksum_app r b]
    omega
theorem ksum_map {t : Word} {st : Int × Int} : ∀ {K : KeptP}, (K.map (·.1)).Nodup → ksum (K.map fun p => if p.1 = t then (p.1, p.2 ++ [st]) else p) = ksum K + if khas K t = true then 1 else 0
  | [], _ => rfl
  | p :: r, hn => by
    rw [List.map_cons, List.nodup_cons] at hn
    have ih := ksum_map (t := t) (st := st) hn.2
    show (if p.1 = t then (p.1, p.2 ++ [st]) else p).2.length + ksum (r.map _) = p.2.length + ksum r + _
    rw [ih]
    by_cases z : p.1 = t
    · have no : ¬ khas r t = true := fun y => by
        obtain ⟨q, hq, e⟩ := khas_iff.mp y
        exact hn.1 (z ▸ e ▸ List.mem_map.mpr ⟨q, hq, rfl⟩)
      have yes : khas (p :: r) t = true := khas_iff.mpr ⟨p, List.mem_cons_self .., z⟩
      rw [if_pos z, if_neg no, if_pos yes, List.length_append]
      simp only [List.length_cons, List.length_nil]
      omega
    · rw [if_neg z]
      have e : khas (p :: r) t = khas r t := by
        unfold khas
        rw [List.any_cons, decide_eq_false z, Bool.false_or]
      rw [e]
      omega
theorem ksum_put {K : KeptP} {t : Word} {st : Int × Int} (hn : (K.map (·.1)).Nodup) : ksum (kput K t st) = ksum K + 1 := by
  unfold kput
  by_cases c : khas K t = true
  · rw [if_pos c, ksum_map hn, if_pos c]
  · rw [if_neg c, ksum_app]
    rfl
/-! ### how many -/
theorem nodup_le {α : Type} [DecidableEq α] : ∀ {l m : List α}, l.Nodup → (∀ x ∈ l, x ∈ m) → l.length ≤ m.length
  | [], _, _, _ => Nat.zero_le _
  | a :: r, m, hn, hs => by
    have hn' := List.nodup_cons.mp hn
    have ha := hs a (List.mem_cons_self ..)
    have ih := nodup_le (l := r) (m := m.erase a) hn'.2 fun x hx => (List.mem_erase_of_ne (by intro e; rw [e] at hx; exact hn'.1 hx)).mpr (hs x (List.mem_cons_of_mem _ hx))
    rw [List.length_erase_of_mem ha] at ih
    have := List.length_pos_of_mem ha
    rw [List.length_cons]
    omega
def vals : List Int := NEV :: (List.range 31).map fun k : Nat => (k : Int)
def box : List (Int × Int) := vals.flatMap fun a => vals.map fun b => (a, b)
theorem box_len : box.length = 1024 := by decide +kernel
theorem mem_vals {a : Int} (h : a = NEV ∨ (0 ≤ a ∧ a ≤ 30)) : a ∈ vals := by
  rcases h with h | ⟨h1, h2⟩
  · rw [h]; exact List.mem_cons_self ..
  · exact List.mem_cons_of_mem _ (List.mem_map.mpr ⟨a.toNat, List.mem_range.mpr (by omega), by omega⟩)
theorem mem_box {s : Int × Int} (h1 : s.1 = NEV ∨ (0 ≤ s.1 ∧ s.1 ≤ 30)) (h2 : s.2 = NEV ∨ (0 ≤ s.2 ∧ s.2 ≤ 30)) : s ∈ box :=
  List.mem_flatMap.mpr ⟨s.1, mem_vals h1, List.mem_map.mpr ⟨s.2, mem_vals h2, rfl⟩⟩
def tails (ls : Word) : List Word := lng ls 1 ++ lng ls 2 ++ lng ls 3 ++ lng ls 4 ++ lng ls 5
theorem tails_len {ls : Word} (h : ls.length ≤ 3) : (tails ls).length ≤ 363 := by
  unfold tails
  have h1 := len_lng h 1
  have h2 := len_lng h 2
  have h3 := len_lng h 3
  have h4 := len_lng h 4
  have h5 := len_lng h 5
  simp only [List.length_append]
  omega
theorem mem_tails {ls w : Word} (h1 : 1 ≤ w.length) (h5 : w.length ≤ 5) (o : Over ls w) : w ∈ tails ls := by
  unfold tails
  simp only [List.mem_append, mem_lng]
  rcases (show w.length = 1 ∨ w.length = 2 ∨ w.length = 3 ∨ w.length = 4 ∨ w.length = 5 by omega) with e | e | e | e | e
  · exact .inl (.inl (.inl (.inl ⟨e, o⟩)))
  · exact .inl (.inl (.inl (.inr ⟨e, o⟩)))
  · exact .inl (.inl (.inr ⟨e, o⟩))
  · exact .inl (.inr ⟨e, o⟩)
  · exact .inr ⟨e, o⟩
structure KOk (ls : Word) (K : KeptP) : Prop where
  nd : (K.map (·.1)).Nodup
  key : ∀ p ∈ K, p.1 ∈ tails ls
  rnd : ∀ p ∈ K, p.2.Nodup
  rbx : ∀ p ∈ K, ∀ s ∈ p.2, s ∈ box
theorem KOk.rows {ls : Word} {K : KeptP} (o : KOk ls K) {p : Word × List (Int × Int)} (hp : p ∈ K) : p.2.length ≤ 1024 := by
  rw [← box_len]
  exact nodup_le (o.rnd p hp) (o.rbx p hp)
theorem KOk.keys {ls : Word} {K : KeptP} (o : KOk ls K) (h : ls.length ≤ 3) : K.length ≤ 363 := by
  have e : K.length = (K.map (·.1)).length := (List.length_map ..).symm
  rw [e]
  refine Nat.le_trans (nodup_le o.nd fun x hx => ?_) (tails_len h)
  obtain ⟨p, hp, rfl⟩ := List.mem_map.mp hx
  exact o.key p hp
theorem ksum_le : ∀ {K : KeptP}, (∀ p ∈ K, p.2.length ≤ 1024) → ksum K ≤ K.length * 1024
  | [], _ => Nat.le_refl _
  | p :: r, h => by
    have ih := ksum_le (K := r) fun q hq => h q (List.mem_cons_of_mem _ hq)
    have := h p (List.mem_cons_self ..)
    show p.2.length + ksum r ≤ (r.length + 1) * 1024
    omega
def KMAX : Nat := 371712
theorem KOk.sum {ls : Word} {K : KeptP} (o : KOk ls K) (h : ls.length ≤ 3) : ksum K ≤ KMAX := by
  have h1 := ksum_le fun p hp => o.rows hp
  have h2 := o.keys h
  unfold KMAX
  omega
theorem KOk.put {ls : Word} {K : KeptP} (o : KOk ls K) {t : Word} {st : Int × Int} (ht : t ∈ tails ls) (hb : st ∈ box) (hd : domB (kget K t) st = false) : KOk ls (kput K t st) := by
  have notin : ∀ p ∈ K, p.1 = t → st ∉ p.2 := fun p hp e hm => by
    rw [← e, kget_of o.nd hp] at hd
    have : domB p.2 st = true := List.any_eq_true.mpr ⟨st, hm, by rw [decide_eq_true (Int.le_refl _), decide_eq_true (Int.le_refl _)]; rfl⟩
    rw [this] at hd
    cases hd
  unfold kput
  by_cases c : khas K t = true
  · rw [if_pos c]
    have keys : (K.map fun p => if p.1 = t then (p.1, p.2 ++ [st]) else p).map (·.1) = K.map (·.1) := by
      rw [List.map_map]
      refine List.map_congr_left fun p _ => ?_
      show (if p.1 = t then (p.1, p.2 ++ [st]) else p).1 = p.1
      split <;> rfl
    refine ⟨keys ▸ o.nd, fun p hp => ?_, fun p hp => ?_, fun p hp => ?_⟩
    all_goals obtain ⟨q, hq, rfl⟩ := List.mem_map.mp hp
    all_goals by_cases z : q.1 = t
    · rw [if_pos z]; exact o.key q hq
    · rw [if_neg z]; exact o.key q hq
    · rw [if_pos z]
      refine List.nodup_append.mpr ⟨o.rnd q hq, List.nodup_cons.mpr ⟨fun y => (nomatch y), List.nodup_nil⟩, fun a ha b hb e => ?_⟩
      rw [e, List.mem_singleton.mp hb] at ha
      exact notin q hq z ha
    · rw [if_neg z]; exact o.rnd q hq
    · rw [if_pos z]
      intro s hs
      rcases List.mem_append.mp hs with y | y
      · exact o.rbx q hq s y
      · rw [List.mem_singleton.mp y]; exact hb
    · rw [if_neg z]; exact o.rbx q hq
  · rw [if_neg c]
    refine ⟨?_, fun p hp => ?_, fun p hp => ?_, fun p hp => ?_⟩
    · rw [List.map_append]
      refine List.nodup_append.mpr ⟨o.nd, List.nodup_cons.mpr ⟨fun y => (nomatch y), List.nodup_nil⟩, fun a ha b hb e => ?_⟩
      obtain ⟨p, hp, rfl⟩ := List.mem_map.mp ha
      have eb : b = t := List.mem_singleton.mp hb
      exact c (khas_iff.mpr ⟨p, hp, e.trans eb⟩)
    all_goals rcases List.mem_append.mp hp with y | y
    · exact o.key p y
    · rw [List.mem_singleton.mp y]; exact ht
    · exact o.rnd p y
    · rw [List.mem_singleton.mp y]; exact List.nodup_cons.mpr ⟨fun y => (nomatch y), List.nodup_nil⟩
    · exact o.rbx p y
    · rw [List.mem_singleton.mp y]
      intro s hs
      rw [List.mem_singleton.mp hs]
      exact hb
/-! ### the search -/
section
variable {rows : List Row} {wt : Nat → Int} {h R F : Int} {ls : Word}
abbrev Lev := List (Word × (Int × Int))
structure LInv (rows : List Row) (wt : Nat → Int) (h R F : Int) (ls : Word) (n : Nat) (level : Lev) (K : KeptP) : Prop where
  kent : ∀ t s, Ent K t s → ∃ u, u ≠ [] ∧ Over ls u ∧ tail5 u = t ∧ pst rows wt h R F u = s ∧ u.length ≤ n
  words : ∀ p ∈ level, p.1.length = n ∧ Over ls p.1 ∧ p.2 = pst rows wt h R F p.1
  asc : Asc (level.map (·.1))
  min : ∀ v, MinBad ls (okW rows wt h R F) v → n < v.length ∧ v.take n ∈ level.map (·.1)
  kok : KOk ls K
structure PInv (rows : List Row) (wt : Nat → Int) (h R F : Int) (ls : Word) (n : Nat) (pre : List Word) (K : KeptP) (longer : Lev) : Prop where
  kent : ∀ t s, Ent K t s → ∃ u, u ≠ [] ∧ Over ls u ∧ tail5 u = t ∧ pst rows wt h R F u = s ∧ (u.length ≤ n ∨ u ∈ pre)
  lst : ∀ p ∈ longer, p.2 = pst rows wt h R F p.1
  sub : (longer.map (·.1)).Sublist pre
  min : ∀ v, MinBad ls (okW rows wt h R F) v → v.take (n + 1) ∈ pre → n + 1 < v.length ∧ v.take (n + 1) ∈ longer.map (·.1)
  kok : KOk ls K
theorem linv_start : LInv rows wt h R F ls 0 [([], (0, NEV))] [] where
  kent := fun t s ⟨p, hp, _⟩ => nomatch hp
  words := fun p hp => by
    rw [List.mem_singleton.mp hp]
    exact ⟨rfl, fun c hc => (nomatch hc), rfl⟩
  asc := List.pairwise_singleton _ _
  min := fun v hv => ⟨List.length_pos_iff.mpr hv.1.1, List.mem_singleton.mpr rfl⟩
  kok := ⟨List.nodup_nil, fun p hp => (nomatch hp), fun p hp => (nomatch hp), fun p hp => (nomatch hp)⟩
theorem pinv_start {n : Nat} {level : Lev} {K : KeptP} (L : LInv rows wt h R F ls n level K) : PInv rows wt h R F ls n [] K [] where
  kent := fun t s e => let ⟨u, a, b, c, d, f⟩ := L.kent t s e; ⟨u, a, b, c, d, .inl f⟩
  lst := fun p hp => nomatch hp
  sub := List.Sublist.refl _
  min := fun v _ hm => nomatch hm
  kok := L.kok
abbrev newsOf (ls : Word) (level : Lev) : List Word := ext ls (level.map (·.1))
theorem news_word {n : Nat} {level : Lev} {K : KeptP} (L : LInv rows wt h R F ls n level K) {x : Word} (hx : x ∈ newsOf ls level) : x.length = n + 1 ∧ Over ls x ∧ x ≠ [] := by
  obtain ⟨t, ht, c, hc, rfl⟩ := mem_ext.mp hx
  obtain ⟨p, hp, rfl⟩ := List.mem_map.mp ht
  obtain ⟨w1, w2, _⟩ := L.words p hp
  refine ⟨by rw [List.length_append, w1]; rfl, fun d hd => ?_, by simp⟩
  rcases List.mem_append.mp hd with y | y
  · exact w2 d y
  · rw [List.mem_singleton.mp y]; exact hc
theorem take_news {n : Nat} {level : Lev} {K : KeptP} (L : LInv rows wt h R F ls n level K) {v : Word} (hv : MinBad ls (okW rows wt h R F) v) : v.take (n + 1) ∈ newsOf ls level := by
  obtain ⟨m1, m2⟩ := L.min v hv
  refine mem_ext.mpr ⟨v.take n, m2, v[n], hv.1.2.1 _ (List.getElem_mem m1), ?_⟩
  rw [List.take_succ_eq_append_getElem m1]
theorem pre_lt {l pre rest : List Word} {x : Word} (ha : Asc l) (e : pre ++ x :: rest = l) : (∀ u ∈ pre, u < x) ∧ ∀ u ∈ rest, x < u := by
  subst e
  have h1 := List.pairwise_append.mp ha
  exact ⟨fun u hu => h1.2.2 u hu x (List.mem_cons_self ..), (List.pairwise_cons.mp h1.2.1).1⟩
theorem step_dom (hs : Short rows) (N : Nums wt h R F ls) (hl : ls.Pairwise (· < ·)) {n : Nat} {level : Lev} {K0 K : KeptP} {pre rest : List Word} {x : Word} {longer : Lev} (L : LInv rows wt h R F ls n level K0) (P : PInv rows wt h R F ls n pre K longer)
    (e : pre ++ x :: rest = newsOf ls level) (hd : domB (kget K (tail5 x)) (pst rows wt h R F x) = true) : PInv rows wt h R F ls n (pre ++ [x]) K longer := by
  have hx : x ∈ newsOf ls level := e ▸ List.mem_append_right _ (List.mem_cons_self ..)
  obtain ⟨x1, x2, x3⟩ := news_word L hx
  have asc : Asc (newsOf ls level) := asc_ext hl L.asc fun t ht => by
    obtain ⟨p, hp, rfl⟩ := List.mem_map.mp ht
    exact (L.words p hp).1
  refine ⟨fun t s en => ?_, P.lst, P.sub.trans (List.sublist_append_left ..), fun v hv hm => ?_, P.kok⟩
  · obtain ⟨u, a, b, c, d, f⟩ := P.kent t s en
    exact ⟨u, a, b, c, d, f.imp id (List.mem_append_left _)⟩
  · rcases List.mem_append.mp hm with y | y
    · exact P.min v hv y
    · exfalso
      have ev : v.take (n + 1) = x := List.mem_singleton.mp y
      obtain ⟨s, hs', hle⟩ := List.any_eq_true.mp hd
      rw [Bool.and_eq_true, decide_eq_true_eq, decide_eq_true_eq] at hle
      obtain ⟨u, a, b, c, d, f⟩ := P.kent _ _ (kget_mem hs')
      have split : x ++ v.drop (n + 1) = v := by rw [← ev]; exact List.take_append_drop ..
      have ou : Over ls (u ++ v.drop (n + 1)) := fun q hq => by
        rcases List.mem_append.mp hq with z | z
        · exact b q z
        · exact hv.1.2.1 q (List.mem_of_mem_drop z)
      have bad := dom_bad hs N (v.drop (n + 1)) ou c (by rw [d]; exact hle) (by rw [split]; exact hv.1.2.2)
      refine hv.2 (u ++ v.drop (n + 1)) ⟨by simp [a], ou, bad⟩ ?_
      have lens : (u ++ v.drop (n + 1)).length = u.length + (v.drop (n + 1)).length := List.length_append
      have lenv : v.length = x.length + (v.drop (n + 1)).length := by rw [← List.length_append, split]
      rcases f with f | f
      · exact .inl (by omega)
      · have lt := (pre_lt asc e).1 u f
        have lu : u.length = n + 1 := (news_word L (e ▸ List.mem_append_left _ f)).1
        refine .inr ⟨by omega, ?_⟩
        have := lt_app lt (by omega) (v.drop (n + 1)) (v.drop (n + 1))
        rw [split] at this
        exact this
theorem pst_box (N : Nums wt h R F ls) {x : Word} (ho : Over ls x) : pst rows wt h R F x ∈ box := by
  obtain ⟨a, b⟩ := prun_val (rows := rows) N ho (x.length - 2) (by omega)
  exact mem_box a b
theorem tail5_mem {x : Word} (ho : Over ls x) (hx : x ≠ []) : tail5 x ∈ tails ls := by
  have := List.length_pos_iff.mpr hx
  unfold tail5
  exact mem_tails (by rw [List.length_drop]; omega) (by rw [List.length_drop]; omega) fun c hc => ho c (List.mem_of_mem_drop hc)
theorem step_ok (N : Nums wt h R F ls) {n : Nat} {level : Lev} {K0 K : KeptP} {pre rest : List Word} {x : Word} {longer : Lev} (L : LInv rows wt h R F ls n level K0) (P : PInv rows wt h R F ls n pre K longer)
    (e : pre ++ x :: rest = newsOf ls level) (hd : domB (kget K (tail5 x)) (pst rows wt h R F x) = false) (ok : okW rows wt h R F x) :
    PInv rows wt h R F ls n (pre ++ [x]) (kput K (tail5 x) (pst rows wt h R F x)) (longer ++ [(x, pst rows wt h R F x)]) := by
  have hx : x ∈ newsOf ls level := e ▸ List.mem_append_right _ (List.mem_cons_self ..)
  obtain ⟨x1, x2, x3⟩ := news_word L hx
  refine ⟨fun t s en => ?_, fun p hp => ?_, ?_, fun v hv hm => ?_, P.kok.put (tail5_mem x2 x3) (pst_box N x2) hd⟩
  · rcases ent_put en with y | ⟨y, z⟩
    · obtain ⟨u, a, b, c, d, f⟩ := P.kent t s y
      exact ⟨u, a, b, c, d, f.imp id (List.mem_append_left _)⟩
    · exact ⟨x, x3, x2, y.symm, z.symm, .inr (List.mem_append_right _ (List.mem_singleton.mpr rfl))⟩
  · rcases List.mem_append.mp hp with y | y
    · exact P.lst p y
    · rw [List.mem_singleton.mp y]
  · rw [List.map_append]
    exact P.sub.append (List.Sublist.refl _)
  · rw [List.map_append]
    rcases List.mem_append.mp hm with y | y
    · obtain ⟨a, b⟩ := P.min v hv y
      exact ⟨a, List.mem_append_left _ b⟩
    · have ev : v.take (n + 1) = x := List.mem_singleton.mp y
      refine ⟨?_, List.mem_append_right _ (List.mem_singleton.mpr ev)⟩
      have m1 := (L.min v hv).1
      by_cases q : n + 1 < v.length
      · exact q
      · have : v = x := by rw [← ev, List.take_of_length_le (by omega)]
        exact absurd (this ▸ ok) hv.1.2.2
theorem step_bad (hl : ls.Pairwise (· < ·)) {n : Nat} {level : Lev} {K0 K : KeptP} {pre rest : List Word} {x : Word} {longer : Lev} (L : LInv rows wt h R F ls n level K0) (P : PInv rows wt h R F ls n pre K longer)
    (e : pre ++ x :: rest = newsOf ls level) : ∀ u, u ≠ [] → Over ls u → ahead u x → okW rows wt h R F u := by
  intro u hu ho ha
  refine Classical.byContradiction fun nb => ?_
  have hx : x ∈ newsOf ls level := e ▸ List.mem_append_right _ (List.mem_cons_self ..)
  obtain ⟨x1, x2, x3⟩ := news_word L hx
  obtain ⟨v, hv, q⟩ := min_of hl u.length u rfl ⟨hu, ho, nb⟩
  have va : ahead v x := by
    rcases q with q | q
    · rw [q]; exact ha
    · exact ahead_tr q ha
  obtain ⟨m1, m2⟩ := L.min v hv
  have lv : v.length = n + 1 ∧ v < x := by
    rcases va with z | ⟨z, y⟩
    · exact absurd z (by omega)
    · exact ⟨by omega, y⟩
  have vt : v.take (n + 1) = v := List.take_of_length_le (by omega)
  have vn : v ∈ newsOf ls level := vt ▸ take_news L hv
  have asc : Asc (newsOf ls level) := asc_ext hl L.asc fun t ht => by
    obtain ⟨p, hp, rfl⟩ := List.mem_map.mp ht
    exact (L.words p hp).1
  have vp : v ∈ pre := by
    rw [← e] at vn
    rcases List.mem_append.mp vn with y | y
    · exact y
    · rcases List.mem_cons.mp y with z | z
      · rw [z] at lv; exact absurd lv.2 (lt_irr x)
      · exact absurd (lt_tr lv.2 ((pre_lt asc e).2 v z)) (lt_irr v)
  have := (P.min v hv (vt.symm ▸ vp)).1
  omega
theorem pass_end (hl : ls.Pairwise (· < ·)) {n : Nat} {level : Lev} {K0 K : KeptP} {longer : Lev} (L : LInv rows wt h R F ls n level K0) (P : PInv rows wt h R F ls n (newsOf ls level) K longer) : LInv rows wt h R F ls (n + 1) longer K where
  kent := fun t s en => by
    obtain ⟨u, a, b, c, d, f⟩ := P.kent t s en
    refine ⟨u, a, b, c, d, ?_⟩
    rcases f with f | f
    · omega
    · exact Nat.le_of_eq (news_word L f).1
  words := fun p hp => by
    have m : p.1 ∈ newsOf ls level := P.sub.subset (List.mem_map.mpr ⟨p, hp, rfl⟩)
    obtain ⟨a, b, c⟩ := news_word L m
    exact ⟨a, b, P.lst p hp⟩
  asc := (asc_ext hl L.asc fun t ht => by
    obtain ⟨p, hp, rfl⟩ := List.mem_map.mp ht
    exact (L.words p hp).1).sublist P.sub
  min := fun v hv => P.min v hv (take_news L hv)
  kok := P.kok
theorem all_ok (hl : ls.Pairwise (· < ·)) {n : Nat} {K : KeptP} (L : LInv rows wt h R F ls n [] K) : ∀ u, u ≠ [] → Over ls u → okW rows wt h R F u := by
  intro u hu ho
  refine Classical.byContradiction fun nb => ?_
  obtain ⟨v, hv, _⟩ := min_of hl u.length u rfl ⟨hu, ho, nb⟩
  exact nomatch (L.min v hv).2
end
end K33
set_option linter.all false
set_option maxRecDepth 100000
set_option maxHeartbeats 4000000
/-! the heaviest syllable, by paths of situations -/
namespace K33
abbrev Sit := Word × Word
def last3 (w : Word) : Word := w.drop (w.length - 3)
def nx (ls : Word) (p : Sit) : List Sit := (last3 (p.1 ++ p.2.take 1), p.2.drop 1) :: (if p.2.length = 3 then ls.map fun c => (last3 (p.1 ++ p.2.take 1), p.2.drop 1 ++ [c]) else [])
def endS (rows : List Row) (g : Sit) : Bool := decide (g.2 = []) || jt rows g.1 g.2
def hw (wt : Nat → Int) (p : Sit) : Int := wt (p.2.getD 0 0)
inductive Path (rows : List Row) (wt : Nat → Int) (ls : Word) : Sit → Int → Prop
  | one (p : Sit) : Path rows wt ls p (hw wt p)
  | step {p g : Sit} {W : Int} : g ∈ nx ls p → endS rows g = false → Path rows wt ls g W → Path rows wt ls p (hw wt p + W)
def MaxP (rows : List Row) (wt : Nat → Int) (ls : Word) (p : Sit) (W : Int) : Prop := Path rows wt ls p W ∧ ∀ V, Path rows wt ls p V → V ≤ W
/-- a situation of the table, or the word's start -/
def InTab (ls : Word) (p : Sit) : Prop := p.1 ∈ sidesL ls ∧ p.2 ∈ sidesL ls
def Starts (rows : List Row) (ls : Word) (p : Sit) : Prop := (p.1 = [] ∧ p.2 ∈ sidesL ls) ∨ (InTab ls p ∧ jt rows p.1 p.2 = true)
section
variable {rows : List Row} {wt : Nat → Int} {h R F : Int} {ls : Word}
theorem last3_len (w : Word) : (last3 w).length = min w.length 3 := by unfold last3; rw [List.length_drop]; omega
theorem last3_over {w : Word} (o : Over ls w) : Over ls (last3 w) := fun c hc => o c (List.mem_of_mem_drop hc)
theorem last3_snoc (a b : Word) (hb : b.length ≤ 3) : last3 (last3 a ++ b) = last3 (a ++ b) := by
  unfold last3
  rw [List.length_append, List.length_drop, List.length_append]
  by_cases q : a.length ≤ 3
  · rw [show a.length - 3 = 0 by omega, List.drop_zero]
    congr 1
  · rw [List.drop_append, List.drop_append, List.drop_drop, List.length_drop]
    congr 2 <;> omega
theorem nx_tab {p g : Sit} (hg : g ∈ nx ls p) (h1 : p.1.length ≤ 3) (o1 : Over ls p.1) (h2 : p.2 ∈ sidesL ls) (hne : g.2 ≠ []) : InTab ls g := by
  obtain ⟨a1, a2, a3⟩ := mem_sides.mp h2
  have t1 : (p.2.take 1).length = 1 := by rw [List.length_take]; omega
  have o : Over ls (p.1 ++ p.2.take 1) := fun c hc => by
    rcases List.mem_append.mp hc with y | y
    · exact o1 c y
    · exact a3 c (List.mem_of_mem_take y)
  have b : last3 (p.1 ++ p.2.take 1) ∈ sidesL ls := mem_sides.mpr ⟨by rw [last3_len, List.length_append]; omega, by rw [last3_len]; omega, last3_over o⟩
  unfold nx at hg
  rcases List.mem_cons.mp hg with e | e
  · subst e
    refine ⟨b, mem_sides.mpr ⟨List.length_pos_iff.mpr hne, by rw [List.length_drop]; omega, fun c hc => a3 c (List.mem_of_mem_drop hc)⟩⟩
  · by_cases q : p.2.length = 3
    · rw [if_pos q] at e
      obtain ⟨c, hc, rfl⟩ := List.mem_map.mp e
      refine ⟨b, mem_sides.mpr ⟨by simp, by simp; omega, fun d hd => ?_⟩⟩
      rcases List.mem_append.mp hd with y | y
      · exact a3 d (List.mem_of_mem_drop y)
      · rw [List.mem_singleton.mp y]; exact hc
    · rw [if_neg q] at e; cases e
theorem hw_pos (N : Nums wt h R F ls) {p : Sit} (h2 : p.2 ∈ sidesL ls) : 1 ≤ hw wt p := by
  obtain ⟨a1, a2, a3⟩ := mem_sides.mp h2
  exact (N.w1 _ (a3 _ (getD_mem (by omega)))).1
/-! ### a table of tails -/
abbrev TS := List (Sit × (Int × Sit))
def thas (T : TS) (g : Sit) : Prop := ∃ v, (g, v) ∈ T
structure TOk (rows : List Row) (wt : Nat → Int) (ls : Word) (T : TS) : Prop where
  mx : ∀ e ∈ T, MaxP rows wt ls e.1 e.2.1
  tab : ∀ e ∈ T, InTab ls e.1 ∧ jt rows e.1.1 e.1.2 = false
/-- the value of a way on -/
def vl (rows : List Row) (wt : Nat → Int) (tv : Sit → Int) (p g : Sit) : Int := hw wt p + if endS rows g = true then 0 else tv g
theorem max_of (N : Nums wt h R F ls) {T : TS} (ok : TOk rows wt ls T) {tv : Sit → Int} {p g : Sit} {W : Int} (htv : ∀ g, thas T g → ∃ s, (g, (tv g, s)) ∈ T) (h2 : p.2 ∈ sidesL ls)
    (all : ∀ g ∈ nx ls p, endS rows g = false → thas T g) (hg : g ∈ nx ls p) (eW : W = vl rows wt tv p g) (mx : ∀ g' ∈ nx ls p, vl rows wt tv p g' ≤ W) : MaxP rows wt ls p W := by
  have tmax : ∀ g, thas T g → MaxP rows wt ls g (tv g) := fun g hg => let ⟨s, hs⟩ := htv g hg; ok.mx _ hs
  have tnn : ∀ g, thas T g → 0 ≤ tv g := fun g hg => by
    obtain ⟨s, hs⟩ := htv g hg
    have := (tmax g hg).2 _ (.one g)
    have := hw_pos N (ok.tab _ hs).1.2
    simp only at this
    omega
  refine ⟨?_, fun V hV => ?_⟩
  · rw [eW]
    unfold vl
    by_cases e : endS rows g = true
    · rw [if_pos e, Int.add_zero]; exact .one p
    · rw [if_neg e]
      have e' : endS rows g = false := by simpa using e
      exact .step hg e' (tmax g (all g hg e')).1
  · cases hV with
    | one =>
      have := mx g hg
      unfold vl at this
      by_cases e : endS rows g = true
      · rw [if_pos e] at this; omega
      · rw [if_neg e] at this
        have e' : endS rows g = false := by simpa using e
        have := tnn g (all g hg e')
        omega
    | @step _ g' V' hg' e' hV' =>
      have a := mx g' hg'
      have b := (tmax g' (all g' hg' e')).2 _ hV'
      unfold vl at a
      rw [if_neg (by rw [e']; decide)] at a
      omega
/-! ### a ring -/
theorem ring_far (N : Nums wt h R F ls) {M : Sit → Prop} (tab : ∀ p, M p → p.2 ∈ sidesL ls) (ring : ∀ p, M p → ∃ g ∈ nx ls p, endS rows g = false ∧ M g) : ∀ (n : Nat) (p : Sit), M p → ∃ W, (n : Int) ≤ W ∧ Path rows wt ls p W
  | 0, p, hp => ⟨_, by have := hw_pos N (tab p hp); omega, .one p⟩
  | n + 1, p, hp => by
    obtain ⟨g, hg, e, hm⟩ := ring p hp
    obtain ⟨W, h1, h2⟩ := ring_far N tab ring n g hm
    have := hw_pos N (tab p hp)
    exact ⟨_, by omega, .step hg e h2⟩
/-! ### words along a path -/
def wsum (wt : Nat → Int) (w : Word) : Nat → Nat → Int
  | _, 0 => 0
  | s, n + 1 => wt (w.getD s 0) + wsum wt w (s + 1) n
/-- from s on n letters without a joint within -/
def SylAt (rows : List Row) (wt : Nat → Int) (w : Word) (s : Nat) (W : Int) : Prop := ∃ n, 1 ≤ n ∧ s + n ≤ w.length ∧ wsum wt w s n = W ∧ ∀ k, s < k → k < s + n → jAt rows w k = false
theorem lsit_last (a z : Word) : lsit (a ++ z) a.length = last3 a := by
  unfold lsit last3
  rw [List.take_left]
theorem rsit_app0 (a z : Word) : rsit (a ++ z) a.length = z.take 3 := by
  unfold rsit
  rw [List.drop_left]
theorem path_word (hs : Short rows) {p : Sit} {W : Int} (hp : Path rows wt ls p W) : p.1.length ≤ 3 → Over ls p.1 → p.2 ∈ sidesL ls → ∃ z, z ≠ [] ∧ Over ls z ∧ z.take 3 = p.2 ∧ (p.2.length < 3 → z = p.2) ∧ ∀ a : Word, last3 a = p.1 → SylAt rows wt (a ++ z) a.length W := by
  induction hp with
  | one p =>
    intro h1 o1 h2
    obtain ⟨a1, a2, a3⟩ := mem_sides.mp h2
    refine ⟨p.2, List.length_pos_iff.mp a1, a3, List.take_of_length_le a2, fun _ => rfl, fun a _ => ⟨1, Nat.le_refl 1, by rw [List.length_append]; omega, ?_, fun k k1 k2 => by omega⟩⟩
    show wt ((a ++ p.2).getD a.length 0) + 0 = hw wt p
    unfold hw
    rw [List.getD_eq_getElem?_getD, List.getElem?_append_right (Nat.le_refl _), Nat.sub_self, ← List.getD_eq_getElem?_getD, Int.add_zero]
  | @step p g W hg he _ ih =>
    intro h1 o1 h2
    obtain ⟨a1, a2, a3⟩ := mem_sides.mp h2
    have hne : g.2 ≠ [] := fun e => by
      unfold endS at he
      rw [e] at he
      simp at he
    have tab := nx_tab hg h1 o1 h2 hne
    obtain ⟨b1, b2, b3⟩ := mem_sides.mp tab.1
    obtain ⟨z, z1, z2, z3, z4, z5⟩ := ih b2 b3 tab.2
    obtain ⟨r0, r', er⟩ : ∃ r0 r', p.2 = r0 :: r' := by
      cases e : p.2 with
      | nil => rw [e] at a1; cases a1
      | cons x y => exact ⟨x, y, rfl⟩
    have g1 : g.1 = last3 (p.1 ++ [r0]) ∧ ((g.2 = r') ∨ (r'.length = 2 ∧ ∃ c, g.2 = r' ++ [c])) := by
      unfold nx at hg
      rw [er] at hg
      rcases List.mem_cons.mp hg with e | e
      · rw [e]; exact ⟨rfl, .inl rfl⟩
      · by_cases q : (r0 :: r').length = 3
        · rw [if_pos q] at e
          obtain ⟨c, hc, rfl⟩ := List.mem_map.mp e
          exact ⟨rfl, .inr ⟨by simpa using q, c, rfl⟩⟩
        · rw [if_neg q] at e; cases e
    have lr : r'.length ≤ 2 := by rw [er] at a2; simpa using a2
    have zt : z.take 2 = r' := by
      have : z.take 2 = (z.take 3).take 2 := by rw [List.take_take]; rfl
      rw [this, z3]
      rcases g1.2 with e | ⟨e, c, e2⟩
      · rw [e, List.take_of_length_le lr]
      · rw [e2, List.take_append_of_le_length (by omega), List.take_of_length_le lr]
    refine ⟨r0 :: z, by simp, fun c hc => ?_, ?_, fun hl => ?_, fun a ha => ?_⟩
    · rcases List.mem_cons.mp hc with e | e
      · rw [e]; exact a3 r0 (by rw [er]; exact List.mem_cons_self ..)
      · exact z2 c e
    · rw [er, List.take_succ_cons, zt]
    · rw [er] at hl ⊢
      have e2 : g.2 = r' := g1.2.elim id fun ⟨e, _⟩ => by rw [List.length_cons] at hl; omega
      have : z = g.2 := z4 (by rw [e2]; rw [List.length_cons] at hl; omega)
      rw [this, e2]
    · have sy := z5 (a ++ [r0]) (by rw [← last3_snoc a [r0] (by simp), ha, g1.1])
      have ew : (a ++ [r0]) ++ z = a ++ r0 :: z := by simp
      rw [ew] at sy
      obtain ⟨n, n1, n2, n3, n4⟩ := sy
      have la : (a ++ [r0]).length = a.length + 1 := by simp
      rw [la] at n2 n3 n4
      refine ⟨n + 1, by omega, by omega, ?_, fun k k1 k2 => ?_⟩
      · show wt ((a ++ r0 :: z).getD a.length 0) + wsum wt (a ++ r0 :: z) (a.length + 1) n = _
        rw [n3]
        unfold hw
        rw [er, List.getD_eq_getElem?_getD, List.getElem?_append_right (Nat.le_refl _), Nat.sub_self]
        rfl
      · by_cases q : k = a.length + 1
        · have : jAt rows (a ++ r0 :: z) k = jt rows g.1 g.2 := by
            unfold jAt
            rw [joint_loc hs _ k (by omega), decide_eq_true (by omega), Bool.true_and, q]
            have l1 := lsit_last (a ++ [r0]) z
            have l2 := rsit_app0 (a ++ [r0]) z
            rw [ew, la] at l1 l2
            rw [l1, l2, z3, ← last3_snoc a [r0] (by simp), ha, g1.1]
          rw [this]
          unfold endS at he
          rw [Bool.or_eq_false_iff] at he
          exact he.2
        · exact n4 k (by omega) (by omega)
/-! ### too heavy a syllable -/
def Low (t : Int) (e : Int × List Int) : Prop := t ≤ e.1 ∧ ∀ c ∈ e.2, t ≤ c
theorem low_step0 {x : Int} {j : Bool} {e : Int × List Int} (l : Low 0 e) : Low x (estep h R F j x e) := by
  obtain ⟨a, b⟩ := l
  refine ⟨by show x ≤ e.1 + x; omega, fun c hc => ?_⟩
  obtain ⟨d, hd, rfl⟩ := List.mem_map.mp hc
  have : 0 ≤ d := by
    split at hd
    · rcases List.mem_cons.mp hd with z | z
      · omega
      · exact b d z
    · exact b d hd
  omega
theorem low_step {t x : Int} {e : Int × List Int} (l : Low t e) : Low (t + x) (estep h R F false x e) := by
  obtain ⟨a, b⟩ := l
  refine ⟨by show t + x ≤ e.1 + x; omega, fun c hc => ?_⟩
  obtain ⟨d, hd, rfl⟩ := List.mem_map.mp hc
  rw [if_neg (fun z => Bool.false_ne_true z.1)] at hd
  have := b d hd
  omega
def Dead (R F : Int) (e : Int × List Int) : Prop := F < e.1 ∧ ∀ c ∈ e.2, R < c
theorem dead_step {x : Int} {j : Bool} {e : Int × List Int} (hh : 0 ≤ h) (hx : 0 ≤ x) (d : Dead R F e) : Dead R F (estep h R F j x e) := by
  obtain ⟨a, b⟩ := d
  have no : ¬ (j = true ∧ (e.1 + h ≤ F ∨ ∃ c ∈ e.2, c + h ≤ R)) := by
    rintro ⟨_, q | ⟨c, hc, q⟩⟩
    · omega
    · have := b c hc; omega
  refine ⟨by show F < e.1 + x; omega, fun c hc => ?_⟩
  obtain ⟨d, hd, rfl⟩ := List.mem_map.mp hc
  rw [if_neg no] at hd
  have := b d hd
  omega
theorem low_run (N : Nums wt h R F ls) {w : Word} (ho : Over ls w) : ∀ n, n ≤ w.length → Low 0 (erun rows wt h R F w n)
  | 0, _ => ⟨Int.le_refl 0, fun c hc => (nomatch hc)⟩
  | n + 1, hn => by
    have l := low_step0 (h := h) (R := R) (F := F) (x := wt (w.getD n 0)) (j := jAt rows w n) (low_run N ho n (by omega))
    have := (N.w1 _ (ho _ (getD_mem (show n < w.length by omega)))).1
    exact ⟨Int.le_trans (by omega) l.1, fun c hc => Int.le_trans (by omega) (l.2 c hc)⟩
theorem wsum_snoc (w : Word) : ∀ (n s : Nat), wsum wt w s (n + 1) = wsum wt w s n + wt (w.getD (s + n) 0)
  | 0, s => by show wt _ + 0 = 0 + wt _; rw [Nat.add_zero]; omega
  | n + 1, s => by
    show wt (w.getD s 0) + wsum wt w (s + 1) (n + 1) = wt (w.getD s 0) + wsum wt w (s + 1) n + _
    rw [wsum_snoc w n (s + 1), show s + 1 + n = s + (n + 1) by omega]
    omega
theorem low_syl (N : Nums wt h R F ls) {w : Word} (ho : Over ls w) {s : Nat} : ∀ n, 1 ≤ n → s + n ≤ w.length → (∀ k, s < k → k < s + n → jAt rows w k = false) → Low (wsum wt w s n) (erun rows wt h R F w (s + n))
  | 0, h1, _, _ => absurd h1 (by omega)
  | 1, _, hl, _ => by
    have l := low_step0 (h := h) (R := R) (F := F) (x := wt (w.getD s 0)) (j := jAt rows w s) (low_run (rows := rows) N ho s (by omega))
    have e : wsum wt w s 1 = wt (w.getD s 0) := by show wt _ + 0 = _; rw [Int.add_zero]
    rw [e]
    exact l
  | n + 2, _, hl, hj => by
    have ih := low_syl N ho (s := s) (n + 1) (by omega) (by omega) fun k k1 k2 => hj k k1 (by omega)
    rw [wsum_snoc]
    show Low _ (estep h R F (jAt rows w (s + (n + 1))) (wt (w.getD (s + (n + 1)) 0)) (erun rows wt h R F w (s + (n + 1))))
    rw [hj (s + (n + 1)) (by omega) (by omega)]
    exact low_step ih
theorem dead_run (N : Nums wt h R F ls) {w : Word} (ho : Over ls w) {m : Nat} (d : Dead R F (erun rows wt h R F w m)) : ∀ n, m + n ≤ w.length → Dead R F (erun rows wt h R F w (m + n))
  | 0, _ => d
  | n + 1, hn => by
    have := (N.w1 _ (ho _ (getD_mem (show m + n < w.length by omega)))).1
    have q : 0 ≤ wt (w.getD (m + n) 0) := by omega
    exact dead_step N.h0 q (dead_run N ho d n (by omega))
theorem heavy_bad (N : Nums wt h R F ls) {w : Word} (ho : Over ls w) {s : Nat} {W : Int} (sy : SylAt rows wt w s W) (hR : R < W) (hF : F < W) : w ≠ [] ∧ ¬ okW rows wt h R F w := by
  obtain ⟨n, n1, n2, n3, n4⟩ := sy
  have hne : w ≠ [] := fun e => by rw [e] at n2; simp at n2; omega
  refine ⟨hne, fun ok => ?_⟩
  have l := low_syl N ho n n1 n2 n4
  rw [n3] at l
  have d : Dead R F (erun rows wt h R F w (s + n)) := ⟨Int.lt_of_lt_of_le hF l.1, fun c hc => Int.lt_of_lt_of_le hR (l.2 c hc)⟩
  have d2 := dead_run N ho d (w.length - (s + n)) (by omega)
  rw [show s + n + (w.length - (s + n)) = w.length by omega] at d2
  rcases (okW_iff N ho hne).mp ok with q | ⟨c, hc, q⟩
  · have := d2.1; omega
  · have := d2.2 c hc; omega
/-- a path too heavy: some word cannot be set -/
theorem path_bad (hs : Short rows) (N : Nums wt h R F ls) {p : Sit} {W : Int} (hp : Path rows wt ls p W) (st : p.1.length ≤ 3 ∧ Over ls p.1) (h2 : p.2 ∈ sidesL ls) (hR : R < W) (hF : F < W) : ∃ w, w ≠ [] ∧ Over ls w ∧ ¬ okW rows wt h R F w := by
  obtain ⟨z, z1, z2, z3, z4, z5⟩ := path_word hs hp st.1 st.2 h2
  have e : last3 p.1 = p.1 := by unfold last3; rw [show p.1.length - 3 = 0 by have := st.1; omega, List.drop_zero]
  have o : Over ls (p.1 ++ z) := fun c hc => (List.mem_append.mp hc).elim (st.2 c) (z2 c)
  obtain ⟨a, b⟩ := heavy_bad N o (z5 p.1 e) hR hF
  exact ⟨p.1 ++ z, a, o, b⟩
theorem ring_bad (hs : Short rows) (N : Nums wt h R F ls) {M : Sit → Prop} (tab : ∀ p, M p → InTab ls p) (ring : ∀ p, M p → ∃ g ∈ nx ls p, endS rows g = false ∧ M g) {p : Sit} (hp : M p) : ∃ w, w ≠ [] ∧ Over ls w ∧ ¬ okW rows wt h R F w := by
  obtain ⟨W, h1, h2⟩ := ring_far N (fun p hp => (tab p hp).2) ring 31 p hp
  obtain ⟨b1, b2, b3⟩ := mem_sides.mp (tab p hp).1
  have r1 := N.r1
  have f1 := N.f1
  exact path_bad hs N h2 ⟨b2, b3⟩ (tab p hp).2 (by omega) (by omega)
/-! ### light syllables -/
theorem nx_word {w : Word} (ho : Over ls w) {s : Nat} (h1 : s + 1 < w.length) : (lsit w (s + 1), rsit w (s + 1)) ∈ nx ls (lsit w s, rsit w s) := by
  have r1 : (rsit w s).take 1 = [w[s]'(by omega)] := by
    unfold rsit
    rw [List.take_take, List.drop_eq_getElem_cons (by omega)]
    rfl
  have e1 : last3 (lsit w s ++ (rsit w s).take 1) = lsit w (s + 1) := by
    rw [r1]
    have a : lsit w s = last3 (w.take s) := by unfold lsit last3; rw [List.length_take, Nat.min_eq_left (by omega)]
    rw [a, last3_snoc _ _ (by simp)]
    unfold lsit last3
    rw [← List.take_succ_eq_append_getElem (by omega), List.length_take, Nat.min_eq_left (by omega)]
  unfold nx
  rw [e1]
  by_cases q : (rsit w s).length = 3
  · have q3 : s + 3 ≤ w.length := by unfold rsit at q; rw [List.length_take, List.length_drop] at q; omega
    by_cases q4 : s + 4 ≤ w.length
    · refine List.mem_cons_of_mem _ ?_
      rw [if_pos q]
      refine List.mem_map.mpr ⟨w[s + 3]'(by omega), ho _ (List.getElem_mem _), ?_⟩
      congr 1
      unfold rsit
      apply List.ext_getElem?
      intro i
      rw [List.drop_take, List.drop_drop]
      have l2 : ((w.drop (s + 1)).take (3 - 1)).length = 2 := by rw [List.length_take, List.length_drop]; omega
      by_cases i2 : i < 2
      · rw [List.getElem?_append_left (by omega), List.getElem?_take_of_lt (by omega), List.getElem?_take_of_lt (by omega)]
      · by_cases i3 : i = 2
        · subst i3
          have e3 : w[s + 1 + 2]? = some (w[s + 3]'(by omega)) := List.getElem?_eq_getElem (by omega)
          rw [List.getElem?_append_right (by omega), l2, List.getElem?_take_of_lt (by omega), List.getElem?_drop, e3]
          rfl
        · rw [List.getElem?_eq_none (by simp; omega), List.getElem?_eq_none (by rw [List.length_take]; omega)]
    · have e2 : rsit w (s + 1) = (rsit w s).drop 1 := by
        unfold rsit
        rw [List.drop_take, List.drop_drop, List.take_of_length_le (by rw [List.length_drop]; omega), List.take_of_length_le (by rw [List.length_drop]; omega)]
      rw [e2]
      exact List.mem_cons_self ..
  · have q3 : w.length < s + 3 := by unfold rsit at q; rw [List.length_take, List.length_drop] at q; omega
    have e2 : rsit w (s + 1) = (rsit w s).drop 1 := by
      unfold rsit
      rw [List.drop_take, List.drop_drop, List.take_of_length_le (by rw [List.length_drop]; omega), List.take_of_length_le (by rw [List.length_drop]; omega)]
    rw [e2]
    exact List.mem_cons_self ..
theorem word_path (hs : Short rows) {w : Word} (ho : Over ls w) : ∀ (n s : Nat), s + (n + 1) ≤ w.length → (∀ k, s < k → k < s + (n + 1) → jAt rows w k = false) → Path rows wt ls (lsit w s, rsit w s) (wsum wt w s (n + 1))
  | 0, s, hl, _ => by
    have e : wsum wt w s 1 = hw wt (lsit w s, rsit w s) := by
      show wt (w.getD s 0) + 0 = wt ((rsit w s).getD 0 0)
      unfold rsit
      rw [List.getD_eq_getElem?_getD, List.getD_eq_getElem?_getD, List.getElem?_take_of_lt (by omega), List.getElem?_drop, Int.add_zero, Nat.add_zero]
    rw [e]
    exact .one _
  | n + 1, s, hl, hj => by
    have ih := word_path hs ho n (s + 1) (by omega) fun k k1 k2 => hj k (by omega) (by omega)
    have e : wt (w.getD s 0) = hw wt (lsit w s, rsit w s) := by
      show wt (w.getD s 0) = wt ((rsit w s).getD 0 0)
      unfold rsit
      rw [List.getD_eq_getElem?_getD, List.getD_eq_getElem?_getD, List.getElem?_take_of_lt (by omega), List.getElem?_drop, Nat.add_zero]
    show Path rows wt ls _ (wt (w.getD s 0) + wsum wt w (s + 1) (n + 1))
    rw [e]
    refine .step (nx_word ho (by omega)) ?_ ih
    have j := hj (s + 1) (by omega) (by omega)
    unfold jAt at j
    rw [joint_loc hs w (s + 1) (by omega), decide_eq_true (by omega), Bool.true_and] at j
    unfold endS
    have := (rsit_len (w := w) (k := s + 1) (by omega)).1
    rw [j, Bool.or_false, decide_eq_false fun z => by simp only at z; rw [z] at this; cases this]
theorem light_ok (hs : Short rows) (N : Nums wt h R F ls) {tot : Int} (mx : ∀ p, Starts rows ls p → ∀ W, Path rows wt ls p W → W ≤ tot) (hR : tot + h ≤ R) (hF : tot + h ≤ F) {w : Word} (hne : w ≠ []) (ho : Over ls w) : okW rows wt h R F w := by
  have bound : ∀ s n, 1 ≤ n → s + n ≤ w.length → (s = 0 ∨ jAt rows w s = true) → (∀ k, s < k → k < s + n → jAt rows w k = false) → wsum wt w s n ≤ tot := by
    intro s n h1 h2 h3 h4
    obtain ⟨m, rfl⟩ : ∃ m, n = m + 1 := ⟨n - 1, by omega⟩
    refine mx (lsit w s, rsit w s) ?_ _ (word_path hs ho m s h2 h4)
    by_cases z : s = 0
    · subst z
      exact .inl ⟨by unfold lsit; simp, rsit_mem ho (by omega)⟩
    · refine .inr ⟨⟨lsit_mem ho (by omega) (by omega), rsit_mem ho (by omega)⟩, ?_⟩
      have j := h3.resolve_left z
      unfold jAt at j
      rw [joint_loc hs w s (by omega), decide_eq_true (by omega), Bool.true_and] at j
      exact j
  have run : ∀ n, 1 ≤ n → n ≤ w.length → ∃ s m, s + m = n ∧ 1 ≤ m ∧ (s = 0 ∨ jAt rows w s = true) ∧ (∀ k, s < k → k < s + m → jAt rows w k = false) ∧
      ((s = 0 ∧ (erun rows wt h R F w n).1 = wsum wt w s m) ∨ wsum wt w s m ∈ (erun rows wt h R F w n).2) := by
    intro n
    induction n with
    | zero => intro z; omega
    | succ n ih =>
      intro _ hn
      by_cases z : n = 0
      · subst z
        refine ⟨0, 1, rfl, Nat.le_refl 1, .inl rfl, fun k k1 k2 => by omega, .inl ⟨rfl, ?_⟩⟩
        show (0 : Int) + wt (w.getD 0 0) = wt (w.getD 0 0) + 0
        omega
      · obtain ⟨s, m, e1, e2, e3, e4, e5⟩ := ih (by omega) (by omega)
        have b := bound s m e2 (by omega) e3 e4
        have hh := N.h0
        have estp : erun rows wt h R F w (n + 1) = estep h R F (jAt rows w n) (wt (w.getD n 0)) (erun rows wt h R F w n) := rfl
        rw [estp]
        cases j : jAt rows w n with
        | true =>
          refine ⟨n, 1, rfl, Nat.le_refl 1, .inr j, fun k k1 k2 => by omega, .inr ?_⟩
          have t : true = true ∧ ((erun rows wt h R F w n).1 + h ≤ F ∨ ∃ c ∈ (erun rows wt h R F w n).2, c + h ≤ R) := by
            refine ⟨rfl, ?_⟩
            rcases e5 with ⟨_, y⟩ | y
            · exact .inl (by omega)
            · exact .inr ⟨_, y, by omega⟩
          unfold estep
          rw [if_pos t]
          exact List.mem_map.mpr ⟨0, List.mem_cons_self .., by show (0 : Int) + wt (w.getD n 0) = wt (w.getD n 0) + 0; omega⟩
        | false =>
          refine ⟨s, m + 1, by omega, by omega, e3, fun k k1 k2 => ?_, ?_⟩
          · by_cases y : k = n
            · rw [y]; exact j
            · exact e4 k k1 (by omega)
          · rw [wsum_snoc, e1]
            rcases e5 with ⟨y1, y2⟩ | y
            · refine .inl ⟨y1, ?_⟩
              show (erun rows wt h R F w n).1 + wt (w.getD n 0) = _
              rw [y2]
            · refine .inr ?_
              unfold estep
              rw [if_neg fun q => Bool.false_ne_true q.1]
              exact List.mem_map.mpr ⟨_, y, rfl⟩
  have lp := List.length_pos_iff.mpr hne
  obtain ⟨s, m, e1, e2, e3, e4, e5⟩ := run w.length lp (Nat.le_refl _)
  have b := bound s m e2 (by omega) e3 e4
  have hh := N.h0
  refine (okW_iff N ho hne).mpr ?_
  rcases e5 with ⟨_, y⟩ | y
  · exact .inl (by omega)
  · exact .inr ⟨_, y, by omega⟩
end
end K33
set_option Elab.async false
set_option linter.all false
set_option maxRecDepth 100000
set_option maxHeartbeats 4000000
/-! data in the heap -/
namespace K33
open PySem PySem.Spec PyProof.Rows L2
local macro_rules | `(tactic| walk_at "sz") => `(tactic| first | exact Nat.zero_le _ | omega | (simp only [sizeLine_eq, cutL_to, cutL_from, cutL_mid, List.length_append, List.length_cons, List.length_nil, List.length_take, List.length_drop, List.length_map, List.length_dropLast]; omega) | decide | (refine Nat.le_trans (cutL_len _ _ _) ?_; simp only [sizeLine_eq, List.length_append, List.length_cons, List.length_nil, List.length_take, List.length_drop]; omega))
local macro_rules | `(tactic| walk_at "rd") => `(tactic| ((try dsimp only); repeat (first
  | refine ⟨_, rfl, ?_⟩
  | refine ⟨rfl, ?_⟩
  | refine ⟨_, _, rfl, rfl, ?_⟩
  | refine ⟨_, _, rfl, ?_⟩
  | refine ⟨_, _, rfl, SqT.of upd_same, rfl, ?_⟩
  | refine And.intro ⟨_, rfl⟩ ?_
  | refine And.intro (by walk_at "sz") ?_)))
local macro_rules | `(tactic| walk_at "rn") => `(tactic| repeat (first
  | refine ⟨_, rfl, ?_⟩
  | refine ⟨rfl, ?_⟩
  | refine ⟨_, _, rfl, rfl, ?_⟩
  | refine ⟨_, _, rfl, ?_⟩
  | refine ⟨_, _, rfl, SqT.of upd_same, rfl, ?_⟩
  | refine And.intro ⟨_, rfl⟩ ?_
  | refine And.intro (by walk_at "sz") ?_))
/-- what is true of a heap stays true of a greater one -/
class Mo (P : Hp → Prop) : Prop where
  mo : ∀ {H H' : Hp}, Same H H' → P H → P H'
instance {a : Addr} {o : HO} : Mo (fun H => H a = some o) := ⟨fun e h => e _ _ h⟩
instance {K : PySem.W.Frag} {a : Addr} {xs : List V} : Mo (fun H => SqL K H a xs) := ⟨fun e h => e.seq h⟩
instance {K : PySem.W.Frag} {a : Addr} {xs : List V} : Mo (fun H => SqT K H a xs) := ⟨fun e h => Same.tup e h⟩
instance {H0 : Hp} : Mo (fun H => Same H0 H) := ⟨fun e h => h.trans e⟩
theorem al {H : Hp} {p : Addr} {o : HO} {H' : Hp} (n : H p = none) (e : upd H p o = H') : Same H H' ∧ H' p = some o := by
  subst e
  exact ⟨Same.new n, upd_same⟩
/-- an object of ours is changed -/
theorem chg {H : Hp} {p : Addr} {o : HO} {H' : Hp} (e : upd H p o = H') : H' p = some o ∧ ∀ b, b ≠ p → H' b = H b := by
  subst e
  exact ⟨upd_same, fun b hb => upd_ne hb⟩
def TupOf (H : Hp) (v : V) (xs : List V) : Prop := ∃ p, v = .ref p ∧ H p = some (.tup xs)
instance {v : V} {xs : List V} : Mo (fun H => TupOf H v xs) := ⟨fun e ⟨p, h1, h2⟩ => ⟨p, h1, e _ _ h2⟩⟩
/-- a list of data -/
def Lst {α : Type} (R : Hp → V → α → Prop) (H : Hp) (p : Addr) (xs : List α) : Prop := ∃ vs, H p = some (.lst vs) ∧ Paired (R H) vs xs
theorem pair_mo {α : Type} {R : Hp → V → α → Prop} [m : ∀ v x, Mo (fun H => R H v x)] {H H' : Hp} (e : Same H H') {vs : List V} {xs : List α} (h : Paired (R H) vs xs) : Paired (R H') vs xs := Paired.mapP h fun v x q => (m v x).mo e q
instance {α : Type} {R : Hp → V → α → Prop} [m : ∀ v x, Mo (fun H => R H v x)] {p : Addr} {xs : List α} : Mo (fun H => Lst R H p xs) := ⟨fun e ⟨vs, h1, h2⟩ => ⟨vs, e _ _ h1, pair_mo e h2⟩⟩
instance {α : Type} {R : Hp → V → α → Prop} [m : ∀ v x, Mo (fun H => R H v x)] {vs : List V} {xs : List α} : Mo (fun H => Paired (R H) vs xs) := ⟨fun e h => pair_mo e h⟩
theorem Paired.at {α β : Type} {F : α → β → Prop} : ∀ {l : List α} {m : List β} {i : Nat} {a : α}, Paired F l m → l[i]? = some a → ∃ b, m[i]? = some b ∧ F a b
  | _, _, _, _, .nil, e => by simp at e
  | _, _, 0, a, .cons r t, e => by
    simp at e
    subst e
    exact ⟨_, rfl, r⟩
  | _, _, i + 1, a, .cons r t, e => by
    obtain ⟨b, h1, h2⟩ := Paired.at (i := i) t (by simpa using e)
    exact ⟨b, by simpa using h1, h2⟩
theorem Paired.snoc1 {α β : Type} {F : α → β → Prop} {a : α} {b : β} (r : F a b) : ∀ {l : List α} {m : List β}, Paired F l m → Paired F (l ++ [a]) (m ++ [b])
  | _, _, .nil => .cons r .nil
  | _, _, .cons q t => .cons q (Paired.snoc1 r t)
theorem Paired.len {α β : Type} {F : α → β → Prop} {l : List α} {m : List β} (h : Paired F l m) : l.length = m.length := Paired.length h
/-! ### joint rows, the object, the table, the weight -/
def RowAt (H : Hp) (v : V) (r : Row) : Prop := TupOf H v [T r.1, T r.2.1, .bl r.2.2]
instance {v : V} {r : Row} : Mo (fun H => RowAt H v r) := ⟨fun e h => Mo.mo (P := fun H => TupOf H v [T r.1, T r.2.1, .bl r.2.2]) e h⟩
def JO (C : Addr) (rows : List Row) (H : Hp) (a : Addr) : Prop := ∃ (dx : Addr) (fs : List (Str × V)) (ra : Addr), H a = some (.ins C dx fs) ∧ fs.lookup ("readings" : Str) = some (.ref ra) ∧ fs.lookup ("decider" : Str) = none ∧ fs.lookup ("is_joint" : Str) = none ∧ Lst RowAt H ra rows
instance {C : Addr} {rows : List Row} {a : Addr} : Mo (fun H => JO C rows H a) := ⟨fun e ⟨dx, fs, ra, h1, h2, h3, h4, h5⟩ => ⟨dx, fs, ra, e _ _ h1, h2, h3, h4, Mo.mo (P := fun H => Lst RowAt H ra rows) e h5⟩⟩
def kt (l : List Nat) : Key := .inr ⟨l.toArray⟩
def kp (l r : Word) : List Key := [kt l, kt r]
theorem kp_map (l r : Word) : (kp l r).map kV = [T l, T r] := rfl
theorem kt_inj {a b : List Nat} (h : kt a = kt b) : a = b := T_inj (congrArg kV h)
theorem kp_inj {l r l' r' : Word} (h : kp l r = kp l' r') : l = l' ∧ r = r' := by
  unfold kp at h
  injection h with h1 h2
  injection h2 with h2 _
  exact ⟨kt_inj h1, kt_inj h2⟩
structure TabOk (rows : List Row) (ls : Word) (kvs : List (List Key × V)) : Prop where
  all : ∀ e ∈ kvs, ∃ l r, InTab ls (l, r) ∧ e = (kp l r, V.bl (jt rows l r))
  has : ∀ p, InTab ls p → ∃ v, (kp p.1 p.2, v) ∈ kvs
  len : kvs.length ≤ 2000
theorem TabOk.get {rows : List Row} {ls : Word} {kvs : List (List Key × V)} (t : TabOk rows ls kvs) {l r : Word} (h : InTab ls (l, r)) : valV kvs (kp l r) = some (.bl (jt rows l r)) := by
  unfold valV
  obtain ⟨v, hv⟩ := t.has _ h
  cases e : kvs.find? fun kv => decide (kv.1 = kp l r) with
  | none =>
    have := List.find?_eq_none.mp e _ hv
    simp at this
  | some kv =>
    have h1 := List.find?_some e
    obtain ⟨l', r', _, q⟩ := t.all kv (List.mem_of_find?_eq_some e)
    rw [q] at h1 ⊢
    have := kp_inj (of_decide_eq_true h1)
    rw [this.1, this.2]
    rfl
def TabAt (rows : List Row) (ls : Word) (H : Hp) (a : Addr) : Prop := ∃ kvs, H a = some (.dT kvs) ∧ TabOk rows ls kvs
instance {rows : List Row} {ls : Word} {a : Addr} : Mo (fun H => TabAt rows ls H a) := ⟨fun e ⟨k, h1, h2⟩ => ⟨k, e _ _ h1, h2⟩⟩
def WtAt (wt : Nat → Int) (ls : Word) (H : Hp) (a : Addr) : Prop := ∃ kvs, H a = some (.dK kvs) ∧ ∀ c ∈ ls, valV kvs (kt [c]) = some (.int (wt c))
instance {wt : Nat → Int} {ls : Word} {a : Addr} : Mo (fun H => WtAt wt ls H a) := ⟨fun e ⟨k, h1, h2⟩ => ⟨k, e _ _ h1, h2⟩⟩
/-- a fact over a greater heap -/
class MoR (H H' : Hp) (A : Prop) (B : outParam Prop) : Prop where
  mo : Same H H' → A → B
section
variable {H H' H0 : Hp}
instance {a : Addr} {o : HO} : MoR H H' (H a = some o) (H' a = some o) := ⟨fun e h => e _ _ h⟩
instance {K : PySem.W.Frag} {a : Addr} {xs : List V} : MoR H H' (SqL K H a xs) (SqL K H' a xs) := ⟨fun e h => e.seq h⟩
instance {K : PySem.W.Frag} {a : Addr} {xs : List V} : MoR H H' (SqT K H a xs) (SqT K H' a xs) := ⟨fun e h => Same.tup e h⟩
instance : MoR H H' (Same H0 H) (Same H0 H') := ⟨fun e h => h.trans e⟩
instance {v : V} {xs : List V} : MoR H H' (TupOf H v xs) (TupOf H' v xs) := ⟨fun e h => Mo.mo (P := fun H => TupOf H v xs) e h⟩
instance {α : Type} {R : Hp → V → α → Prop} [m : ∀ v x, Mo (fun H => R H v x)] {p : Addr} {xs : List α} : MoR H H' (Lst R H p xs) (Lst R H' p xs) := ⟨fun e h => Mo.mo (P := fun H => Lst R H p xs) e h⟩
instance {α : Type} {R : Hp → V → α → Prop} [m : ∀ v x, Mo (fun H => R H v x)] {vs : List V} {xs : List α} : MoR H H' (Paired (R H) vs xs) (Paired (R H') vs xs) := ⟨fun e h => pair_mo e h⟩
instance {v : V} {r : Row} : MoR H H' (RowAt H v r) (RowAt H' v r) := ⟨fun e h => Mo.mo (P := fun H => RowAt H v r) e h⟩
instance {C : Addr} {rows : List Row} {a : Addr} : MoR H H' (JO C rows H a) (JO C rows H' a) := ⟨fun e h => Mo.mo (P := fun H => JO C rows H a) e h⟩
instance {rows : List Row} {ls : Word} {a : Addr} : MoR H H' (TabAt rows ls H a) (TabAt rows ls H' a) := ⟨fun e h => Mo.mo (P := fun H => TabAt rows ls H a) e h⟩
instance {wt : Nat → Int} {ls : Word} {a : Addr} : MoR H H' (WtAt wt ls H a) (WtAt wt ls H' a) := ⟨fun e h => Mo.mo (P := fun H => WtAt wt ls H a) e h⟩
end
theorem dget_t {H : Hp} {a b : Addr} {kvs : List (List Key × V)} {k : List Key} {v : V} (e : H a = some (.dT kvs)) (eb : H b = some (.tup (k.map kV))) (h : valV kvs k = some v) : DGet H a (.ref b) (some v) := h ▸ DGet.t e eb
theorem dget_k {H : Hp} {a : Addr} {kvs : List (Key × V)} {k : List Nat} {v : V} (e : H a = some (.dK kvs)) (h : valV kvs (kt k) = some v) : DGet H a (T k) (some v) := h ▸ DGet.k (k := kt k) e
theorem at0 {α : Type} {x : α} {l : List α} : atI (x :: l) 0 = some x := atI_nat (j := 0) rfl
theorem at1 {α : Type} {x y : α} {l : List α} : atI (x :: y :: l) 1 = some y := atI_nat (j := 1) rfl
theorem at2 {α : Type} {x y z : α} {l : List α} : atI (x :: y :: z :: l) 2 = some z := atI_nat (j := 2) rfl
theorem line_ok {n : Nat} (h : n ≤ 10000000) : n ≤ sizeLine := by rw [sizeLine_eq]; omega
theorem line_lt {n : Nat} (h : n ≤ 10000000) : n < sizeLine := by rw [sizeLine_eq]; omega
end K33
set_option Elab.async false
set_option linter.all false
set_option maxRecDepth 100000
set_option maxHeartbeats 4000000
/-! lists that grow -/
namespace K33
open PySem PySem.Spec PyProof.Rows L2
local macro_rules | `(tactic| walk_at "sz") => `(tactic| first | exact Nat.zero_le _ | omega | (simp only [sizeLine_eq, cutL_to, cutL_from, cutL_mid, List.length_append, List.length_cons, List.length_nil, List.length_take, List.length_drop, List.length_map, List.length_dropLast]; omega) | decide | (refine Nat.le_trans (cutL_len _ _ _) ?_; simp only [sizeLine_eq, List.length_append, List.length_cons, List.length_nil, List.length_take, List.length_drop]; omega))
local macro_rules | `(tactic| walk_at "rd") => `(tactic| ((try dsimp only); repeat (first
  | refine ⟨_, rfl, ?_⟩
  | refine ⟨rfl, ?_⟩
  | refine ⟨_, _, rfl, rfl, ?_⟩
  | refine ⟨_, _, rfl, ?_⟩
  | refine ⟨_, _, rfl, SqT.of upd_same, rfl, ?_⟩
  | refine And.intro ⟨_, rfl⟩ ?_
  | refine And.intro (by walk_at "sz") ?_)))
local macro_rules | `(tactic| walk_at "rn") => `(tactic| repeat (first
  | refine ⟨_, rfl, ?_⟩
  | refine ⟨rfl, ?_⟩
  | refine ⟨_, _, rfl, rfl, ?_⟩
  | refine ⟨_, _, rfl, ?_⟩
  | refine ⟨_, _, rfl, SqT.of upd_same, rfl, ?_⟩
  | refine And.intro ⟨_, rfl⟩ ?_
  | refine And.intro (by walk_at "sz") ?_))
abbrev Ends0 (Q : VK) : Ends := { nx := fun _ H' => Q .non H', rt := Q }
/-- a value, all kept -/
abbrev RetV (v : V) (H : Hp) (Q : VK) : Prop := ∀ H', Same H H' → Q v H'
theorem retB {b c : Bool} {H H' : Hp} {Q : VK} (q : RetV (.bl b) H Q) (e : Same H H') (h : b = c) : Q (.bl c) H' := h ▸ q H' e
/-- true also when an object that is no tuple changes -/
class Tu (P : Hp → Prop) : Prop where
  mo : ∀ {H H' : Hp}, Same H H' → P H → P H'
  set : ∀ {H : Hp} {D : Addr} {o o' : HO}, H D = some o → (∀ xs, o ≠ .tup xs) → P H → P (upd H D o')
instance {v : V} {xs : List V} : Tu (fun H => TupOf H v xs) := ⟨fun e ⟨p, h1, h2⟩ => ⟨p, h1, e _ _ h2⟩, fun {H D o o'} hD n ⟨p, h1, h2⟩ => ⟨p, h1, by
  have : p ≠ D := fun z => by
    rw [z, hD] at h2
    exact n _ (Option.some.inj h2)
  rw [upd_ne this]
  exact h2⟩⟩
instance {v : V} {r : Row} : Tu (fun H => RowAt H v r) := ⟨fun e h => Tu.mo (P := fun H => TupOf H v [T r.1, T r.2.1, .bl r.2.2]) e h, fun hD n h => Tu.set (P := fun H => TupOf H v [T r.1, T r.2.1, .bl r.2.2]) hD n h⟩
instance {v w : V} : Tu (fun _ => v = w) := ⟨fun _ h => h, fun _ _ h => h⟩
/-- a text -/
def TxAt (_ : Hp) (v : V) (w : Word) : Prop := v = T w
instance {v : V} {w : Word} : Tu (fun H => TxAt H v w) := ⟨fun _ h => h, fun _ _ h => h⟩
instance {v : V} {w : Word} : Mo (fun H => TxAt H v w) := ⟨fun _ h => h⟩
/-- a pair of texts -/
def SitAt (H : Hp) (v : V) (g : Sit) : Prop := TupOf H v [T g.1, T g.2]
instance {v : V} {g : Sit} : Tu (fun H => SitAt H v g) := ⟨fun e h => Tu.mo (P := fun H => TupOf H v [T g.1, T g.2]) e h, fun hD n h => Tu.set (P := fun H => TupOf H v [T g.1, T g.2]) hD n h⟩
instance {v : V} {g : Sit} : Mo (fun H => SitAt H v g) := ⟨fun e h => Tu.mo (P := fun H => SitAt H v g) e h⟩
theorem paired_set {α : Type} {R : Hp → V → α → Prop} [m : ∀ v x, Tu (fun H => R H v x)] {H : Hp} {D : Addr} {o o' : HO} (hD : H D = some o) (n : ∀ xs, o ≠ .tup xs) {vs : List V} {xs : List α} (h : Paired (R H) vs xs) : Paired (R (upd H D o')) vs xs := Paired.mapP h fun v x q => (m v x).set hD n q
theorem paired_tu {α : Type} {R : Hp → V → α → Prop} [m : ∀ v x, Tu (fun H => R H v x)] {H H' : Hp} (e : Same H H') {vs : List V} {xs : List α} (h : Paired (R H) vs xs) : Paired (R H') vs xs := Paired.mapP h fun v x q => (m v x).mo e q
/-- the list at D grows: of xs the first i are there -/
def Lcp {α : Type} (R : Hp → V → α → Prop) (D : Addr) (H0 : Hp) (xs : List α) (i : Nat) (H : Hp) : Prop := ∃ acc, H D = some (.lst acc) ∧ Same H0 H ∧ Paired (R H) acc (xs.take i)
theorem lcp_zero {α : Type} {R : Hp → V → α → Prop} {D : Addr} {H0 : Hp} {xs : List α} (nD : H0 D = none) : Lcp R D H0 xs 0 (upd H0 D (.lst [])) := ⟨[], upd_same, Same.new nD, by rw [List.take_zero]; exact .nil⟩
theorem lst_no {vs : List V} : ∀ xs, HO.lst vs ≠ .tup xs := fun _ h => by cases h
theorem lcp_next {α : Type} {R : Hp → V → α → Prop} [m : ∀ v x, Tu (fun H => R H v x)] {D : Addr} {H0 H H4 : Hp} {xs : List α} {i : Nat} {y : V} {x : α} (nD : H0 D = none) (hs : xs.length ≤ 1000000) (c : Lcp R D H0 xs i H) (e : Same H H4) (hx : xs[i]? = some x) (r : R H4 y x) :
    ∃ acc, H4 D = some (.lst acc) ∧ acc.length < sizeLine ∧ Lcp R D H0 xs (i + 1) (upd H4 D (.lst (acc ++ [y]))) := by
  obtain ⟨acc, h1, h2, h3⟩ := c
  have hi : i < xs.length := (List.getElem?_eq_some_iff.mp hx).1
  have hl := Paired.len h3
  rw [List.length_take] at hl
  refine ⟨acc, e _ _ h1, line_lt (by omega), acc ++ [y], upd_same, Same.mut (h2.trans e) nD, ?_⟩
  rw [List.take_succ_eq_append_getElem hi, (List.getElem?_eq_some_iff.mp hx).2]
  exact paired_set (e _ _ h1) lst_no (Paired.snoc1 r (paired_tu e h3))
theorem lcp_end {α : Type} {R : Hp → V → α → Prop} {D : Addr} {H0 H : Hp} {xs : List α} {n : Nat} (hn : xs.length = n) (c : Lcp R D H0 xs n H) : Same H0 H ∧ Lst R H D xs := by
  obtain ⟨acc, h1, h2, h3⟩ := c
  subst hn
  rw [List.take_length] at h3
  exact ⟨h2, acc, h1, h3⟩
/-- append by hand -/
theorem lcp_app {α : Type} {R : Hp → V → α → Prop} [m : ∀ v x, Tu (fun H => R H v x)] {D : Addr} {H0 H H4 : Hp} {xs : List α} {i : Nat} {y : V} {x : α} {Q : VK} (nD : H0 D = none) (hs : xs.length ≤ 1000000) (c : Lcp R D H0 xs i H) (e : Same H H4) (hx : xs[i]? = some x) (r : R H4 y x)
    (q : ∀ H5, Lcp R D H0 xs (i + 1) H5 → Q .non H5) : rAppend (.ref D) [y] H4 Q := by
  obtain ⟨acc, h1, h2, h3⟩ := lcp_next nD hs c e hx r
  exact ⟨D, acc, y, rfl, rfl, h1, h2, q _ h3⟩
theorem tx_vs {H : Hp} : ∀ {vs : List V} {xs : List Word}, Paired (TxAt H) vs xs → vs = xs.map T
  | _, _, .nil => rfl
  | _, _, .cons (a := v) (b := w) r t => by rw [List.map_cons, ← tx_vs t, show v = T w from r]
theorem vs_tx {H : Hp} : ∀ xs : List Word, Paired (TxAt H) (xs.map T) xs
  | [] => .nil
  | x :: r => .cons rfl (vs_tx r)
/-- the turns of a comprehension -/
theorem turns {J : It} {n : Nat} {G : Hp → Prop} {Y : Nat → Hp → V → Hp → Prop} (w : Walk J n G Y) {H0 : Hp} {End : Hp → Prop} {B : V → Hp → (Hp → Prop) → Prop} (Pv : Nat → Hp → Prop) (h0 : Pv 0 H0) (hG : ∀ i H, i ≤ n → Pv i H → G H)
    (hs : ∀ i x H H', i < n → Pv i H → Y i H x H' → B x H' (Pv (i + 1))) (hd : ∀ H, Pv n H → End H) :
    ∃ W : Nat → Nat → Hp → Prop, (∃ m, W 0 m H0) ∧ ∀ i m H, W i m H → (J.stop i H ∧ End H) ∨ (J.go i H ∧ ∃ Nx : Hp → Prop, (∀ H', Nx H' → ∃ m', m' < m ∧ W (i + 1) m' H') ∧ ∀ x H', J.yld i H x H' → B x H' Nx) := by
  refine ⟨fun i m H => m = n - i ∧ i ≤ n ∧ Pv i H, ⟨n, rfl, Nat.zero_le _, h0⟩, ?_⟩
  rintro i m H ⟨rfl, hi, p⟩
  have q := hG i H hi p
  by_cases hlt : i < n
  · exact .inr ⟨w.goes i H hlt q, Pv (i + 1), fun H' p' => ⟨n - (i + 1), by omega, rfl, hlt, p'⟩, fun x H' y => hs i x H H' hlt p (w.yields i H x H' hlt q y)⟩
  · have e : i = n := by omega
    subst e
    exact .inl ⟨w.stops H q, hd H p⟩
theorem map_at {xs : List Word} {i : Nat} {v : V} (h : (xs.map T)[i]? = some v) : ∃ x, xs[i]? = some x ∧ v = T x := by
  rw [List.getElem?_map] at h
  cases e : xs[i]? with
  | none => rw [e] at h; cases h
  | some x =>
    rw [e] at h
    exact ⟨x, rfl, (Option.some.inj h).symm⟩
end K33
set_option Elab.async false
set_option linter.all false
set_option maxRecDepth 100000
set_option maxHeartbeats 4000000
/-! readings: joints -/
namespace K33
open PySem PySem.Spec PyProof.Rows L2
local macro_rules | `(tactic| walk_at "sz") => `(tactic| first | exact Nat.zero_le _ | omega | (simp only [sizeLine_eq, cutL_to, cutL_from, cutL_mid, List.length_append, List.length_cons, List.length_nil, List.length_take, List.length_drop, List.length_map, List.length_dropLast]; omega) | decide | (refine Nat.le_trans (cutL_len _ _ _) ?_; simp only [sizeLine_eq, List.length_append, List.length_cons, List.length_nil, List.length_take, List.length_drop]; omega))
local macro_rules | `(tactic| walk_at "rd") => `(tactic| ((try dsimp only); repeat (first
  | refine ⟨_, rfl, ?_⟩
  | refine ⟨rfl, ?_⟩
  | refine ⟨_, _, rfl, rfl, ?_⟩
  | refine ⟨_, _, rfl, ?_⟩
  | refine ⟨_, _, rfl, SqT.of upd_same, rfl, ?_⟩
  | refine And.intro ⟨_, rfl⟩ ?_
  | refine And.intro (by walk_at "sz") ?_)))
local macro_rules | `(tactic| walk_at "rn") => `(tactic| repeat (first
  | refine ⟨_, rfl, ?_⟩
  | refine ⟨rfl, ?_⟩
  | refine ⟨_, _, rfl, rfl, ?_⟩
  | refine ⟨_, _, rfl, ?_⟩
  | refine ⟨_, _, rfl, SqT.of upd_same, rfl, ?_⟩
  | refine And.intro ⟨_, rfl⟩ ?_
  | refine And.intro (by walk_at "sz") ?_))
theorem say_cons (a b : Word) {i : Nat} (ha : i < a.length) (hb : i < b.length) : sayB (a.drop i) (b.drop i) = ((a[i] == b[i] || (a[i] == 63 && b[i] != 46)) && sayB (a.drop (i + 1)) (b.drop (i + 1))) := by
  rw [List.drop_eq_getElem_cons ha, List.drop_eq_getElem_cons hb]
  rfl
theorem say_len : ∀ (a b : Word), a.length ≠ b.length → sayB a b = false
  | [], [], h => absurd rfl h
  | [], _ :: _, _ => rfl
  | _ :: _, [], _ => rfl
  | p :: ps, t :: ts, h => by
    show (_ && sayB ps ts) = false
    rw [say_len ps ts (by simpa using h), Bool.and_false]
def sp_stands_for : Sp := fun vs H Q _ => ∃ a b : Word, vs = [T a, T b] ∧ a.length ≤ 1000000 ∧ b.length ≤ 1000000 ∧ RetV (.bl (sayB a b)) H Q
theorem rd_stands_for {K : PySem.W.Frag} {vs : List V} {H : Hp} {Q : VK} {E : XK} (h : sp_stands_for vs H Q E) : t_stands_for K (Ends0 Q) (start ["part", "text", "char", "there"] vs) H := by
  obtain ⟨a, b, rfl, ha, hb, q⟩ := h
  unfold t_stands_for
  walk_at "rd"
  refine iteB (fun hc => ?_) (fun hc => ?_)
  · refine retB q (Same.refl H) (say_len a b fun e => ?_)
    rw [e] at hc
    simp at hc
  · have el : a.length = b.length := by
      have z : (a.length : Int) = b.length := by simpa using hc
      omega
    walk_at "rd"
    refine for_itp (fun i σ H' => ∃ x y, σ = [some (T a), some (T b), x, y] ∧ Same H H' ∧ sayB (a.drop i) (b.drop i) = sayB a b) ⟨none, none, rfl, Same.refl H, rfl⟩ ?_ ?_
    · rintro i T0 σ H' hi ⟨x, y, rfl, e, hs⟩ nT
      have hia : i < a.length := by simp at hi; omega
      have hib : i < b.length := by omega
      have ga : (⟨a.toArray⟩ : Str).cps.getD i 0 = a[i] := by simp [hia]
      have gb : (⟨b.toArray⟩ : Str).cps.getD i 0 = b[i] := by simp [hib]
      have e2 : Same H (upd H' T0 (.tup (fZipS ⟨a.toArray⟩ ⟨b.toArray⟩ i))) := e.trans (Same.new nT)
      rw [say_cons a b hia hib] at hs
      have ff : fZipS ⟨a.toArray⟩ ⟨b.toArray⟩ i = [T [a[i]], T [b[i]]] := by
        unfold fZipS
        rw [ga, gb]
      rw [ff] at e2 ⊢
      walk_at "rd"
      have bad : ∀ c : Bool, ((a[i] == b[i] || (a[i] == 63 && b[i] != 46)) = false) → Q (.bl false) (upd H' T0 (.tup [T [a[i]], T [b[i]]])) := fun _ hb => retB q e2 (by rw [← hs, hb, Bool.false_and])
      have good : (a[i] == b[i] || (a[i] == 63 && b[i] != 46)) = true → sayB (a.drop (i + 1)) (b.drop (i + 1)) = sayB a b := fun hg => by rw [← hs, hg, Bool.true_and]
      refine iteB (fun c1 => ?_) (fun c1 => ?_)
      · walk_at "rd"
        refine iteB (fun c2 => ?_) (fun c2 => ?_)
        · refine iteT ?_
          exact bad true (by simp at c1 c2; simp [c1, c2])
        · walk_at "rd"
          refine iteB (fun c3 => ?_) (fun c3 => ?_)
          · exact bad true (by simp at c1 c2 c3; simp [c1, c2, c3])
          · exact ⟨_, _, rfl, e2, good (by simp at c1 c2 c3; simp [c1, c2, c3])⟩
      · refine iteF ?_
        exact ⟨_, _, rfl, e2, good (by simp at c1; simp [c1])⟩
    · rintro σ H' ⟨x, y, rfl, e, hs⟩
      have hm : min (⟨a.toArray⟩ : Str).cps.size (⟨b.toArray⟩ : Str).cps.size = a.length := by simp; omega
      rw [hm, List.drop_of_length_le (Nat.le_refl _), List.drop_of_length_le (by omega)] at hs
      walk_at "rd"
      exact retB q e hs.symm

theorem cutL_fromI (z : List Nat) {i : Int} (h : 0 ≤ i) : cutL z (some i) none = z.drop i.toNat := by
  have e : i = (i.toNat : Int) := by omega
  rw [e, cutL_from]
  rfl
/-- what decider says of a gap -/
def DecOk (rows : List Row) (w : Word) (k : Nat) (v : V) : Prop :=
  (v = .non ∧ ∀ r ∈ rows, fitsB r w k = false) ∨ ∃ (i : Nat) (r : Row), v = .int (i : Int) ∧ rows[i]? = some r ∧ rows.find? (fun r => fitsB r w k) = some r
def sp_decider (C : Addr) : Sp := fun vs H Q _ => ∃ (a : Addr) (rows : List Row) (w : Word) (k : Nat), vs = [.ref a, T w, .int (k : Int)] ∧ JO C rows H a ∧ Short rows ∧ w.length ≤ 900000 ∧ k ≤ w.length ∧ ∀ v H', Same H H' → DecOk rows w k v → Q v H'
theorem find_take {α : Type} {p : α → Bool} {l : List α} {i : Nat} {x : α} (hx : l[i]? = some x) (hp : p x = true) (h : ∀ y ∈ l.take i, p y = false) : l.find? p = some x := by
  have e : l = l.take i ++ x :: l.drop (i + 1) := by
    obtain ⟨h1, h2⟩ := List.getElem?_eq_some_iff.mp hx
    rw [← h2, ← List.drop_eq_getElem_cons h1, List.take_append_drop]
  rw [e, List.find?_append, List.find?_cons, hp, List.find?_eq_none.mpr fun y hy => by rw [h y hy]; decide]
  rfl
theorem rd_decider {K : PySem.W.Frag} {C : Addr} (cl : Cls K C) (nr : NoAttr K C "readings") {vs : List V} {H : Hp} {Q : VK} {E : XK} (h : sp_decider C vs H Q E) :
    t_Joints_decider K sp_stands_for (Ends0 Q) (start ["self", "word", "gap", "before", "behind", "index", "left", "right", "forbids", "start"] vs) H := by
  obtain ⟨a, rows, w, k, rfl, hJ, hsh, hw, hk, q⟩ := h
  unfold t_Joints_decider
  obtain ⟨dx, fs, ra, o1, o2, o3, o4, vs, r1, r2⟩ := id hJ
  walk_at "rd"
  rw [cutL_to, cutL_from]
  refine ⟨_, C, dx, fs, _, rfl, o1, cl, nr, o2, ra, vs, rfl, SqL.of r1, ?_⟩
  have lb : ([46] ++ w.take k).length ≤ 900001 := by simp; omega
  have lh : (w.drop k ++ [46]).length ≤ 900001 := by simp; omega
  refine for_it walk_enum (fun i σ H' => ∃ x5 x6 x7 x8 x9, σ = [some (.ref a), some (T w), some (.int (k : Int)), some (T ([46] ++ w.take k)), some (T (w.drop k ++ [46])), x5, x6, x7, x8, x9] ∧ Same H H' ∧ ∀ r ∈ rows.take i, fitsB r w k = false)
    ⟨none, none, none, none, none, rfl, Same.refl H, fun r hr => by simp at hr⟩ (fun i σ H' _ ⟨_, _, _, _, _, _, e, _⟩ => e.seq (SqL.of r1)) ?_ ?_
  · rintro i v σ H1 H2 hi ⟨x5, x6, x7, x8, x9, rfl, e1, hf⟩ ⟨T0, x, y, rfl, nT, rfl, ex, ey⟩
    cases ex
    have e2 : Same H1 (upd H1 T0 (.tup [.int (i : Int), y])) := Same.new nT
    have hT : upd H1 T0 (.tup [.int (i : Int), y]) T0 = some (.tup [.int (i : Int), y]) := upd_same
    obtain ⟨r, hr, p, rfl, hp⟩ := Paired.at (pair_mo e1 r2) ey
    have hp2 := e2 _ _ hp
    have e3 := e1.trans e2
    generalize upd H1 T0 (.tup [.int (i : Int), .ref p]) = H2 at *
    have hl := hsh r (List.mem_of_getElem? hr)
    refine ⟨T0, _, rfl, SqT.of hT, rfl, _, _, rfl, _, _, rfl, p, _, rfl, SqT.of hp2, rfl, ?_⟩
    walk_at "rd"
    have nope : fitsB r w k = false → ∀ z ∈ rows.take (i + 1), fitsB z w k = false := fun h z hz => by
      have hi2 : i < rows.length := (List.getElem?_eq_some_iff.mp hr).1
      rw [List.take_succ_eq_append_getElem hi2, List.mem_append, List.mem_singleton] at hz
      rcases hz with hz | hz
      · exact hf z hz
      · rw [hz, (List.getElem?_eq_some_iff.mp hr).2]; exact h
    refine iteB (fun c1 => ?_) (fun c1 => ?_)
    · have c1' := of_decide_eq_true c1
      walk_at "rd"
      intro H4 e4
      have e3 := MoR.mo e4 e3
      have hT := MoR.mo e4 hT
      have hp2 := MoR.mo e4 hp2
      walk_at "rd"
      rw [cutL_fromI _ c1']
      have eL : leftB r.1 w k = sayB r.1 (([46] ++ w.take k).drop ((([46] ++ w.take k).length : Int) - (r.1.length : Int)).toNat) := by
        unfold leftB
        rw [decide_eq_true (show r.1.length ≤ (46 :: w.take k).length by have := c1'; simp at this ⊢; omega), Bool.true_and]
        congr 2
        simp
      rw [← eL]
      refine iteB (fun c2 => ?_) (fun c2 => ?_)
      · walk_at "rd"
        rw [cutL_to]
        intro H5 e5
        have e3 := MoR.mo e5 e3
        have hT := MoR.mo e5 hT
        have hp2 := MoR.mo e5 hp2
        walk_at "rd"
        refine iteB (fun c3 => ?_) (fun c3 => ?_)
        · walk_at "rd"
          refine q _ _ e3 (.inr ⟨i, r, rfl, hr, find_take hr ?_ hf⟩)
          unfold fitsB
          rw [c2]
          exact c3
        · exact ⟨_, _, _, _, _, rfl, e3, nope (by unfold fitsB; rw [c2]; exact c3)⟩
      · refine iteF ?_
        exact ⟨_, _, _, _, _, rfl, e3, nope (by unfold fitsB; rw [c2]; rfl)⟩
    · refine iteF ?_
      refine ⟨_, _, _, _, _, rfl, e3, nope ?_⟩
      unfold fitsB leftB
      rw [decide_eq_false (show ¬ r.1.length ≤ (46 :: w.take k).length by have := of_decide_eq_false c1; simp at this ⊢; omega)]
      rfl
  · rintro σ H' ⟨x5, x6, x7, x8, x9, rfl, e, hf⟩
    refine q _ _ e (.inl ⟨rfl, ?_⟩)
    have := Paired.len r2
    rw [this, List.take_length] at hf
    exact hf

def sp_is_joint (C : Addr) : Sp := fun vs H Q _ => ∃ (a : Addr) (rows : List Row) (w : Word) (k : Nat), vs = [.ref a, T w, .int (k : Int)] ∧ JO C rows H a ∧ Short rows ∧ w.length ≤ 900000 ∧ k ≤ w.length ∧ RetV (.bl (jointB rows w k)) H Q
theorem rd_is_joint {K : PySem.W.Frag} {C : Addr} (cl : Cls K C) (nr : NoAttr K C "readings") {vs : List V} {H : Hp} {Q : VK} {E : XK} (h : sp_is_joint C vs H Q E) :
    t_Joints_is_joint K C (sp_decider C) (Ends0 Q) (start ["self", "word", "gap", "index"] vs) H := by
  obtain ⟨a, rows, w, k, rfl, hJ, hsh, hw, hk, q⟩ := h
  unfold t_Joints_is_joint
  obtain ⟨dx, fs, ra, o1, o2, o3, o4, vs, r1, r2⟩ := id hJ
  refine ⟨_, rfl, a, dx, fs, rfl, o1, o3, ?_⟩
  walk_at "rd"
  refine ⟨a, rows, w, k, rfl, hJ, hsh, hw, hk, fun v H1 e1 hd => ?_⟩
  have o1 := MoR.mo e1 o1
  have r1 := MoR.mo e1 r1
  have r2 := MoR.mo e1 r2
  rcases hd with ⟨rfl, hn⟩ | ⟨i, r, rfl, hr, hf⟩
  · walk_at "rd"
    refine iteF ?_
    refine retB q e1 ?_
    unfold jointB
    rw [List.find?_eq_none.mpr fun x hx => by rw [hn x hx]; decide]
  · walk_at "rd"
    have hi : i < vs.length := by
      have := (List.getElem?_eq_some_iff.mp hr).1
      have := Paired.len r2
      omega
    obtain ⟨r', hr', p, ev, hp⟩ := Paired.at r2 (List.getElem?_eq_getElem hi)
    rw [hr] at hr'
    cases hr'
    refine ⟨_, C, dx, fs, _, rfl, o1, cl, nr, o2, _, rfl, _, _, _, _, rfl, rfl, SqL.of r1, atI_nat (List.getElem?_eq_getElem hi), p, _, _, _, ev, rfl, SqT.of hp, at2, ?_⟩
    walk_at "rd"
    refine retB q e1 ?_
    unfold jointB
    rw [hf]
/-! ### reading the rows -/
structure PartOk (z : Word) (d : Int) : Prop where
  len : z.length ≤ 3
  at_ : ∀ (i : Nat) (h : i < z.length), z[i] ∈ abc ∨ z[i] = 63 ∨ (z[i] = 46 ∧ (i : Int) = d)
def sp_is_part : Sp := fun vs H Q _ => ∃ (z : Word) (d : Int), vs = [T z, .int d] ∧ PartOk z d ∧ RetV (.bl true) H Q
theorem rd_is_part {K : PySem.W.Frag} {vs : List V} {H : Hp} {Q : VK} {E : XK} (h : sp_is_part vs H Q E) : t_is_part K (Ends0 Q) (start ["text", "dot", "at", "char"] vs) H := by
  obtain ⟨z, d, rfl, ⟨hl, ha⟩, q⟩ := h
  unfold t_is_part
  walk_at "rd"
  refine iteB (fun c => absurd (of_decide_eq_true c) (by omega)) (fun _ => ?_)
  walk_at "rd"
  refine for_itp (fun i σ H' => ∃ x y, σ = [some (T z), some (.int d), x, y] ∧ Same H H') ⟨none, none, rfl, Same.refl H⟩ ?_ ?_
  · rintro i T0 σ H' hi ⟨x, y, rfl, e⟩ nT
    have hi2 : i < z.length := by simpa using hi
    have e2 : Same H (upd H' T0 (.tup (fEnumS ⟨z.toArray⟩ i))) := e.trans (Same.new nT)
    have ff : fEnumS ⟨z.toArray⟩ i = [.int (i : Int), T [z[i]]] := by
      unfold fEnumS
      simp [hi2]
    rw [ff] at e2 ⊢
    walk_at "rd"
    have hz := ha i hi2
    refine iteB (fun c1 => ?_) (fun c1 => ?_)
    · walk_at "rd"
      refine iteB (fun c2 => ?_) (fun c2 => ?_)
      · walk_at "rd"
        refine iteB (fun c3 => ?_) (fun c3 => ?_)
        · exfalso
          simp at c1 c2 c3
          rcases hz with hz | hz | ⟨hz, _⟩
          · exact c1 hz
          · exact c2 hz
          · exact c3 hz
        · walk_at "rd"
          refine iteB (fun c4 => ?_) (fun c4 => ?_)
          · exfalso
            simp at c1 c2 c4
            rcases hz with hz | hz | ⟨_, hz⟩
            · exact c1 hz
            · exact c2 hz
            · exact c4 hz
          · exact ⟨_, _, rfl, e2⟩
      · refine iteF ?_
        exact ⟨_, _, rfl, e2⟩
    · refine iteF ?_
      exact ⟨_, _, rfl, e2⟩
  · rintro σ H' ⟨x, y, rfl, e⟩
    exact q _ e
def written (r : Row) : Word := if r.2.2 = true then r.1 ++ [45] ++ r.2.1 ++ [32, 110, 111] else r.1 ++ [45] ++ r.2.1
structure RowOk (r : Row) : Prop where
  l : PartOk r.1 0
  r : PartOk r.2.1 (r.2.1.length - 1)
theorem part_no {z : Word} {d : Int} (h : PartOk z d) {c : Nat} (hc : c ∉ abc) (h1 : c ≠ 63) (h2 : c ≠ 46) : c ∉ z := fun m => by
  obtain ⟨i, hi, rfl⟩ := List.getElem_of_mem m
  rcases h.at_ i hi with z1 | z1 | ⟨z1, _⟩
  · exact hc z1
  · exact h1 z1
  · exact h2 z1
theorem cutL_toM (z : List Nat) (k : Nat) (hk : 0 < k) : cutL z none (some (-(k : Int))) = z.take (z.length - k) := by
  unfold cutL
  rw [HT.sIx_none, List.drop_zero, Nat.sub_zero]
  have e : HT.sIx z.length z.length (some (-(k : Int))) = (-(k : Int) + (z.length : Int)).toNat := if_pos (by omega)
  rw [e]
  congr 1
  omega
def sp_read_joint : Sp := fun vs H Q _ => ∃ r : Row, vs = [T (written r)] ∧ RowOk r ∧ ∀ v H', Same H H' → RowAt H' v r → Q v H'
theorem rd_read_joint {K : PySem.W.Frag} {vs : List V} {H : Hp} {Q : VK} {E : XK} (h : sp_read_joint vs H Q E) : t_read_joint K sp_is_part (Ends0 Q) (start ["line", "text", "forbids", "left", "right"] vs) H := by
  obtain ⟨⟨l, r, f⟩, rfl, ⟨hl, hr⟩, q⟩ := h
  simp only at hl hr
  have e1 := part_no hl (c := 45) (by decide) (by decide) (by decide)
  have e2 := part_no hr (c := 45) (by decide) (by decide) (by decide)
  have e3 := part_no hl (c := 32) (by decide) (by decide) (by decide)
  have e4 := part_no hr (c := 32) (by decide) (by decide) (by decide)
  have l1 := hl.len
  have l2 := hr.len
  have key : ∀ (H1 : Hp) (x : Option V), Same H H1 → tMatch2 K (tM1 rSplit2 (tVar 1) (tC (T [45]))) 3 4
    (tIfS (tAnd (tB (tCall sp_is_part [] E0 (tCons (tVar 3) (tCons (tC (.int 0)) tNil)))) (tB (tCall sp_is_part [] E0 (tCons (tVar 4) (tCons (tOp (rI0 fun i j => .int (i - j)) (tCB rLenT (tCons (tVar 4) tNil)) (tC (.int 1))) tNil)))))
    (tRet (tTup (tCons (tVar 3) (tCons (tVar 4) (tCons (tVar 2) tNil)))))
    tNext) { nx := tNever (Ends0 Q), rt := Q } [x, some (T (l ++ 45 :: r)), some (.bl f), none, none] H1 := by
    intro H1 x e0
    refine ⟨_, rfl, ⟨_, rfl⟩, l, r, rfl, rfl, e1, e2, by omega, ?_⟩
    intro p np
    generalize hh_p : upd _ p _ = H2
    obtain ⟨e5, hp⟩ := al np hh_p
    clear hh_p
    refine ⟨p, _, _, rfl, SqL.of hp, ?_⟩
    walk_at "rd"
    intro H3 e6
    walk_at "rd"
    intro H4 e7
    walk_at "rd"
    intro p2 np2
    generalize hh_p2 : upd _ p2 _ = H5
    obtain ⟨e8, hp2⟩ := al np2 hh_p2
    clear hh_p2
    exact q _ _ (((e0.trans e5).trans e6).trans (e7.trans e8)) ⟨p2, rfl, hp2⟩
  unfold t_read_joint
  generalize tMatch2 K _ 3 4 _ = M at key ⊢
  walk_at "rd"
  cases f with
  | true =>
    have w1 : written (l, r, true) = l ++ [45] ++ r ++ [32, 110, 111] := rfl
    have w2 : endsB (written (l, r, true)) [32, 110, 111] = true := by
      rw [w1]
      unfold endsB
      rw [decide_eq_true (by simp only [List.length_append, List.length_cons, List.length_nil]; omega), List.drop_append_of_le_length (by simp only [List.length_append, List.length_cons, List.length_nil]; omega), List.drop_of_length_le (by simp only [List.length_append, List.length_cons, List.length_nil]; omega)]
      rfl
    rw [w2]
    refine iteT ?_
    have w3 : cutL (written (l, r, true)) none (some (-3)) = l ++ 45 :: r := by
      have := cutL_toM (written (l, r, true)) 3 (by decide)
      rw [show (-(3 : Nat) : Int) = -3 from rfl] at this
      rw [this, w1, List.take_append_of_le_length (by simp only [List.length_append, List.length_cons, List.length_nil]; omega), List.take_of_length_le (by simp only [List.length_append, List.length_cons, List.length_nil]; omega)]
      simp
    walk_at "rd"
    refine ⟨by rw [w1]; walk_at "sz", ?_⟩
    walk_at "rd"
    rw [w3]
    exact key H _ (Same.refl H)
  | false =>
    have w1 : written (l, r, false) = l ++ 45 :: r := by
      show l ++ [45] ++ r = _
      simp
    have w2 : endsB (written (l, r, false)) [32, 110, 111] = false := by
      rw [w1]
      unfold endsB
      rw [Bool.and_eq_false_iff]
      right
      refine Bool.eq_false_iff.mpr fun z => ?_
      have z2 : (32 : Nat) ∈ (l ++ 45 :: r).drop ((l ++ 45 :: r).length - 3) := by
        have z1 : (l ++ 45 :: r).drop ((l ++ 45 :: r).length - 3) = [32, 110, 111] := beq_iff_eq.mp z
        rw [z1]
        decide
      have z3 := List.mem_of_mem_drop z2
      rcases List.mem_append.mp z3 with y | y
      · exact e3 y
      · rcases List.mem_cons.mp y with y | y
        · cases y
        · exact e4 y
    rw [w2]
    refine iteF ?_
    walk_at "rd"
    rw [w1]
    exact key H _ (Same.refl H)
end K33
set_option Elab.async false
set_option linter.all false
set_option maxRecDepth 100000
set_option maxHeartbeats 4000000
/-! readings: the object, the sides, the table -/
namespace K33
open PySem PySem.Spec PyProof.Rows L2
local macro_rules | `(tactic| walk_at "sz") => `(tactic| first | exact Nat.zero_le _ | omega | (simp only [sizeLine_eq, cutL_to, cutL_from, cutL_mid, List.length_append, List.length_cons, List.length_nil, List.length_take, List.length_drop, List.length_map, List.length_dropLast]; omega) | decide | (refine Nat.le_trans (cutL_len _ _ _) ?_; simp only [sizeLine_eq, List.length_append, List.length_cons, List.length_nil, List.length_take, List.length_drop]; omega))
local macro_rules | `(tactic| walk_at "rd") => `(tactic| ((try dsimp only); repeat (first
  | refine ⟨_, rfl, ?_⟩
  | refine ⟨rfl, ?_⟩
  | refine ⟨_, _, rfl, rfl, ?_⟩
  | refine ⟨_, _, rfl, ?_⟩
  | refine ⟨_, _, rfl, SqT.of upd_same, rfl, ?_⟩
  | refine And.intro ⟨_, rfl⟩ ?_
  | refine And.intro (by walk_at "sz") ?_)))
local macro_rules | `(tactic| walk_at "rn") => `(tactic| repeat (first
  | refine ⟨_, rfl, ?_⟩
  | refine ⟨rfl, ?_⟩
  | refine ⟨_, _, rfl, rfl, ?_⟩
  | refine ⟨_, _, rfl, ?_⟩
  | refine ⟨_, _, rfl, SqT.of upd_same, rfl, ?_⟩
  | refine And.intro ⟨_, rfl⟩ ?_
  | refine And.intro (by walk_at "sz") ?_))
def sp_init (C : Addr) : Sp := fun vs H Q _ => ∃ (a dx la : Addr) (rows : List Row), vs = [.ref a, .ref la] ∧ H a = some (.ins C dx []) ∧ Lst TxAt H la (rows.map written) ∧ (∀ r ∈ rows, RowOk r) ∧ rows.length ≤ 8 ∧ ∀ H', (∀ b o, b ≠ a → H b = some o → H' b = some o) → JO C rows H' a → Q .non H'
theorem rd_init {K : PySem.W.Frag} {C : Addr} (cl : Cls K C) (nr : NoAttr K C "readings") (nl : NoAttr K C "lines") (M : ∃ mc u, ClX.CRead K C mc ∧ ClX.CVal K C mc "MOST" (.int 8) u) {vs : List V} {H : Hp} {Q : VK} {E : XK} (h : sp_init C vs H Q E) :
    t_Joints_init K C sp_read_joint (Ends0 Q) (start ["self", "lines", "line"] vs) H := by
  obtain ⟨a, dx, la, rows, rfl, ha, ⟨vs, hl, hp⟩, hok, h8, q⟩ := h
  have ev := tx_vs hp
  have lv : vs.length = rows.length := by rw [ev]; simp
  obtain ⟨mc, u, m1, m2⟩ := M
  have hne : la ≠ a := fun e => by rw [e, ha] at hl; cases hl
  unfold t_Joints_init
  walk_at "rd"
  refine ⟨_, vs, rfl, .inl (SqL.of hl), ?_⟩
  refine ⟨C, mc, _, u, rfl, m1, m2, ?_⟩
  walk_at "rd"
  refine iteB (fun c => absurd (of_decide_eq_true c) (by omega)) (fun _ => ?_)
  walk_at "rd"
  refine ⟨⟨_, SqL.of hl⟩, ?_⟩
  intro D nD
  refine turns walk_list (Lcp RowAt D H rows) (lcp_zero nD) (fun i H' _ ⟨_, _, e, _⟩ => SqL.of (e _ _ hl)) ?_ ?_
  · rintro i x H1 H2 hi c ⟨rfl, hx⟩
    rw [ev, List.map_map, List.getElem?_map] at hx
    have hi2 : i < rows.length := by omega
    rw [List.getElem?_eq_getElem hi2] at hx
    cases hx
    walk_at "rd"
    refine ⟨hok _ (List.getElem_mem hi2), fun v H3 e3 r => ?_⟩
    exact lcp_next nD (by omega) c e3 (List.getElem?_eq_getElem hi2) r
  · intro H1 c
    obtain ⟨e1, c1⟩ := lcp_end lv.symm c
    have a1 := e1 _ _ ha
    have l1 := e1 _ _ hl
    have hD : D ≠ a := fun e => by rw [e, ha] at nD; cases nD
    refine ⟨_, rfl, a, C, dx, _, rfl, a1, cl, nr, by decide, ?_⟩
    walk_at "rd"
    refine ⟨_, vs, rfl, .inl (SqL.of (by rw [upd_ne hne]; exact l1)), fun p np => ?_⟩
    have hpa : p ≠ a := fun e => by rw [e, upd_same] at np; cases np
    have np1 : H1 p = none := by rw [upd_ne hpa] at np; exact np
    refine ⟨_, rfl, a, C, dx, _, rfl, by rw [upd_ne (Ne.symm hpa)]; exact upd_same, cl, nl, by show (1 : Nat) < 1000; decide, ?_⟩
    refine q _ (fun b o hb e => ?_) ?_
    · rw [upd_ne hb, upd_ne (fun z => ?_), upd_ne hb]
      · exact e1 _ _ e
      · rw [z] at e
        rw [e1 _ _ e] at np1
        cases np1
    · obtain ⟨zs, z1, z2⟩ := c1
      have np2 : p ≠ D := fun z => by rw [z, z1] at np1; cases np1
      refine ⟨dx, _, D, upd_same, rfl, rfl, rfl, zs, ?_, ?_⟩
      · rw [upd_ne hD, upd_ne (Ne.symm np2), upd_ne hD]
        exact z1
      · refine Paired.mapP z2 fun v r ⟨y, y1, y2⟩ => ⟨y, y1, ?_⟩
        have n1 : y ≠ a := fun z => by rw [z, a1] at y2; cases y2
        have n2 : y ≠ p := fun z => by rw [z, np1] at y2; cases y2
        rw [upd_ne n1, upd_ne n2, upd_ne n1]
        exact y2
/-! ### the sides -/
def sp_sides : Sp := fun vs H Q _ => ∃ ls : Word, vs = [T ls] ∧ ls.length ≤ 3 ∧ ∀ p H', Same H H' → Lst TxAt H' p (sidesL ls) → Q (.ref p) H'
theorem rd_sides {K : PySem.W.Frag} {vs : List V} {H : Hp} {Q : VK} {E : XK} (h : sp_sides vs H Q E) : t_sides K (Ends0 Q) (start ["letters", "found", "longest", "turn", "text", "letter"] vs) H := by
  obtain ⟨ls, rfl, h3, q⟩ := h
  unfold t_sides
  walk_at "rd"
  intro p np
  generalize hh_p : upd _ p _ = H1
  obtain ⟨e1, hp⟩ := al np hh_p
  clear hh_p
  walk_at "rd"
  intro p2 np2
  generalize hh_p2 : upd _ p2 _ = H2
  obtain ⟨e2, hp2⟩ := al np2 hh_p2
  clear hh_p2
  walk_at "rd"
  refine for_range (fun i σ H' => ∃ fa la x, σ = [some (T ls), some (.ref fa), some (.ref la), x, none, none] ∧ Same H H' ∧ Lst TxAt H' fa (fnd ls i) ∧ Lst TxAt H' la (lng ls i)) ⟨p, p2, none, rfl, e1.trans e2, ⟨_, e2 _ _ hp, .nil⟩, ⟨_, hp2, .cons rfl .nil⟩⟩ ?_ ?_
  · rintro i σ H3 hi ⟨fa, la, x, rfl, e3, ⟨fs, f1, f2⟩, ⟨as, a1, a2⟩⟩
    have ef := tx_vs f2
    have ea := tx_vs a2
    have lf := len_fnd h3 i (by have : i < 3 := hi; omega)
    have lg := len_lng h3 i
    have lg1 := len_lng h3 (i + 1)
    have p3 : 3 ^ i ≤ 9 := by
      have : i < 3 := hi
      rcases (show i = 0 ∨ i = 1 ∨ i = 2 by omega) with z | z | z <;> rw [z] <;> decide
    have p4 : 3 ^ (i + 1) ≤ 27 := by rw [Nat.pow_succ]; omega
    have leA : as.length = (lng ls i).length := by rw [ea]; simp
    walk_at "rd"
    refine ⟨⟨_, SqL.of a1⟩, ?_⟩
    intro D nD
    refine turns walk_list (fun j => Lcp TxAt D H3 (lng ls (i + 1)) (j * ls.length)) (by rw [Nat.zero_mul]; exact lcp_zero nD) (fun j H' _ ⟨_, _, e, _⟩ => SqL.of (e _ _ a1)) ?_ ?_
    · rintro j y H4 H5 hj c ⟨rfl, hy⟩
      rw [ea] at hy
      obtain ⟨t, ht, rfl⟩ := map_at hy
      have tl := lng_word (List.mem_of_getElem? ht)
      walk_at "rd"
      refine turns walk_str (fun k => Lcp TxAt D H3 (lng ls (i + 1)) (j * ls.length + k)) c (fun _ _ _ _ => trivial) ?_ ?_
      · rintro k z H6 H7 hk c6 ⟨rfl, d, hd, rfl⟩
        have hk2 : k < ls.length := by simpa using hk
        have hd2 : ls[k]? = some d := by simpa using hd
        walk_at "rd"
        refine lcp_next nD (by omega) c6 (Same.refl _) (x := t ++ [d]) ?_ rfl
        have hm : ∀ (ts : List Word) (j : Nat) (t : Word), ts[j]? = some t → (ext ls ts)[j * ls.length + k]? = some (t ++ [d]) := by
          intro ts
          induction ts with
          | nil => intro j t h; simp at h
          | cons a r ih =>
            intro j t h
            unfold ext at ih ⊢
            rw [List.flatMap_cons]
            cases j with
            | zero =>
              simp at h
              subst h
              rw [Nat.zero_mul, Nat.zero_add, List.getElem?_append_left (by simpa using hk2), List.getElem?_map, hd2]
              rfl
            | succ j =>
              rw [List.getElem?_append_right (by rw [List.length_map, Nat.succ_mul]; omega), List.length_map]
              have := ih j t (by simpa using h)
              rw [← this]
              congr 1
              rw [Nat.succ_mul]
              omega
        exact hm (lng ls i) j t ht
      · intro H6 c6
        have hz : (⟨ls.toArray⟩ : Str).cps.size = ls.length := by simp
        rw [hz] at c6
        rw [Nat.succ_mul]
        exact c6
    · intro H4 c
      have le : (lng ls (i + 1)).length = as.length * ls.length := by
        rw [leA]
        exact len_ext ls (lng ls i)
      obtain ⟨e4, hD⟩ := lcp_end le c
      obtain ⟨ds, d1, d2⟩ := hD
      have ed := tx_vs d2
      walk_at "rd"
      refine ⟨_, _, fs, ds, rfl, rfl, e4 _ _ f1, d1, by rw [ef, ed]; walk_at "sz", ?_⟩
      intro p5 np5
      generalize hh_p5 : upd _ p5 _ = H5
      obtain ⟨e5, hp5⟩ := al np5 hh_p5
      clear hh_p5
      refine ⟨p5, D, _, rfl, (e3.trans e4).trans e5, ⟨_, hp5, ?_⟩, ⟨ds, e5 _ _ d1, paired_tu e5 d2⟩⟩
      rw [ef, ed, ← List.map_append]
      exact vs_tx _
  · rintro σ H3 ⟨fa, la, x, rfl, e3, hf, _⟩
    walk_at "rd"
    exact q _ _ e3 hf
/-! ### the table -/
theorem mem_putK {κ : Type} [DecidableEq κ] {kvs : List (κ × V)} {k : κ} {v : V} {e : κ × V} (h : e ∈ putK kvs k v) : e ∈ kvs ∨ e = (k, v) := by
  unfold putK at h
  by_cases c : (kvs.any fun kv => decide (kv.1 = k)) = true
  · rw [if_pos c] at h
    obtain ⟨a, ha, rfl⟩ := List.mem_map.mp h
    by_cases z : a.1 = k
    · rw [if_pos z, z]; exact .inr rfl
    · rw [if_neg z]; exact .inl ha
  · rw [if_neg c] at h
    rcases List.mem_append.mp h with z | z
    · exact .inl z
    · exact .inr (List.mem_singleton.mp z)
theorem has_putK {κ : Type} [DecidableEq κ] {kvs : List (κ × V)} {k k' : κ} {v : V} (h : (∃ x, (k', x) ∈ kvs) ∨ k' = k) : ∃ x, (k', x) ∈ putK kvs k v := by
  unfold putK
  by_cases c : (kvs.any fun kv => decide (kv.1 = k)) = true
  · rw [if_pos c]
    rcases h with ⟨x, hx⟩ | rfl
    · by_cases z : k' = k
      · exact ⟨v, List.mem_map.mpr ⟨_, hx, if_pos z⟩⟩
      · exact ⟨x, List.mem_map.mpr ⟨_, hx, if_neg z⟩⟩
    · obtain ⟨a, ha, z⟩ := List.any_eq_true.mp c
      have z2 := of_decide_eq_true z
      exact ⟨v, List.mem_map.mpr ⟨a, ha, by rw [if_pos z2, z2]⟩⟩
  · rw [if_neg c]
    rcases h with ⟨x, hx⟩ | rfl
    · exact ⟨x, List.mem_append_left _ hx⟩
    · exact ⟨v, List.mem_append_right _ (List.mem_singleton.mpr rfl)⟩
theorem putK_le {κ : Type} [DecidableEq κ] (c : List (κ × V)) (k : κ) (x : V) : (putK c k x).length ≤ c.length + 1 := by
  unfold putK
  by_cases e : (c.any fun kv => decide (kv.1 = k)) = true
  · rw [if_pos e, List.length_map]
    omega
  · rw [if_neg e, List.length_append]
    simp
structure TP (rows : List Row) (ls : Word) (i j : Nat) (kvs : List (List Key × V)) : Prop where
  all : ∀ e ∈ kvs, ∃ l r, InTab ls (l, r) ∧ e = (kp l r, V.bl (jt rows l r))
  has : ∀ a b l r, (sidesL ls)[a]? = some l → (sidesL ls)[b]? = some r → (a < i ∨ (a = i ∧ b < j)) → ∃ v, (kp l r, v) ∈ kvs
  len : kvs.length ≤ i * 39 + j
theorem TP.put {rows : List Row} {ls l r : Word} {i j : Nat} {kvs : List (List Key × V)} (t : TP rows ls i j kvs) (hl : (sidesL ls)[i]? = some l) (hr : (sidesL ls)[j]? = some r) : TP rows ls i (j + 1) (putK kvs (kp l r) (.bl (jt rows l r))) where
  all := fun e he => by
    rcases mem_putK he with z | z
    · exact t.all e z
    · exact ⟨l, r, ⟨List.mem_of_getElem? hl, List.mem_of_getElem? hr⟩, z⟩
  has := fun a b l' r' ha hb hc => by
    refine has_putK ?_
    by_cases z : a = i ∧ b = j
    · right
      rw [z.1, hl] at ha
      rw [z.2, hr] at hb
      rw [← Option.some.inj ha, ← Option.some.inj hb]
    · left
      exact t.has a b l' r' ha hb (by omega)
  len := by have := putK_le kvs (kp l r) (.bl (jt rows l r)); have := t.len; omega
theorem TP.row {rows : List Row} {ls : Word} {i : Nat} {kvs : List (List Key × V)} (h3 : (sidesL ls).length ≤ 39) (t : TP rows ls i (sidesL ls).length kvs) : TP rows ls (i + 1) 0 kvs where
  all := t.all
  has := fun a b l r ha hb hc => t.has a b l r ha hb (by have := (List.getElem?_eq_some_iff.mp hb).1; omega)
  len := by have := t.len; omega
theorem TP.ok {rows : List Row} {ls : Word} {kvs : List (List Key × V)} (h3 : (sidesL ls).length ≤ 39) (t : TP rows ls (sidesL ls).length 0 kvs) : TabOk rows ls kvs where
  all := t.all
  has := fun p hp => by
    obtain ⟨a, ha, ea⟩ := List.getElem_of_mem hp.1
    obtain ⟨b, hb, eb⟩ := List.getElem_of_mem hp.2
    exact t.has a b p.1 p.2 (by rw [List.getElem?_eq_getElem ha, ea]) (by rw [List.getElem?_eq_getElem hb, eb]) (.inl ha)
  len := by have := t.len; omega
def TabI (rows : List Row) (ls : Word) (D : Addr) (H0 : Hp) (i j : Nat) (H : Hp) : Prop := ∃ kvs, H D = some (.dT kvs) ∧ Same H0 H ∧ TP rows ls i j kvs
def sp_joint_table (C : Addr) : Sp := fun vs H Q _ => ∃ (a : Addr) (rows : List Row) (ls : Word), vs = [.ref a, T ls] ∧ JO C rows H a ∧ Short rows ∧ ls.length ≤ 3 ∧ ∀ p H', Same H H' → TabAt rows ls H' p → Q (.ref p) H'
theorem rd_joint_table {K : PySem.W.Frag} {C : Addr} {vs : List V} {H : Hp} {Q : VK} {E : XK} (h : sp_joint_table C vs H Q E) :
    t_joint_table K C sp_sides (sp_is_joint C) (Ends0 Q) (start ["joints", "letters", "around", "left", "right"] vs) H := by
  obtain ⟨a, rows, ls, rfl, hJ, hsh, h3, q⟩ := h
  have l39 : (sidesL ls).length ≤ 39 := len_fnd h3 3 (Nat.le_refl 3)
  unfold t_joint_table
  walk_at "rd"
  intro p H1 e1 ⟨vs, v1, v2⟩
  have hJ := MoR.mo e1 hJ
  have ev := tx_vs v2
  have lv : vs.length = (sidesL ls).length := by rw [ev]; simp
  walk_at "rd"
  refine ⟨⟨_, SqL.of v1⟩, ?_⟩
  intro D nD
  refine turns walk_list (fun i => TabI rows ls D H1 i 0) ⟨[], upd_same, Same.new nD, fun e he => (nomatch he), fun a b l r ha hb hc => absurd hc (by omega), Nat.le_refl 0⟩ (fun j H' _ ⟨_, _, e, _⟩ => SqL.of (e _ _ v1)) ?_ ?_
  · rintro i x H2 H3 hi c ⟨rfl, hx⟩
    rw [ev] at hx
    obtain ⟨l, hl, rfl⟩ := map_at hx
    have hlm := mem_sides.mp (List.mem_of_getElem? hl)
    have v1' : H3 p = some (.lst vs) := by obtain ⟨_, _, e, _⟩ := c; exact e _ _ v1
    walk_at "rd"
    refine ⟨⟨_, SqL.of v1'⟩, ?_⟩
    refine turns walk_list (fun j => TabI rows ls D H1 i j) c (fun j H' _ ⟨_, _, e, _⟩ => SqL.of (e _ _ v1)) ?_ ?_
    · rintro j y H4 H5 hj ⟨kvs, k1, k2, k3⟩ ⟨rfl, hy⟩
      rw [ev] at hy
      obtain ⟨r, hr, rfl⟩ := map_at hy
      have hrm := mem_sides.mp (List.mem_of_getElem? hr)
      walk_at "rd"
      intro p6 np6
      generalize hh_p6 : upd _ p6 _ = H6
      obtain ⟨e6, hp6⟩ := al np6 hh_p6
      clear hh_p6
      walk_at "rd"
      have e16 := k2.trans e6
      have hJ6 := MoR.mo e16 hJ
      obtain ⟨dx, fs, ra, o1, o2, o3, o4, o5⟩ := id hJ6
      refine ⟨a, dx, fs, rfl, o1, o4, ?_⟩
      walk_at "rd"
      refine ⟨a, rows, l ++ r, l.length, rfl, hJ6, hsh, by walk_at "sz", by walk_at "sz", fun H7 e7 => ?_⟩
      have := k3.len
      have hj2 : j < 39 := by omega
      have hi2 : i < 39 := by omega
      refine ⟨kvs, kp l r, p6, rfl, e7 _ _ hp6, e7 _ _ (e6 _ _ k1), line_lt (by omega), _, upd_same, Same.mut (e16.trans e7) nD, k3.put hl hr⟩
    · intro H4 ⟨kvs, k1, k2, k3⟩
      exact ⟨kvs, k1, k2, by rw [lv] at k3; exact k3.row l39⟩
  · intro H2 ⟨kvs, k1, k2, k3⟩
    exact q _ _ (e1.trans k2) ⟨kvs, k1, by rw [lv] at k3; exact k3.ok l39⟩
end K33
set_option Elab.async false
set_option linter.all false
set_option maxRecDepth 100000
set_option maxHeartbeats 4000000
/-! readings: the heaviest syllable -/
namespace K33
open PySem PySem.Spec PyProof.Rows L2
local macro_rules | `(tactic| walk_at "sz") => `(tactic| first | exact Nat.zero_le _ | omega | (simp only [sizeLine_eq, cutL_to, cutL_from, cutL_mid, List.length_append, List.length_cons, List.length_nil, List.length_take, List.length_drop, List.length_map, List.length_dropLast]; omega) | decide | (refine Nat.le_trans (cutL_len _ _ _) ?_; simp only [sizeLine_eq, List.length_append, List.length_cons, List.length_nil, List.length_take, List.length_drop]; omega))
local macro_rules | `(tactic| walk_at "rd") => `(tactic| ((try dsimp only); repeat (first
  | refine ⟨_, rfl, ?_⟩
  | refine ⟨rfl, ?_⟩
  | refine ⟨_, _, rfl, rfl, ?_⟩
  | refine ⟨_, _, rfl, ?_⟩
  | refine ⟨_, _, rfl, SqT.of upd_same, rfl, ?_⟩
  | refine And.intro ⟨_, rfl⟩ ?_
  | refine And.intro (by walk_at "sz") ?_)))
local macro_rules | `(tactic| walk_at "rn") => `(tactic| repeat (first
  | refine ⟨_, rfl, ?_⟩
  | refine ⟨rfl, ?_⟩
  | refine ⟨_, _, rfl, rfl, ?_⟩
  | refine ⟨_, _, rfl, ?_⟩
  | refine ⟨_, _, rfl, SqT.of upd_same, rfl, ?_⟩
  | refine And.intro ⟨_, rfl⟩ ?_
  | refine And.intro (by walk_at "sz") ?_))
def sp_next_gaps : Sp := fun vs H Q _ => ∃ (v : V) (ls : Word) (g : Sit), vs = [v, T ls] ∧ SitAt H v g ∧ g.1.length ≤ 3 ∧ 1 ≤ g.2.length ∧ g.2.length ≤ 3 ∧ ls.length ≤ 3 ∧ ∀ p H', Same H H' → Lst SitAt H' p (nx ls g) → Q (.ref p) H'
theorem cutL_1 (z : Word) : cutL z (some 1) none = z.drop 1 := cutL_from z 1
theorem cutL_m3 (z : Word) : cutL z (some (-3)) none = last3 z := cutL_last z 3 (by decide)
theorem rd_next_gaps {K : PySem.W.Frag} {vs : List V} {H : Hp} {Q : VK} {E : XK} (h : sp_next_gaps vs H Q E) : t_next_gaps K (Ends0 Q) (start ["pair", "letters", "left", "right", "before", "found", "letter"] vs) H := by
  obtain ⟨v, ls, ⟨l, r⟩, rfl, ⟨pa, rfl, hpa⟩, h1, h2, h3, h4, q⟩ := h
  simp only at h1 h2 h3 hpa
  unfold t_next_gaps
  refine ⟨_, rfl, pa, _, rfl, SqT.of hpa, rfl, ?_⟩
  obtain ⟨c, r', rfl⟩ : ∃ c r', r = c :: r' := by
    cases r with
    | nil => simp at h2
    | cons c r' => exact ⟨c, r', rfl⟩
  have h3' : r'.length ≤ 2 := by simp at h3; omega
  have b3 : (last3 (l ++ [c])).length ≤ 3 := by rw [last3_len]; omega
  walk_at "rd"
  refine ⟨_, _, c, rfl, rfl, by walk_at "sz", at0, ?_⟩
  walk_at "rd"
  rw [show (-(3 : Int)) = -3 from rfl, cutL_m3, cutL_1]
  intro p np
  generalize hh_p : upd _ p _ = H1
  obtain ⟨e1, hp⟩ := al np hh_p
  clear hh_p
  walk_at "rd"
  intro p2 np2
  generalize hh_p2 : upd _ p2 _ = H2
  obtain ⟨e2, hp2⟩ := al np2 hh_p2
  clear hh_p2
  walk_at "rd"
  have one : SitAt H2 (.ref p) (last3 (l ++ [c]), r') := ⟨p, rfl, e2 _ _ hp⟩
  have nxe : nx ls (l, c :: r') = (last3 (l ++ [c]), r') :: (if (c :: r').length = 3 then ls.map fun d => (last3 (l ++ [c]), r' ++ [d]) else []) := rfl
  refine iteB (fun c1 => ?_) (fun c1 => ?_)
  · have c1' : (c :: r').length = 3 := by
      have z : ((c :: r').length : Int) = 3 := by simpa using c1
      omega
    have mapl : (ls.map fun d => ((last3 (l ++ [c]), r' ++ [d]) : Sit)).length = ls.length := by simp
    rw [nxe, if_pos c1'] at q
    walk_at "rd"
    intro D nD
    refine turns walk_str (Lcp SitAt D H2 (ls.map fun d => (last3 (l ++ [c]), r' ++ [d]))) (lcp_zero nD) (fun _ _ _ _ => trivial) ?_ ?_
    · rintro k z H6 H7 hk c6 ⟨rfl, d, hd, rfl⟩
      have hk2 : k < ls.length := by simpa using hk
      have hd2 : ls[k]? = some d := by simpa using hd
      have lr : r'.length ≤ 2 := by simp at h3; omega
      walk_at "rd"
      rw [cutL_1]
      walk_at "rd"
      intro p8 np8
      generalize hh_p8 : upd _ p8 _ = H8
      obtain ⟨e8, hp8⟩ := al np8 hh_p8
      clear hh_p8
      exact lcp_next nD (by omega) c6 e8 (x := (last3 (l ++ [c]), r' ++ [d])) (by rw [List.getElem?_map, hd2]; rfl) ⟨p8, rfl, hp8⟩
    · intro H6 c6
      obtain ⟨e6, ds, d1, d2⟩ := lcp_end (by rw [mapl]; simp) c6
      have ld := Paired.len d2
      walk_at "rd"
      refine ⟨_, _, _, ds, rfl, rfl, e6 _ _ hp2, d1, by rw [ld, mapl]; walk_at "sz", ?_⟩
      intro p9 np9
      generalize hh_p9 : upd _ p9 _ = H9
      obtain ⟨e9, hp9⟩ := al np9 hh_p9
      clear hh_p9
      have e29 := e6.trans e9
      refine ⟨_, rfl, ?_⟩
      exact q _ _ ((e1.trans e2).trans e29) ⟨_, hp9, .cons (Tu.mo (P := fun H => SitAt H (.ref p) _) e29 one) (paired_tu e9 d2)⟩
  · have c1' : ¬ (c :: r').length = 3 := fun z => by
      rw [z] at c1
      simp at c1
    rw [nxe, if_neg c1'] at q
    refine ⟨_, rfl, ?_⟩
    exact q _ _ (e1.trans e2) ⟨_, hp2, .cons one .nil⟩
/-! ### the best tail -/
def TailAt (H : Hp) (v : V) (W : Int) (s : Sit) : Prop := ∃ x, TupOf H v [.int W, x] ∧ SitAt H x s
instance {v : V} {W : Int} {s : Sit} : Tu (fun H => TailAt H v W s) := ⟨fun e ⟨x, h1, h2⟩ => ⟨x, Tu.mo (P := fun H => TupOf H v _) e h1, Tu.mo (P := fun H => SitAt H x s) e h2⟩, fun hD n ⟨x, h1, h2⟩ => ⟨x, Tu.set (P := fun H => TupOf H v _) hD n h1, Tu.set (P := fun H => SitAt H x s) hD n h2⟩⟩
def khasT (kvs : List (List Key × V)) (g : Sit) : Prop := ∃ v, (kp g.1 g.2, v) ∈ kvs
structure Good (rows : List Row) (wt : Nat → Int) (ls : Word) (kvs : List (List Key × V)) (g : Sit) (W : Int) (s : Sit) : Prop where
  tab : InTab ls g
  nj : jt rows g.1 g.2 = false
  mx : MaxP rows wt ls g W
  way : s ∈ nx ls g
  nxt : endS rows s = false → khasT kvs s ∧ ∃ X, MaxP rows wt ls s X ∧ W = hw wt g + X
def TlOk (rows : List Row) (wt : Nat → Int) (ls : Word) (H : Hp) (kvs : List (List Key × V)) : Prop := ∀ e ∈ kvs, ∃ g W s, e.1 = kp g.1 g.2 ∧ TailAt H e.2 W s ∧ Good rows wt ls kvs g W s
theorem TlOk.mo {rows : List Row} {wt : Nat → Int} {ls : Word} {H H' : Hp} {kvs : List (List Key × V)} (t : TlOk rows wt ls H kvs) (e : Same H H') : TlOk rows wt ls H' kvs := fun x hx => let ⟨g, W, s, a, b, c⟩ := t x hx; ⟨g, W, s, a, Tu.mo (P := fun H => TailAt H x.2 W s) e b, c⟩
instance {rows : List Row} {wt : Nat → Int} {ls : Word} {H H' : Hp} {kvs : List (List Key × V)} : MoR H H' (TlOk rows wt ls H kvs) (TlOk rows wt ls H' kvs) := ⟨fun e t => t.mo e⟩
instance {H H' : Hp} {v : V} {g : Sit} : MoR H H' (SitAt H v g) (SitAt H' v g) := ⟨fun e h => Tu.mo (P := fun H => SitAt H v g) e h⟩
instance {H H' : Hp} {v : V} {W : Int} {g : Sit} : MoR H H' (TailAt H v W g) (TailAt H' v W g) := ⟨fun e h => Tu.mo (P := fun H => TailAt H v W g) e h⟩
theorem TlOk.get {rows : List Row} {wt : Nat → Int} {ls : Word} {H : Hp} {kvs : List (List Key × V)} (t : TlOk rows wt ls H kvs) {g : Sit} (h : khasT kvs g) : ∃ v W s, valV kvs (kp g.1 g.2) = some v ∧ TailAt H v W s ∧ Good rows wt ls kvs g W s := by
  obtain ⟨v, hv⟩ := h
  unfold valV
  cases e : kvs.find? fun kv => decide (kv.1 = kp g.1 g.2) with
  | none =>
    have := List.find?_eq_none.mp e _ hv
    simp at this
  | some kv =>
    have h0 := List.find?_some e
    have h1 := of_decide_eq_true h0
    obtain ⟨g', W, s, k1, k2, k3⟩ := t kv (List.mem_of_find?_eq_some e)
    rw [k1] at h1
    obtain ⟨a1, a2⟩ := kp_inj h1
    have eg : g' = g := Prod.ext a1 a2
    subst eg
    exact ⟨_, W, s, rfl, k2, k3⟩
theorem khas_no {kvs : List (List Key × V)} {g : Sit} (h : ¬ khasT kvs g) : valV kvs (kp g.1 g.2) = none := by
  unfold valV
  cases e : kvs.find? fun kv => decide (kv.1 = kp g.1 g.2) with
  | none => rfl
  | some kv =>
    have h0 := List.find?_some e
    have h1 := of_decide_eq_true h0
    exact absurd ⟨kv.2, by rw [← h1]; exact List.mem_of_find?_eq_some e⟩ h
/-- the value of a way on -/
def Val (rows : List Row) (wt : Nat → Int) (ls : Word) (g : Sit) (X : Int) : Prop := (endS rows g = true ∧ X = 0) ∨ (endS rows g = false ∧ InTab ls g ∧ MaxP rows wt ls g X)
theorem Val.eq {rows : List Row} {wt : Nat → Int} {ls : Word} {g : Sit} {X Y : Int} (a : Val rows wt ls g X) (b : Val rows wt ls g Y) : X = Y := by
  rcases a with ⟨a1, a2⟩ | ⟨a1, _, a2⟩ <;> rcases b with ⟨b1, b2⟩ | ⟨b1, _, b2⟩
  · omega
  · rw [a1] at b1; cases b1
  · rw [a1] at b1; cases b1
  · have := a2.2 _ b2.1
    have := b2.2 _ a2.1
    omega
theorem hw_pos1 {wt : Nat → Int} {ls : Word} (w1 : ∀ c ∈ ls, 1 ≤ wt c) {p : Sit} (h2 : p.2 ∈ sidesL ls) : 1 ≤ hw wt p := by
  obtain ⟨a1, a2, a3⟩ := mem_sides.mp h2
  exact w1 _ (a3 _ (getD_mem (by omega)))
theorem max_rel {rows : List Row} {wt : Nat → Int} {ls : Word} (w1 : ∀ c ∈ ls, 1 ≤ wt c) {p g : Sit} {W X : Int} (hg : g ∈ nx ls p) (vg : Val rows wt ls g X) (eW : W = hw wt p + X) (mx : ∀ g' ∈ nx ls p, ∀ X', Val rows wt ls g' X' → hw wt p + X' ≤ W)
    (all : ∀ g' ∈ nx ls p, ∃ X', Val rows wt ls g' X') : MaxP rows wt ls p W := by
  refine ⟨?_, fun V hV => ?_⟩
  · rcases vg with ⟨v1, v2⟩ | ⟨v1, _, v2⟩
    · rw [eW, v2, Int.add_zero]; exact .one p
    · rw [eW]; exact .step hg v1 v2.1
  · cases hV with
    | one =>
      rcases vg with ⟨v1, v2⟩ | ⟨v1, vt, v2⟩
      · omega
      · have := v2.2 _ (.one g)
        have := hw_pos1 w1 vt.2
        omega
    | @step _ g' V' hg' e' hV' =>
      obtain ⟨X', hX⟩ := all g' hg'
      have a := mx g' hg' X' hX
      rcases hX with ⟨v1, v2⟩ | ⟨v1, vt, v2⟩
      · rw [e'] at v1; cases v1
      · have := v2.2 _ hV'
        omega
def BestOk (rows : List Row) (wt : Nat → Int) (ls : Word) (kvs : List (List Key × V)) (g : Sit) (H : Hp) (v : V) : Prop :=
  (v = .non ∧ ∃ g' ∈ nx ls g, endS rows g' = false ∧ ¬ khasT kvs g') ∨ ∃ W s, TailAt H v W s ∧ MaxP rows wt ls g W ∧ s ∈ nx ls g ∧ (endS rows s = false → khasT kvs s ∧ ∃ X, MaxP rows wt ls s X ∧ W = hw wt g + X)
def sp_best_tail : Sp := fun vs H Q _ => ∃ (v : V) (tb tl : Addr) (ls : Word) (wa : Addr) (g : Sit) (rows : List Row) (wt : Nat → Int) (kvs : List (List Key × V)), vs = [v, .ref tb, .ref tl, T ls, .ref wa] ∧ SitAt H v g ∧ TabAt rows ls H tb ∧ H tl = some (.dT kvs) ∧ TlOk rows wt ls H kvs ∧ WtAt wt ls H wa ∧
  (g.1.length ≤ 3 ∧ Over ls g.1 ∧ g.2 ∈ sidesL ls ∧ ls.length ≤ 3 ∧ ∀ c ∈ ls, 1 ≤ wt c) ∧ ∀ v H', Same H H' → BestOk rows wt ls kvs g H' v → Q v H'
/-- of the first i ways on this is the best -/
def Bst (rows : List Row) (wt : Nat → Int) (ls : Word) (kvs : List (List Key × V)) (g : Sit) (i : Nat) (H : Hp) (v : V) : Prop :=
  (i = 0 ∧ v = .non) ∨ ∃ W s X, TailAt H v W s ∧ s ∈ nx ls g ∧ Val rows wt ls s X ∧ (endS rows s = false → khasT kvs s) ∧ W = hw wt g + X ∧ ∀ g' ∈ (nx ls g).take i, ∀ X', Val rows wt ls g' X' → hw wt g + X' ≤ W
theorem mem_take1 {α : Type} {l : List α} {i : Nat} {x y : α} (hx : l[i]? = some x) (hy : y ∈ l.take (i + 1)) : y ∈ l.take i ∨ y = x := by
  have hi := (List.getElem?_eq_some_iff.mp hx).1
  rw [List.take_succ_eq_append_getElem hi, List.mem_append, List.mem_singleton, (List.getElem?_eq_some_iff.mp hx).2] at hy
  exact hy
def bt_end (K : PySem.W.Frag) : L2.TS :=
    (tIfS (tOr (tTest (tOp (fun x y H Q => y = V.non ∧ Q (V.bl (decide (x = V.non))) H) (tVar 5) (tC .non))) (tTest (tOp (rI0 fun i j => .bl (decide (j < i))) (tVar 7) (tOp (rIxT K) (tVar 5) (tC (.int 0))))))
    (tAsg (tTup (tCons (tVar 7) (tCons (tVar 6) tNil))) (gName 5))
    tNext)
theorem bt_end_ok {K : PySem.W.Frag} {D : Ends} {rows : List Row} {wt : Nat → Int} {ls : Word} {kvs : List (List Key × V)} {g g' : Sit} {i : Nat} {v0 v1 v2 v3 v4 best gv : V} {X : Int} {H : Hp}
    (b : Bst rows wt ls kvs g i H best) (hg : SitAt H gv g') (hi : (nx ls g)[i]? = some g') (vX : Val rows wt ls g' X) (hk : endS rows g' = false → khasT kvs g')
    (q : ∀ best' H', Same H H' → Bst rows wt ls kvs g (i + 1) H' best' → D.nx [some v0, some v1, some v2, some v3, some v4, some best', some gv, some (.int (hw wt g + X))] H') :
    bt_end K D [some v0, some v1, some v2, some v3, some v4, some best, some gv, some (.int (hw wt g + X))] H := by
  have hm := List.mem_of_getElem? hi
  have new : (∀ g'' ∈ (nx ls g).take i, ∀ X', Val rows wt ls g'' X' → hw wt g + X' ≤ hw wt g + X) → tAsg (tTup (tCons (tVar 7) (tCons (tVar 6) tNil))) (gName 5) D [some v0, some v1, some v2, some v3, some v4, some best, some gv, some (.int (hw wt g + X))] H := by
    intro hb
    walk_at "rd"
    intro p np
    generalize hh_p : upd _ p _ = H1
    obtain ⟨e1, hp⟩ := al np hh_p
    clear hh_p
    refine q _ _ e1 (.inr ⟨_, g', X, ⟨gv, ⟨p, rfl, hp⟩, MoR.mo e1 hg⟩, hm, vX, hk, rfl, fun g'' h'' X' hX' => ?_⟩)
    rcases mem_take1 hi h'' with z | z
    · exact hb g'' z X' hX'
    · subst z
      rw [hX'.eq vX]
      exact Int.le_refl _
  unfold bt_end
  generalize tAsg (tTup (tCons (tVar 7) (tCons (tVar 6) tNil))) (gName 5) = M at new ⊢
  rcases b with ⟨rfl, rfl⟩ | ⟨W, s, Y, ⟨x, ⟨pt, rfl, ht⟩, hx⟩, b2, b3, b4, b5, b6⟩
  · walk_at "rd"
    exact new fun g'' h'' => by simp at h''
  · walk_at "rd"
    refine ⟨_, _, _, _, rfl, rfl, SqT.of ht, at0, ?_⟩
    walk_at "rd"
    refine iteB (fun c => ?_) (fun c => ?_)
    · refine new fun g'' h'' X' hX' => ?_
      have := b6 g'' h'' X' hX'
      have := of_decide_eq_true c
      omega
    · refine q _ _ (Same.refl H) (.inr ⟨W, s, Y, ⟨x, ⟨pt, rfl, ht⟩, hx⟩, b2, b3, b4, b5, fun g'' h'' X' hX' => ?_⟩)
      rcases mem_take1 hi h'' with z | z
      · exact b6 g'' z X' hX'
      · subst z
        rw [hX'.eq vX]
        have := of_decide_eq_false c
        omega
def BtI (rows : List Row) (wt : Nat → Int) (ls : Word) (kvs : List (List Key × V)) (g : Sit) (v v1 v2 v4 : V) (H1 : Hp) (i : Nat) (σ : St) (H' : Hp) : Prop := ∃ best x6 x7, σ = [some v, some v1, some v2, some (T ls), some v4, some best, x6, x7] ∧ Same H1 H' ∧ (∀ g' ∈ (nx ls g).take i, ∃ X', Val rows wt ls g' X') ∧ Bst rows wt ls kvs g i H' best
theorem nx_len {ls : Word} {g : Sit} (h : ls.length ≤ 3) : (nx ls g).length ≤ 4 := by
  unfold nx
  rw [List.length_cons]
  split
  · rw [List.length_map]; omega
  · simp
theorem rd_best_tail {K : PySem.W.Frag} {vs : List V} {H : Hp} {Q : VK} {E : XK} (h : sp_best_tail vs H Q E) : t_best_tail K sp_next_gaps (Ends0 Q) (start ["pair", "table", "tails", "letters", "weight", "best", "gap", "total"] vs) H := by
  obtain ⟨v, tb, tl, ls, wa, g, rows, wt, kvs, rfl, hv, htb, htl, hok, hwa, ⟨g1, go, g2, h3, w1⟩, q⟩ := h
  obtain ⟨s1, s2, s3⟩ := mem_sides.mp g2
  have hbt : t_best_tail K sp_next_gaps = (tSeq (tAsg (tC .non) (gName 5))
    (tSeq (tFor (iList K (tCall sp_next_gaps [] E0 (tCons (tVar 0) (tCons (tVar 3) tNil)))) (gName 6)
    (tSeq (tAsg (tDGet (tVar 4) (tOp rIxTx (tOp (rIxT K) (tVar 0) (tC (.int 1))) (tC (.int 0)))) (gName 7))
    (tSeq (tIfS (tAnd (tTest (tOp rNeT (tOp (rIxT K) (tVar 6) (tC (.int 1))) (tC (T [])))) (tNot (tB (tDGet (tVar 1) (tVar 6)))))
    (tSeq (tIfS (tB (tDNotIn (tVar 6) (tVar 2)))
    (tRet (tC .non))
    tNext)
    (tAsg (tOp (rI0 fun i j => .int (i + j)) (tVar 7) (tOp (rIxT K) (tDGet (tVar 2) (tVar 6)) (tC (.int 0)))) (gName 7)))
    tNext)
    (bt_end K))))
    (tRet (tVar 5)))) := rfl
  rw [hbt]
  walk_at "rd"
  refine ⟨_, _, g, rfl, hv, g1, by omega, by omega, h3, ?_⟩
  rintro p H1 e1 ⟨gs, l1, l2⟩
  have hv := MoR.mo e1 hv
  have htb := MoR.mo e1 htb
  have htl := MoR.mo e1 htl
  have hok := MoR.mo e1 hok
  have hwa := MoR.mo e1 hwa
  obtain ⟨c, r', hr⟩ : ∃ c r', g.2 = c :: r' := by
    cases hc : g.2 with
    | nil => rw [hc] at s1; simp at s1
    | cons c r' => exact ⟨c, r', rfl⟩
  have hcl : c ∈ ls := s3 c (by rw [hr]; exact List.mem_cons_self ..)
  have ehw : hw wt g = wt c := by unfold hw; rw [hr]; rfl
  have n4 := nx_len (g := g) h3
  have lg := Paired.len l2
  walk_at "rn"
  refine ⟨⟨_, SqL.of l1⟩, ?_⟩
  refine for_list (BtI rows wt ls kvs g v (.ref tb) (.ref tl) (.ref wa) H1)
    ⟨.non, none, none, rfl, Same.refl _, fun g' hg' => by simp at hg', .inl ⟨rfl, rfl⟩⟩ (fun i σ H' _ ⟨_, _, _, _, e, _⟩ => SqL.of (e _ _ l1)) ?_ ?_
  · rintro i x σ H2 hx ⟨best, x6, x7, rfl, e2, hall, hb⟩
    obtain ⟨g', hg', pg, rfl, hpg⟩ := Paired.at l2 hx
    have hv := MoR.mo e2 hv
    have htb := MoR.mo e2 htb
    have htl := MoR.mo e2 htl
    have hok := MoR.mo e2 hok
    have hwa := MoR.mo e2 hwa
    have hpg := MoR.mo e2 hpg
    obtain ⟨vp, rfl, hvp⟩ := id hv
    obtain ⟨kw, w1', w2⟩ := id hwa
    have hm := List.mem_of_getElem? hg'
    walk_at "rd"
    refine ⟨_, _, _, _, rfl, rfl, SqT.of hvp, at1, ?_⟩
    rw [hr]
    walk_at "rd"
    refine ⟨_, _, c, rfl, rfl, by have : g.2.length = r'.length + 1 := by rw [hr]; rfl
                                  walk_at "sz", at0, ?_⟩
    refine ⟨wa, _, rfl, dget_k w1' (w2 c hcl), ?_⟩
    walk_at "rd"
    refine ⟨_, _, _, _, rfl, rfl, SqT.of hpg, at1, ?_⟩
    have key : ∀ (H4 : Hp) (X : Int), Same H2 H4 → Val rows wt ls g' X → (endS rows g' = false → khasT kvs g') → bt_end K { nx := BtI rows wt ls kvs g (.ref vp) (.ref tb) (.ref tl) (.ref wa) H1 (i + 1), rt := Q, bk := tRet (tVar 5) (Ends0 Q), ct := BtI rows wt ls kvs g (.ref vp) (.ref tb) (.ref tl) (.ref wa) H1 (i + 1) }
        [some (.ref vp), some (.ref tb), some (.ref tl), some (T ls), some (.ref wa), some best, some (.ref pg), some (.int (hw wt g + X))] H4 := by
      intro H4 X e4 vX hk
      have hb4 : Bst rows wt ls kvs g i H4 best := by
        rcases hb with z | ⟨W, s, Y, t1, t2⟩
        · exact .inl z
        · exact .inr ⟨W, s, Y, MoR.mo e4 t1, t2⟩
      refine bt_end_ok hb4 ⟨pg, rfl, e4 _ _ hpg⟩ hg' vX hk fun best' H' e' hb' => ?_
      refine ⟨best', _, _, rfl, (e2.trans e4).trans e', fun g'' h'' => ?_, hb'⟩
      rcases mem_take1 hg' h'' with z | z
      · exact hall g'' z
      · exact ⟨X, z ▸ vX⟩
    obtain ⟨kt1, t1, t2⟩ := id htb
    generalize bt_end K = M at key ⊢
    walk_at "rd"
    refine iteB (fun c1 => ?_) (fun c1 => ?_)
    · have ne : g'.2 ≠ [] := by simpa using c1
      have itab : InTab ls g' := nx_tab hm g1 go g2 ne
      have eE : endS rows g' = jt rows g'.1 g'.2 := by unfold endS; rw [decide_eq_false ne, Bool.false_or]
      walk_at "rd"
      refine ⟨tb, _, rfl, dget_t (k := kp g'.1 g'.2) t1 hpg (t2.get itab), ?_⟩
      walk_at "rd"
      refine iteB (fun c2 => ?_) (fun c2 => ?_)
      · have e0 : endS rows g' = false := by rw [eE]; simpa using c2
        by_cases hk : khasT kvs g'
        · obtain ⟨tv, W, s, u1, u2, u3⟩ := hok.get hk
          obtain ⟨tx, ⟨tp, rfl, u4⟩, u5⟩ := u2
          walk_at "rd"
          refine ⟨tl, _, rfl, DGet.t (k := kp g'.1 g'.2) htl hpg, ?_⟩
          rw [u1]
          walk_at "rd"
          refine ⟨tl, _, rfl, dget_t (k := kp g'.1 g'.2) htl hpg u1, ?_⟩
          walk_at "rd"
          refine ⟨_, _, _, _, rfl, rfl, SqT.of u4, at0, ?_⟩
          walk_at "rd"
          rw [← ehw]
          exact key H2 W (Same.refl _) (.inr ⟨e0, u3.tab, u3.mx⟩) (fun _ => hk)
        · walk_at "rd"
          refine ⟨tl, _, rfl, DGet.t (k := kp g'.1 g'.2) htl hpg, ?_⟩
          rw [khas_no hk]
          walk_at "rd"
          exact q _ _ (e1.trans e2) (.inl ⟨rfl, g', hm, e0, hk⟩)
      · have e0 : endS rows g' = true := by rw [eE]; simpa using c2
        have := key H2 0 (Same.refl _) (.inl ⟨e0, rfl⟩) (fun z => by rw [e0] at z; cases z)
        rw [ehw, Int.add_zero] at this
        exact this
    · have ne : g'.2 = [] := by simpa using c1
      have e0 : endS rows g' = true := by unfold endS; rw [ne]; rfl
      have := key H2 0 (Same.refl _) (.inl ⟨e0, rfl⟩) (fun z => by rw [e0] at z; cases z)
      rw [ehw, Int.add_zero] at this
      exact this
  · rintro σ H2 ⟨best, x6, x7, rfl, e2, hall, hb⟩
    rw [lg, List.take_length] at hall
    walk_at "rd"
    refine q _ _ (e1.trans e2) ?_
    have n1 : 0 < (nx ls g).length := by unfold nx; simp
    rcases hb with ⟨z, _⟩ | ⟨W, s, X, t1, t2, t3, t4, t5, t6⟩
    · omega
    · rw [lg, List.take_length] at t6
      refine .inr ⟨W, s, t1, max_rel w1 t2 t3 t5 t6 hall, t2, fun z => ⟨t4 z, X, ?_, t5⟩⟩
      rcases t3 with ⟨y, _⟩ | ⟨_, _, y⟩
      · rw [z] at y; cases y
      · exact y
end K33
set_option Elab.async false
set_option linter.all false
set_option maxRecDepth 100000
set_option maxHeartbeats 4000000
/-! readings: the tails of all situations, the heaviest syllable -/
namespace K33
open PySem PySem.Spec PyProof.Rows L2
local macro_rules | `(tactic| walk_at "sz") => `(tactic| first | exact Nat.zero_le _ | omega | (simp only [sizeLine_eq, cutL_to, cutL_from, cutL_mid, List.length_append, List.length_cons, List.length_nil, List.length_take, List.length_drop, List.length_map, List.length_dropLast]; omega) | decide | (refine Nat.le_trans (cutL_len _ _ _) ?_; simp only [sizeLine_eq, List.length_append, List.length_cons, List.length_nil, List.length_take, List.length_drop]; omega))
local macro_rules | `(tactic| walk_at "rd") => `(tactic| ((try dsimp only); repeat (first
  | refine ⟨_, rfl, ?_⟩
  | refine ⟨rfl, ?_⟩
  | refine ⟨_, _, rfl, rfl, ?_⟩
  | refine ⟨_, _, rfl, ?_⟩
  | refine ⟨_, _, rfl, SqT.of upd_same, rfl, ?_⟩
  | refine And.intro ⟨_, rfl⟩ ?_
  | refine And.intro (by walk_at "sz") ?_)))
local macro_rules | `(tactic| walk_at "rn") => `(tactic| repeat (first
  | refine ⟨_, rfl, ?_⟩
  | refine ⟨rfl, ?_⟩
  | refine ⟨_, _, rfl, rfl, ?_⟩
  | refine ⟨_, _, rfl, ?_⟩
  | refine ⟨_, _, rfl, SqT.of upd_same, rfl, ?_⟩
  | refine And.intro ⟨_, rfl⟩ ?_
  | refine And.intro (by walk_at "sz") ?_))
theorem while_n {c : TT} {tb : L2.TS} {D : Ends} {σ : St} {H : Hp} (Pv : Nat → St → Hp → Prop) (n0 : Nat) (h0 : Pv n0 σ H)
    (hs : ∀ n σ H, Pv n σ H → c σ H fun b H1 => if b = true then tb { D with nx := fun σ' H' => ∃ m, m < n ∧ Pv m σ' H', ct := fun σ' H' => ∃ m, m < n ∧ Pv m σ' H', bk := D.nx } σ H1 else D.nx σ H1)
    (mono : ∀ σ H Q Q', (∀ b H1, Q b H1 → Q' b H1) → c σ H Q → c σ H Q') : tWhile c tb D σ H := by
  refine ⟨Pv, ⟨n0, h0⟩, ?_⟩
  rintro m σ H p
  refine mono σ H _ _ (fun b H1 q => ?_) (hs m σ H p)
  cases b with
  | true => exact ⟨_, fun σ' H' h => h, q⟩
  | false => exact q
theorem tru_mono {K : PySem.W.Frag} {i : Nat} : ∀ σ H Q Q', (∀ b H1, Q b H1 → Q' b H1) → tTruX K (tVar i) σ H Q → tTruX K (tVar i) σ H Q' := fun σ H Q Q' hq ⟨v, h, k, hk, q⟩ => ⟨v, h, k, hk, hq _ _ q⟩
theorem ne_at {H : Hp} {a b : Addr} {o o' : HO} (h1 : H a = some o) (h2 : H b = some o') (n : o ≠ o') : a ≠ b := fun e => by
  subst e
  exact n (Option.some.inj (h1.symm.trans h2))
theorem dt_no {vs : List (List Key × V)} : ∀ xs, HO.dT vs ≠ .tup xs := fun _ h => by cases h
theorem TlOk.set {rows : List Row} {wt : Nat → Int} {ls : Word} {H : Hp} {kvs : List (List Key × V)} {D : Addr} {o o' : HO} (t : TlOk rows wt ls H kvs) (hD : H D = some o) (n : ∀ xs, o ≠ .tup xs) : TlOk rows wt ls (upd H D o') kvs := fun x hx => let ⟨g, W, s, a, b, c⟩ := t x hx; ⟨g, W, s, a, Tu.set (P := fun H => TailAt H x.2 W s) hD n b, c⟩
theorem khas_put {kvs : List (List Key × V)} {g : Sit} {k : List Key} {v : V} (h : khasT kvs g) : khasT (putK kvs k v) g := has_putK (.inl h)
theorem TlOk.put {rows : List Row} {wt : Nat → Int} {ls : Word} {H : Hp} {kvs : List (List Key × V)} {g : Sit} {v : V} {W : Int} {s : Sit} (t : TlOk rows wt ls H kvs) (h : TailAt H v W s) (gd : Good rows wt ls kvs g W s) : TlOk rows wt ls H (putK kvs (kp g.1 g.2) v) := fun x hx => by
  rcases mem_putK hx with z | z
  · obtain ⟨g', W', s', a, b, c⟩ := t x z
    exact ⟨g', W', s', a, b, c.tab, c.nj, c.mx, c.way, fun e => ⟨khas_put (c.nxt e).1, (c.nxt e).2⟩⟩
  · subst z
    exact ⟨g, W, s, rfl, h, gd.tab, gd.nj, gd.mx, gd.way, fun e => ⟨khas_put (gd.nxt e).1, (gd.nxt e).2⟩⟩
def Ring (rows : List Row) (ls : Word) : Prop := ∃ M : Sit → Prop, (∀ p, M p → InTab ls p) ∧ (∀ p, M p → ∃ g ∈ nx ls p, endS rows g = false ∧ M g) ∧ ∃ p, M p
def Compl (rows : List Row) (ls : Word) (kvs : List (List Key × V)) : Prop := ∀ g, InTab ls g → jt rows g.1 g.2 = false → khasT kvs g
def sp_heaviest_tails : Sp := fun vs H Q _ => ∃ (tb : Addr) (ls : Word) (wa : Addr) (rows : List Row) (wt : Nat → Int), vs = [.ref tb, T ls, .ref wa] ∧ TabAt rows ls H tb ∧ WtAt wt ls H wa ∧ (ls.length ≤ 3 ∧ ∀ c ∈ ls, 1 ≤ wt c) ∧
  (∀ H', Same H H' → Ring rows ls → Q .non H') ∧ ∀ tl H' kvs, Same H H' → H' tl = some (.dT kvs) → TlOk rows wt ls H' kvs → Compl rows ls kvs → kvs.length ≤ 2000 → Q (.ref tl) H'
/-- the keys that are no joints, so far -/
def Wtg (rows : List Row) (ls : Word) (tk : List (List Key × V)) (HL : Hp) (D : Addr) (i : Nat) (H : Hp) : Prop := ∃ acc ws, H D = some (.lst acc) ∧ Same HL H ∧ Paired (SitAt H) acc ws ∧ (∀ g ∈ ws, InTab ls g ∧ jt rows g.1 g.2 = false) ∧
  (∀ e ∈ tk.take i, ∀ g : Sit, e.1 = kp g.1 g.2 → jt rows g.1 g.2 = false → g ∈ ws) ∧ ws.length ≤ i
/-- a round begins: m wait -/
def Rnd (rows : List Row) (wt : Nat → Int) (ls : Word) (tb wa tl : Addr) (H0 : Hp) (m : Nat) (σ : St) (H : Hp) : Prop := ∃ x4 wl x6 x7 acc ws kvs, σ = [some (.ref tb), some (T ls), some (.ref wa), some (.ref tl), x4, some (.ref wl), x6, x7] ∧ Same H0 H ∧ H0 wl = none ∧
  H tl = some (.dT kvs) ∧ TlOk rows wt ls H kvs ∧ H wl = some (.lst acc) ∧ Paired (SitAt H) acc ws ∧ (∀ g ∈ ws, InTab ls g ∧ jt rows g.1 g.2 = false) ∧ (∀ g, InTab ls g → jt rows g.1 g.2 = false → khasT kvs g ∨ g ∈ ws) ∧ kvs.length + ws.length ≤ 2000 ∧ ws.length = m
/-- within a round -/
def Rni (rows : List Row) (wt : Nat → Int) (ls : Word) (tb wa tl wl ml : Addr) (H0 : Hp) (acc : List V) (ws : List Sit) (kv0 : List (List Key × V)) (i : Nat) (σ : St) (H : Hp) : Prop := ∃ x4 x7 macc ms kvs, σ = [some (.ref tb), some (T ls), some (.ref wa), some (.ref tl), x4, some (.ref wl), some (.ref ml), x7] ∧ Same H0 H ∧
  H tl = some (.dT kvs) ∧ TlOk rows wt ls H kvs ∧ H wl = some (.lst acc) ∧ Paired (SitAt H) acc ws ∧ H ml = some (.lst macc) ∧ Paired (SitAt H) macc ms ∧ (∀ g ∈ ms, g ∈ ws) ∧ (∀ g, khasT kv0 g → khasT kvs g) ∧ (∀ g ∈ ws.take i, khasT kvs g ∨ g ∈ ms) ∧
  ms.length ≤ i ∧ (ms.length = i → kvs = kv0 ∧ ∀ g ∈ ws.take i, ∃ g' ∈ nx ls g, endS rows g' = false ∧ ¬ khasT kv0 g') ∧ kvs.length + ms.length + (ws.length - i) ≤ 2000
theorem rd_heaviest_tails {K : PySem.W.Frag} {vs : List V} {H : Hp} {Q : VK} {E : XK} (h : sp_heaviest_tails vs H Q E) : t_heaviest_tails K sp_best_tail (Ends0 Q) (start ["table", "letters", "weight", "tails", "pair", "waiting", "missing", "tail"] vs) H := by
  obtain ⟨tb, ls, wa, rows, wt, rfl, htb, hwa, ⟨h3, w1⟩, q1, q2⟩ := h
  obtain ⟨tk, t1, t2⟩ := id htb
  unfold t_heaviest_tails
  intro tl ntl
  generalize hh_tl : upd _ tl _ = H1
  obtain ⟨e1, htl⟩ := al ntl hh_tl
  clear hh_tl
  have t1' := e1 _ _ t1
  refine ⟨tb, .dT tk, t1', by trivial, fun od => ?_⟩
  refine ⟨_, rfl, tb, od, rfl, .inr ⟨tk, upd_same, fun D nD => ?_⟩⟩
  have hDt : D ≠ tb := fun e => by rw [e, upd_same] at nD; cases nD
  have nD1 : H1 D = none := by rw [upd_ne hDt] at nD; exact nD
  have hlt : tb ≠ tl := fun e => by rw [← e, t1] at ntl; cases ntl
  refine turns walk_keysT (Wtg rows ls tk (upd H1 tb (.frz od (.dT tk))) D) ⟨[], [], upd_same, Same.new nD, .nil, fun g hg => (nomatch hg), fun e he => by simp at he, Nat.le_refl 0⟩ (fun i H' _ ⟨_, _, _, e, _⟩ => e _ _ upd_same) ?_ ?_
  · rintro i x H2 H3 hi ⟨acc, ws, a1, a2, a3, a4, a5, a6⟩ ⟨rfl, k, v, qa, hk, rfl, hq⟩
    obtain ⟨l, r, itab, ekv⟩ := t2.all _ (List.mem_of_getElem? hk)
    obtain ⟨rfl, rfl⟩ := Prod.mk.inj ekv
    have hq' : H3 qa = some (.tup [T l, T r]) := hq
    have lw := Paired.len a3
    have t9 := t2.len
    walk_at "rd"
    refine ⟨tb, _, rfl, .inr ⟨tk, kp l r, qa, .inr ⟨od, a2 _ _ upd_same⟩, rfl, hq, (t2.get itab).symm⟩, ?_⟩
    walk_at "rd"
    refine iteB (fun c => ?_) (fun c => ?_)
    · have nj : jt rows l r = false := by simpa using c
      walk_at "rd"
      refine ⟨acc, a1, line_lt (by omega), acc ++ [.ref qa], ws ++ [(l, r)], upd_same, Same.mut a2 nD, paired_set a1 lst_no (Paired.snoc1 ⟨qa, rfl, hq'⟩ a3), fun g hg => ?_, fun e he g eg ng => ?_, by rw [List.length_append]; exact Nat.succ_le_succ a6⟩
      · rcases List.mem_append.mp hg with z | z
        · exact a4 g z
        · rw [List.mem_singleton.mp z]; exact ⟨itab, nj⟩
      · rcases mem_take1 hk he with z | z
        · exact List.mem_append_left _ (a5 e z g eg ng)
        · rw [z] at eg
          obtain ⟨z1, z2⟩ := kp_inj eg
          refine List.mem_append_right _ (List.mem_singleton.mpr ?_)
          exact Prod.ext z1.symm z2.symm
    · refine ⟨acc, ws, a1, a2, a3, a4, fun e he g eg ng => ?_, by omega⟩
      rcases mem_take1 hk he with z | z
      · exact a5 e z g eg ng
      · rw [z] at eg
        obtain ⟨z1, z2⟩ := kp_inj eg
        rw [← z1, ← z2] at ng
        rw [ng] at c
        cases c
  · rintro H2 ⟨acc, ws, a1, a2, a3, a4, a5, a6⟩
    rw [List.take_length] at a5
    have f2 : H2 tb = some (.frz od (.dT tk)) := a2 _ _ upd_same
    refine ⟨f2, ?_⟩
    have e13 : Same H1 (upd H2 tb (.dT tk)) := fun b o hb => by
      by_cases z : b = tb
      · subst z
        rw [upd_same, ← hb, t1']
      · rw [upd_ne z]
        refine a2 _ _ ?_
        rw [upd_ne z]
        exact hb
    have d3 : upd H2 tb (.dT tk) D = some (.lst acc) := by rw [upd_ne hDt]; exact a1
    have p3 : Paired (SitAt (upd H2 tb (.dT tk))) acc ws := paired_set f2 (fun xs h => by cases h) a3
    generalize upd H2 tb (.dT tk) = H3 at *
    have nDH : H D = none := by
      cases z : H D with
      | none => rfl
      | some o => rw [e1 _ _ z] at nD1; cases nD1
    have t9 := t2.len
    refine while_n (Rnd rows wt ls tb wa tl H) ws.length ⟨_, D, _, _, acc, ws, [], rfl, e1.trans e13, nDH, e13 _ _ htl, fun x hx => (nomatch hx), d3, p3, a4, fun g g1 g2 => .inr ?_, by simp; omega, rfl⟩ ?_ tru_mono
    · obtain ⟨v, hv⟩ := t2.has g g1
      exact a5 _ hv g rfl g2
    clear a1 a2 a3 a4 a5 a6 f2 d3 p3 e13 nD nD1 nDH hDt
    rintro n σ H4 ⟨x4, wl, x6, x7, acc, ws, kvs, rfl, e4, nwl, k1, k2, k3, k4, k5, k6, k7, k8⟩
    refine ⟨_, rfl, !acc.isEmpty, .inl ⟨acc, SqL.of k3, rfl⟩, ?_⟩
    have lw := Paired.len k4
    refine iteB (fun c => ?_) (fun c => ?_)
    · walk_at "rn"
      intro ml nml
      generalize hh_ml : upd _ ml _ = H5
      obtain ⟨e5, hml⟩ := al nml hh_ml
      clear hh_ml
      walk_at "rn"
      refine ⟨⟨_, SqL.of (e5 _ _ k3)⟩, ?_⟩
      have nmH : H ml = none := by
        cases z : H ml with
        | none => rfl
        | some o => rw [e4 _ _ z] at nml; cases nml
      refine for_list (Rni rows wt ls tb wa tl wl ml H acc ws kvs) ⟨_, _, [], [], kvs, rfl, e4.trans e5, e5 _ _ k1, k2.mo e5, e5 _ _ k3, paired_tu e5 k4, hml, .nil, fun g hg => (nomatch hg), fun g hg => hg, fun g hg => by simp at hg, Nat.le_refl 0, fun _ => ⟨rfl, fun g hg => by simp at hg⟩, by simp; omega⟩
        (fun i σ H' _ ⟨_, _, _, _, _, _, _, _, _, f, _⟩ => SqL.of f) ?_ ?_
      · rintro i x σ H6 hx ⟨x4, x7, macc, ms, kv, rfl, f1, f2, f3, f4, f5, f6, f7, f8, f9, f10, f11, f12, f13⟩
        obtain ⟨g, hg, hx'⟩ := Paired.at f5 hx
        obtain ⟨itab, nj⟩ := k5 g (List.mem_of_getElem? hg)
        obtain ⟨m1, m2, m3⟩ := mem_sides.mp itab.1
        have hi2 := (List.getElem?_eq_some_iff.mp hg).1
        have lm := Paired.len f7
        walk_at "rd"
        refine ⟨x, tb, tl, ls, wa, g, rows, wt, kv, rfl, hx', MoR.mo f1 htb, f2, f3, MoR.mo f1 hwa, ⟨m2, m3, itab.2, h3, w1⟩, fun v H7 e7 hb => ?_⟩
        have f1 := MoR.mo e7 f1
        have f2 := MoR.mo e7 f2
        have f3 := MoR.mo e7 f3
        have f4 := MoR.mo e7 f4
        have f6 := MoR.mo e7 f6
        have hx' := MoR.mo e7 hx'
        have f5 := paired_tu e7 f5
        have f7 := paired_tu e7 f7
        rcases hb with ⟨rfl, g', b1, b2, b3⟩ | ⟨W, s, b1, b2, b3, b4⟩
        · walk_at "rd"
          refine ⟨.inl ⟨rfl, _, SqL.of f6⟩, ?_⟩
          walk_at "rd"
          refine ⟨ml, macc, _, rfl, rfl, f6, line_lt (by omega), ?_⟩
          have n1 : tl ≠ ml := ne_at f2 f6 (fun e => by cases e)
          have n2 : wl ≠ ml := ne_of_none k3 nml
          refine ⟨_, _, macc ++ [x], ms ++ [g], kv, rfl, Same.mut f1 nmH, by rw [upd_ne n1]; exact f2, f3.set f6 lst_no, by rw [upd_ne n2]; exact f4, paired_set f6 lst_no f5, upd_same, paired_set f6 lst_no (Paired.snoc1 hx' f7), fun g1 hg1 => ?_, f9, fun g1 hg1 => ?_, by rw [List.length_append]; exact Nat.succ_le_succ f11, fun hl => ?_, by rw [List.length_append, List.length_cons, List.length_nil]; omega⟩
          · rcases List.mem_append.mp hg1 with z | z
            · exact f8 g1 z
            · rw [List.mem_singleton.mp z]; exact List.mem_of_getElem? hg
          · rcases mem_take1 hg hg1 with z | z
            · exact (f10 g1 z).imp id (List.mem_append_left _)
            · exact .inr (List.mem_append_right _ (List.mem_singleton.mpr z))
          · rw [List.length_append, List.length_cons, List.length_nil] at hl
            obtain ⟨z1, z2⟩ := f12 (by omega)
            refine ⟨z1, fun g1 hg1 => ?_⟩
            rcases mem_take1 hg hg1 with z | z
            · exact z2 g1 z
            · rw [z]; exact ⟨g', b1, b2, by rw [← z1]; exact b3⟩
        · obtain ⟨tx, ⟨tp, rfl, u4⟩, u5⟩ := id b1
          obtain ⟨px, rfl, hpx⟩ := id hx'
          walk_at "rd"
          have n1 : ml ≠ tl := ne_at f6 f2 (fun e => by cases e)
          have n2 : wl ≠ tl := ne_at f4 f2 (fun e => by cases e)
          refine ⟨tl, _, rfl, DPut.t (k := kp g.1 g.2) f2 hpx (line_lt (by omega)), ?_⟩
          have lp := putK_le kv (kp g.1 g.2) (.ref tp)
          refine ⟨_, _, macc, ms, putK kv (kp g.1 g.2) (.ref tp), rfl, Same.mut f1 ntl, upd_same, (f3.put b1 ⟨itab, nj, b2, b3, b4⟩).set f2 dt_no, by rw [upd_ne n2]; exact f4, paired_set f2 dt_no f5, by rw [upd_ne n1]; exact f6, paired_set f2 dt_no f7, f8, fun g1 hg1 => khas_put (f9 g1 hg1), fun g1 hg1 => ?_, by omega, fun hl => by omega, by omega⟩
          rcases mem_take1 hg hg1 with z | z
          · exact (f10 g1 z).imp khas_put id
          · rw [z]; exact .inl (has_putK (.inr rfl))
      · rintro σ H6 ⟨x4, x7, macc, ms, kv, rfl, f1, f2, f3, f4, f5, f6, f7, f8, f9, f10, f11, f12, f13⟩
        rw [lw, List.take_length] at f10 f12
        have lm := Paired.len f7
        walk_at "rd"
        refine ⟨ml, macc, rfl, .inl (SqL.of f6), ?_⟩
        walk_at "rd"
        refine ⟨wl, acc, rfl, .inl (SqL.of f4), ?_⟩
        walk_at "rd"
        refine iteB (fun c2 => ?_) (fun c2 => ?_)
        · have z : macc.length = acc.length := by
            have : (macc.length : Int) = acc.length := by simpa using c2
            omega
          obtain ⟨z1, z2⟩ := f12 (by omega)
          walk_at "rd"
          refine q1 H6 f1 ⟨(· ∈ ws), fun p hp => (k5 p hp).1, fun p hp => ?_, ?_⟩
          · obtain ⟨g', b1, b2, b3⟩ := z2 p hp
            have ne : g'.2 ≠ [] := fun z => by unfold endS at b2; rw [z] at b2; simp at b2
            obtain ⟨m1, m2, m3⟩ := mem_sides.mp (k5 p hp).1.1
            have itab := nx_tab b1 m2 m3 (k5 p hp).1.2 ne
            refine ⟨g', b1, b2, (k6 g' itab ?_).resolve_left b3⟩
            unfold endS at b2
            rw [Bool.or_eq_false_iff] at b2
            exact b2.2
          · cases hws : ws with
            | nil =>
              rw [hws] at lw
              have : acc = [] := List.length_eq_zero_iff.mp lw
              rw [this] at c
              cases c
            | cons p r => exact ⟨p, List.mem_cons_self ..⟩
        · have z : macc.length ≠ acc.length := fun z => by
            rw [z] at c2
            simp at c2
          walk_at "rd"
          refine ⟨ml, macc, rfl, .inl (SqL.of f6), ?_⟩
          intro p np
          generalize hh_p : upd _ p _ = H7
          obtain ⟨e7, hp⟩ := al np hh_p
          clear hh_p
          have npH : H p = none := by
            cases z : H p with
            | none => rfl
            | some o => rw [f1 _ _ z] at np; cases np
          refine ⟨ms.length, by omega, _, p, _, _, macc, ms, kv, rfl, f1.trans e7, npH, e7 _ _ f2, f3.mo e7, hp, paired_tu e7 f7, fun g hg => k5 g (f8 g hg), fun g g1 g2 => ?_, by omega, rfl⟩
          rcases k6 g g1 g2 with y | y
          · exact .inl (f9 g y)
          · exact f10 g y
    · have ez : acc = [] := by simpa using c
      have ew : ws = [] := List.length_eq_zero_iff.mp (by rw [← lw, ez]; rfl)
      walk_at "rd"
      exact q2 tl H4 kvs e4 k1 k2 (fun g g1 g2 => (k6 g g1 g2).resolve_right fun z => by rw [ew] at z; cases z) (by omega)
end K33
set_option Elab.async false
set_option linter.all false
set_option maxRecDepth 100000
set_option maxHeartbeats 4000000
/-! readings: the heaviest syllable -/
namespace K33
open PySem PySem.Spec PyProof.Rows L2
local macro_rules | `(tactic| walk_at "sz") => `(tactic| first | exact Nat.zero_le _ | omega | (simp only [sizeLine_eq, cutL_to, cutL_from, cutL_mid, List.length_append, List.length_cons, List.length_nil, List.length_take, List.length_drop, List.length_map, List.length_dropLast]; omega) | decide | (refine Nat.le_trans (cutL_len _ _ _) ?_; simp only [sizeLine_eq, List.length_append, List.length_cons, List.length_nil, List.length_take, List.length_drop]; omega))
local macro_rules | `(tactic| walk_at "rd") => `(tactic| ((try dsimp only); repeat (first
  | refine ⟨_, rfl, ?_⟩
  | refine ⟨rfl, ?_⟩
  | refine ⟨_, _, rfl, rfl, ?_⟩
  | refine ⟨_, _, rfl, ?_⟩
  | refine ⟨_, _, rfl, SqT.of upd_same, rfl, ?_⟩
  | refine And.intro ⟨_, rfl⟩ ?_
  | refine And.intro (by walk_at "sz") ?_)))
local macro_rules | `(tactic| walk_at "rn") => `(tactic| repeat (first
  | refine ⟨_, rfl, ?_⟩
  | refine ⟨rfl, ?_⟩
  | refine ⟨_, _, rfl, rfl, ?_⟩
  | refine ⟨_, _, rfl, ?_⟩
  | refine ⟨_, _, rfl, SqT.of upd_same, rfl, ?_⟩
  | refine And.intro ⟨_, rfl⟩ ?_
  | refine And.intro (by walk_at "sz") ?_))
def sp_heaviest (C : Addr) : Sp := fun vs H Q _ => ∃ (a : Addr) (ls : Word) (wa : Addr) (rows : List Row) (wt : Nat → Int), vs = [.ref a, T ls, .ref wa] ∧ JO C rows H a ∧ Short rows ∧ WtAt wt ls H wa ∧ (ls.length ≤ 3 ∧ ls ≠ [] ∧ ∀ c ∈ ls, 1 ≤ wt c) ∧
  (∀ H', Same H H' → Ring rows ls → Q .non H') ∧ ∀ v H' W x1 x2, Same H H' → TupOf H' v [.int W, x1, x2] → (∃ p, Starts rows ls p ∧ Path rows wt ls p W) → (∀ p, Starts rows ls p → ∀ V, Path rows wt ls p V → V ≤ W) → Q v H'
theorem none_of {H H1 : Hp} {a : Addr} (e : Same H H1) (n : H1 a = none) : H a = none := by
  cases z : H a with
  | none => rfl
  | some o => rw [e _ _ z] at n; cases n
/-- the keys that are joints, so far -/
def Wtj (rows : List Row) (ls : Word) (tk : List (List Key × V)) (HL : Hp) (D : Addr) (i : Nat) (H : Hp) : Prop := ∃ acc ws, H D = some (.lst acc) ∧ Same HL H ∧ Paired (SitAt H) acc ws ∧ (∀ g ∈ ws, InTab ls g ∧ jt rows g.1 g.2 = true) ∧
  (∀ e ∈ tk.take i, ∀ g : Sit, e.1 = kp g.1 g.2 → jt rows g.1 g.2 = true → g ∈ ws) ∧ ws.length ≤ i
/-- the best of the first i starts -/
def Bss (rows : List Row) (wt : Nat → Int) (ls : Word) (kvs : List (List Key × V)) (sts : List Sit) (i : Nat) (H : Hp) (v : V) : Prop := ∃ W x1 x2, TupOf H v [.int W, x1, x2] ∧
  ((W = 0 ∧ i = 0) ∨ ∃ p s, SitAt H x1 p ∧ SitAt H x2 s ∧ Starts rows ls p ∧ MaxP rows wt ls p W ∧ s ∈ nx ls p ∧ (endS rows s = false → khasT kvs s ∧ ∃ X, MaxP rows wt ls s X ∧ W = hw wt p + X)) ∧ ∀ p ∈ sts.take i, ∀ V, Path rows wt ls p V → V ≤ W
def HsI (rows : List Row) (wt : Nat → Int) (ls : Word) (kvs : List (List Key × V)) (sts : List Sit) (v0 v2 v3 v4 : V) (H0 : Hp) (i : Nat) (σ : St) (H : Hp) : Prop := ∃ best x6 x7 x8, σ = [some v0, some (T ls), some v2, some v3, some v4, some best, x6, x7, x8, none, none, none] ∧ Same H0 H ∧ Bss rows wt ls kvs sts i H best
theorem start_ok {rows : List Row} {ls : Word} {p : Sit} (h : Starts rows ls p) : p.1.length ≤ 3 ∧ Over ls p.1 ∧ p.2 ∈ sidesL ls := by
  rcases h with ⟨h1, h2⟩ | ⟨h1, _⟩
  · rw [h1]; exact ⟨by decide, fun c hc => (nomatch hc), h2⟩
  · obtain ⟨a, b, c⟩ := mem_sides.mp h1.1
    exact ⟨b, c, h1.2⟩
/-- the word's end is sought -/
def HsW (rows : List Row) (wt : Nat → Int) (ls : Word) (kvs : List (List Key × V)) (v0 v2 v3 v4 v5 v6 : V) (W : Int) (H0 : Hp) (n : Nat) (σ : St) (H : Hp) : Prop := ∃ x syl s vis, σ = [some v0, some (T ls), some v2, some v3, some v4, some v5, some v6, some (.int W), some x, some (T syl), none, none] ∧ Same H0 H ∧ SitAt H x s ∧
  (s.1.length ≤ 3 ∧ s.2.length ≤ 3 ∧ (s.2 ≠ [] → InTab ls s)) ∧ (endS rows s = false → khasT kvs s ∧ MaxP rows wt ls s (n : Int)) ∧ List.Nodup vis ∧ (∀ g ∈ vis, kp g.1 g.2 ∈ kvs.map (·.1)) ∧ (endS rows s = false → ∀ g ∈ vis, ∀ X, MaxP rows wt ls g X → (n : Int) < X) ∧ syl.length = vis.length + 1
theorem vis_len {kvs : List (List Key × V)} {vis : List Sit} (h1 : List.Nodup vis) (h2 : ∀ g ∈ vis, kp g.1 g.2 ∈ kvs.map (·.1)) : vis.length ≤ kvs.length := by
  have e : (vis.map fun g => kp g.1 g.2).Nodup := by
    refine List.Pairwise.map _ (fun a b n e => n ?_) h1
    obtain ⟨z1, z2⟩ := kp_inj e
    exact Prod.ext z1 z2
  have := nodup_le e (m := kvs.map (·.1)) (fun x hx => by
    obtain ⟨g, hg, rfl⟩ := List.mem_map.mp hx
    exact h2 g hg)
  rw [List.length_map, List.length_map] at this
  exact this
theorem paired_app {α β : Type} {F : α → β → Prop} : ∀ {l : List α} {m : List β} {l' : List α} {m' : List β}, Paired F l m → Paired F l' m' → Paired F (l ++ l') (m ++ m')
  | _, _, _, _, .nil, h => h
  | _, _, _, _, .cons r t, h => .cons r (paired_app t h)
theorem nx_small {ls : Word} {p g : Sit} (hg : g ∈ nx ls p) (h : p.2.length ≤ 3) : g.1.length ≤ 3 ∧ g.2.length ≤ 3 := by
  unfold nx at hg
  rcases List.mem_cons.mp hg with z | z
  · rw [z]
    refine ⟨by rw [last3_len]; omega, ?_⟩
    rw [List.length_drop]; omega
  · by_cases c : p.2.length = 3
    · rw [if_pos c] at z
      obtain ⟨d, _, rfl⟩ := List.mem_map.mp z
      refine ⟨by rw [last3_len]; omega, ?_⟩
      rw [List.length_append, List.length_drop, List.length_cons, List.length_nil]; omega
    · rw [if_neg c] at z; cases z
theorem rd_heaviest {K : PySem.W.Frag} {C : Addr} {vs : List V} {H : Hp} {Q : VK} {E : XK} (h : sp_heaviest C vs H Q E) :
    t_heaviest_syllable K (sp_joint_table C) sp_heaviest_tails sp_sides sp_best_tail (Ends0 Q) (start ["joints", "letters", "weight", "table", "tails", "best", "start", "total", "gap", "syllable", "right", "pair"] vs) H := by
  obtain ⟨a, ls, wa, rows, wt, rfl, hJ, hsh, hwa, ⟨h3, hne, w1⟩, q1, q2⟩ := h
  unfold t_heaviest_syllable
  walk_at "rd"
  refine ⟨a, rows, ls, rfl, hJ, hsh, h3, fun tb H1 e1 htb => ?_⟩
  have hJ := MoR.mo e1 hJ
  have hwa := MoR.mo e1 hwa
  walk_at "rn"
  refine ⟨tb, ls, wa, rows, wt, rfl, htb, hwa, ⟨h3, w1⟩, fun H2 e2 hr => ?_, fun tl H2 kvs e2 k1 k2 k3 k4 => ?_⟩
  · walk_at "rd"
    exact q1 H2 (e1.trans e2) hr
  · have e1 := MoR.mo e2 e1
    have hJ := MoR.mo e2 hJ
    have hwa := MoR.mo e2 hwa
    have htb := MoR.mo e2 htb
    obtain ⟨tk, t1, t2⟩ := id htb
    have t9 := t2.len
    have l39 : (sidesL ls).length ≤ 39 := len_fnd h3 3 (Nat.le_refl 3)
    walk_at "rd"
    intro pa na
    generalize hh_pa : upd _ pa _ = Ha
    obtain ⟨ea, hpa⟩ := al na hh_pa
    clear hh_pa
    walk_at "rd"
    intro pb nb
    generalize hh_pb : upd _ pb _ = Hb
    obtain ⟨eb, hpb⟩ := al nb hh_pb
    clear hh_pb
    walk_at "rd"
    intro pc nc
    generalize hh_pc : upd _ pc _ = Hc
    obtain ⟨ec, hpc⟩ := al nc hh_pc
    clear hh_pc
    walk_at "rn"
    rintro spa Hd ed ⟨sv, s1, s2⟩
    have es := tx_vs s2
    have e2d := ((ea.trans eb).trans ec).trans ed
    walk_at "rn"
    refine ⟨⟨_, SqL.of s1⟩, fun D nD => ?_⟩
    have lsv : sv.length = ((sidesL ls).map fun r => (([], r) : Sit)).length := by rw [es]; simp
    refine turns walk_list (Lcp SitAt D Hd ((sidesL ls).map fun r => ([], r))) (lcp_zero nD) (fun i H' _ ⟨_, _, e, _⟩ => SqL.of (e _ _ s1)) ?_ ?_
    · rintro i x He Hf hi c ⟨rfl, hx⟩
      rw [es] at hx
      obtain ⟨r, hr, rfl⟩ := map_at hx
      walk_at "rd"
      intro q nq
      generalize hh_q : upd _ q _ = Hg
      obtain ⟨eq, hq⟩ := al nq hh_q
      clear hh_q
      exact lcp_next nD (by rw [List.length_map]; omega) c eq (by rw [List.getElem?_map, hr]; rfl) ⟨q, rfl, hq⟩
    · intro He c
      obtain ⟨ee, ds, d1, d2⟩ := lcp_end lsv.symm c
      have t1' := ee _ _ (e2d _ _ t1)
      refine ⟨tb, .dT tk, t1', by trivial, fun od => ?_⟩
      refine ⟨_, rfl, tb, od, rfl, .inr ⟨tk, upd_same, fun D2 nD2 => ?_⟩⟩
      have hDt : D2 ≠ tb := fun e => by rw [e, upd_same] at nD2; cases nD2
      refine turns walk_keysT (Wtj rows ls tk (upd He tb (.frz od (.dT tk))) D2) ⟨[], [], upd_same, Same.new nD2, .nil, fun g hg => (nomatch hg), fun e he => by simp at he, Nat.le_refl 0⟩ (fun i H' _ ⟨_, _, _, e, _⟩ => e _ _ upd_same) ?_ ?_
      · rintro i x H2 H3 hi ⟨acc, ws, a1, a2, a3, a4, a5, a6⟩ ⟨rfl, k, v, qa, hk, rfl, hq⟩
        obtain ⟨l, r, itab, ekv⟩ := t2.all _ (List.mem_of_getElem? hk)
        obtain ⟨rfl, rfl⟩ := Prod.mk.inj ekv
        have hq' : H3 qa = some (.tup [T l, T r]) := hq
        have lw := Paired.len a3
        walk_at "rd"
        refine ⟨tb, _, rfl, .inr ⟨tk, kp l r, qa, .inr ⟨od, a2 _ _ upd_same⟩, rfl, hq, (t2.get itab).symm⟩, ?_⟩
        walk_at "rd"
        refine iteB (fun c => ?_) (fun c => ?_)
        · walk_at "rd"
          refine ⟨acc, a1, line_lt (by omega), acc ++ [.ref qa], ws ++ [(l, r)], upd_same, Same.mut a2 nD2, paired_set a1 lst_no (Paired.snoc1 ⟨qa, rfl, hq'⟩ a3), fun g hg => ?_, fun e he g eg ng => ?_, by rw [List.length_append]; exact Nat.succ_le_succ a6⟩
          · rcases List.mem_append.mp hg with z | z
            · exact a4 g z
            · rw [List.mem_singleton.mp z]; exact ⟨itab, c⟩
          · rcases mem_take1 hk he with z | z
            · exact List.mem_append_left _ (a5 e z g eg ng)
            · rw [z] at eg
              obtain ⟨z1, z2⟩ := kp_inj eg
              refine List.mem_append_right _ (List.mem_singleton.mpr ?_)
              exact Prod.ext z1.symm z2.symm
        · refine ⟨acc, ws, a1, a2, a3, a4, fun e he g eg ng => ?_, by omega⟩
          rcases mem_take1 hk he with z | z
          · exact a5 e z g eg ng
          · rw [z] at eg
            obtain ⟨z1, z2⟩ := kp_inj eg
            rw [← z1, ← z2] at ng
            rw [ng] at c
            cases c
      · rintro Hf ⟨acc, ws, a1, a2, a3, a4, a5, a6⟩
        rw [List.take_length] at a5
        have f2 : Hf tb = some (.frz od (.dT tk)) := a2 _ _ upd_same
        refine ⟨f2, ?_⟩
        have e13 : Same He (upd Hf tb (.dT tk)) := fun b o hb => by
          by_cases z : b = tb
          · subst z
            rw [upd_same, ← hb, t1']
          · rw [upd_ne z]
            refine a2 _ _ ?_
            rw [upd_ne z]
            exact hb
        have d3 : upd Hf tb (.dT tk) D2 = some (.lst acc) := by rw [upd_ne hDt]; exact a1
        have p3 : Paired (SitAt (upd Hf tb (.dT tk))) acc ws := paired_set f2 (fun xs h => by cases h) a3
        generalize upd Hf tb (.dT tk) = Hg at *
        have lds := Paired.len d2
        have lac := Paired.len p3
        rw [List.length_map] at lds
        refine ⟨D, D2, ds, acc, rfl, rfl, e13 _ _ d1, d3, line_ok (by omega), ?_⟩
        intro L nL
        generalize hh_L : upd _ L _ = Hh
        obtain ⟨eL, hL⟩ := al nL hh_L
        clear hh_L
        have pst : Paired (SitAt Hh) (ds ++ acc) ((sidesL ls).map (fun r => (([], r) : Sit)) ++ ws) := paired_tu eL (paired_app (paired_tu e13 d2) p3)
        have stin : ∀ p, Starts rows ls p → p ∈ (sidesL ls).map (fun r => (([], r) : Sit)) ++ ws := fun p hp => by
          rcases hp with ⟨z1, z2⟩ | ⟨z1, z2⟩
          · exact List.mem_append_left _ (List.mem_map.mpr ⟨p.2, z2, Prod.ext z1.symm rfl⟩)
          · obtain ⟨v, hv⟩ := t2.has p z1
            exact List.mem_append_right _ (a5 _ hv p rfl z2)
        have stok : ∀ p ∈ (sidesL ls).map (fun r => (([], r) : Sit)) ++ ws, Starts rows ls p := fun p hp => by
          rcases List.mem_append.mp hp with z | z
          · obtain ⟨r, hr, rfl⟩ := List.mem_map.mp z
            exact .inl ⟨rfl, hr⟩
          · exact .inr (a4 p z)
        have snil : 0 < ((sidesL ls).map (fun r => (([], r) : Sit)) ++ ws).length := by
          obtain ⟨c, hc⟩ := List.exists_mem_of_ne_nil _ hne
          have : [c] ∈ sidesL ls := mem_sides.mpr ⟨by simp, by simp, fun d hd => by rw [List.mem_singleton.mp hd]; exact hc⟩
          exact List.length_pos_of_mem (stin ([], [c]) (.inl ⟨rfl, this⟩))
        generalize (sidesL ls).map (fun r => (([], r) : Sit)) ++ ws = sts at *
        have e2h : Same H2 Hh := ((e2d.trans ee).trans e13).trans eL
        have hpc' := eL _ _ (e13 _ _ (ee _ _ (ed _ _ hpc)))
        clear a1 a2 a3 a4 a5 a6 f2 d3 p3 e13 t1' hDt nD2 d1 d2 ee nD s1 s2
        have e1 := MoR.mo e2h e1
        have hJ := MoR.mo e2h hJ
        have hwa := MoR.mo e2h hwa
        have htb := MoR.mo e2h htb
        have k1 := MoR.mo e2h k1
        have k2 := MoR.mo e2h k2
        walk_at "rn"
        refine ⟨⟨_, SqL.of hL⟩, ?_⟩
        refine for_list (HsI rows wt ls kvs sts (.ref a) (.ref wa) (.ref tb) (.ref tl) Hh) ⟨.ref pc, none, none, none, rfl, Same.refl _, 0, _, _, ⟨pc, rfl, hpc'⟩, .inl ⟨rfl, rfl⟩, fun p hp => by simp at hp⟩ (fun i σ H' _ ⟨_, _, _, _, _, e, _⟩ => SqL.of (e _ _ hL)) ?_ ?_
        · rintro i x σ Hi hx ⟨best, x6, x7, x8, rfl, f1, W, y1, y2, hb0, alt, mx⟩
          obtain ⟨p, hp, hpx⟩ := Paired.at pst hx
          obtain ⟨st1, st2, st3⟩ := start_ok (stok p (List.mem_of_getElem? hp))
          have hpx := MoR.mo f1 hpx
          have hJ := MoR.mo f1 hJ
          have hwa := MoR.mo f1 hwa
          have htb := MoR.mo f1 htb
          have k1 := MoR.mo f1 k1
          have k2 := MoR.mo f1 k2
          walk_at "rd"
          refine ⟨x, tb, tl, ls, wa, p, rows, wt, kvs, rfl, hpx, htb, k1, k2, hwa, ⟨st1, st2, st3, h3, w1⟩, fun v Hj ej hb => ?_⟩
          rcases hb with ⟨rfl, g', b1, b2, b3⟩ | ⟨W', s, b1, b2, b3, b4⟩
          · exfalso
            have ne : g'.2 ≠ [] := fun z => by unfold endS at b2; rw [z] at b2; simp at b2
            have itab := nx_tab b1 st1 st2 st3 ne
            unfold endS at b2
            rw [Bool.or_eq_false_iff] at b2
            exact b3 (k3 g' itab b2.2)
          · obtain ⟨xs, ⟨pt, rfl, ht⟩, hxs⟩ := id b1
            have f1 := MoR.mo ej f1
            have hb0 := MoR.mo ej hb0
            have hpx := MoR.mo ej hpx
            obtain ⟨pbst, rfl, hb1⟩ := id hb0
            have w1' : 1 ≤ W' := by
              have := b2.2 _ (.one p)
              have := hw_pos1 w1 st3
              omega
            refine ⟨pt, _, rfl, SqT.of ht, rfl, ?_⟩
            walk_at "rd"
            refine ⟨_, _, _, _, rfl, rfl, SqT.of hb1, at0, ?_⟩
            walk_at "rd"
            refine iteB (fun c2 => ?_) (fun c2 => ?_)
            · have c2' := of_decide_eq_true c2
              walk_at "rd"
              intro pn nk
              generalize hh_pn : upd _ pn _ = Hk
              obtain ⟨ek, hk⟩ := al nk hh_pn
              clear hh_pn
              refine ⟨.ref pn, _, _, _, rfl, f1.trans ek, W', x, xs, ⟨pn, rfl, hk⟩, .inr ⟨p, s, MoR.mo ek hpx, MoR.mo ek hxs, stok p (List.mem_of_getElem? hp), b2, b3, b4⟩, fun p' hp' V hV => ?_⟩
              rcases mem_take1 hp hp' with z | z
              · have := mx p' z V hV
                omega
              · rw [z] at hV; exact b2.2 V hV
            · have c2' := of_decide_eq_false c2
              refine ⟨.ref pbst, _, _, _, rfl, f1, W, y1, y2, hb0, ?_, fun p' hp' V hV => ?_⟩
              · rcases alt with ⟨z, _⟩ | ⟨p0, s0, z1, z2, z3⟩
                · omega
                · exact .inr ⟨p0, s0, MoR.mo ej z1, MoR.mo ej z2, z3⟩
              · rcases mem_take1 hp hp' with z | z
                · exact mx p' z V hV
                · rw [z] at hV
                  have := b2.2 V hV
                  omega
        · rintro σ Hi ⟨best, x6, x7, x8, rfl, f1, W, y1, y2, hb0, alt, mx⟩
          rw [Paired.len pst] at alt mx
          rw [List.take_length] at mx
          obtain ⟨p, s, z1, z2, z3, z4, z5, z6⟩ := alt.resolve_left fun z => by omega
          obtain ⟨pbst, rfl, hb1⟩ := id hb0
          obtain ⟨pp, rfl, hpp⟩ := id z1
          obtain ⟨st1, st2, st3⟩ := start_ok z3
          obtain ⟨m1, m2, m3⟩ := mem_sides.mp st3
          obtain ⟨c, r', hr⟩ : ∃ c r', p.2 = c :: r' := by
            cases hc : p.2 with
            | nil => rw [hc] at m1; simp at m1
            | cons c r' => exact ⟨c, r', rfl⟩
          have e1 := MoR.mo f1 e1
          have k1 := MoR.mo f1 k1
          have k2 := MoR.mo f1 k2
          have htb := MoR.mo f1 htb
          refine ⟨_, rfl, pbst, _, rfl, SqT.of hb1, rfl, ?_⟩
          walk_at "rn"
          refine ⟨_, _, _, _, rfl, rfl, SqT.of hpp, at1, ?_⟩
          rw [hr]
          walk_at "rn"
          refine ⟨_, _, c, rfl, rfl, by rw [← hr]; exact line_ok (by omega), at0, ?_⟩
          have l3 : ∀ (s2 : Sit) (kh : Prop), (endS rows s2 = false → InTab ls s2) → (endS rows s2 = false → kh ∧ ∃ X, MaxP rows wt ls s2 X) → ∃ n : Nat, (endS rows s2 = false → kh ∧ MaxP rows wt ls s2 (n : Int)) ∧ (endS rows s2 = true → n = 0) := fun s2 kh h1 h2 => by
            cases e : endS rows s2 with
            | true => exact ⟨0, fun z => (by cases z), fun _ => rfl⟩
            | false =>
              obtain ⟨k, X, hX⟩ := h2 e
              have := hX.2 _ (.one s2)
              have := hw_pos1 w1 (h1 e).2
              exact ⟨X.toNat, fun _ => ⟨k, by rw [Int.toNat_of_nonneg (by omega)]; exact hX⟩, fun z => by cases z⟩
          have nes : ∀ s2 : Sit, endS rows s2 = false → s2.2 ≠ [] := fun s2 b2 z => by unfold endS at b2; rw [z] at b2; simp at b2
          have sm := nx_small z5 m2
          obtain ⟨n0, hn0, _⟩ := l3 s (khasT kvs s) (fun e => nx_tab z5 st1 st2 st3 (nes s e)) (fun e => ⟨(z6 e).1, (z6 e).2.imp fun X hX => hX.1⟩)
          refine ⟨HsW rows wt ls kvs (.ref a) (.ref wa) (.ref tb) (.ref tl) (.ref pbst) (.ref pp) W Hi, ⟨n0, y2, [c], s, [], rfl, Same.refl _, z2, ⟨sm.1, sm.2, fun ne => nx_tab z5 st1 st2 st3 ne⟩, hn0, List.nodup_nil, fun g hg => (nomatch hg), fun _ g hg => (nomatch hg), rfl⟩, ?_⟩
          rintro n σ Hj ⟨x, syl, s, vis, rfl, g1, g2, ⟨g3, g4, g5⟩, g6, g7, g8, g9, g10⟩
          have vl := vis_len g7 g8
          have e1 := MoR.mo g1 e1
          have k1 := MoR.mo g1 k1
          have k2 := MoR.mo g1 k2
          have htb := MoR.mo g1 htb
          have hpp := MoR.mo g1 hpp
          obtain ⟨ps, rfl, hps⟩ := id g2
          obtain ⟨tk, t1, t2⟩ := id htb
          have e1' : Same H Hj := e1
          have fin : tRet (tTup (tCons (tVar 7) (tCons (tVar 9) (tCons (tOp rAddT (tOp rAddT (tOp (rIxT K) (tVar 6) (tC (.int 0))) (tVar 9)) (tOp (rIxT K) (tVar 8) (tC (.int 1)))) tNil)))) (Ends0 Q)
            [some (.ref a), some (T ls), some (.ref wa), some (.ref tb), some (.ref tl), some (.ref pbst), some (.ref pp), some (.int W), some (.ref ps), some (T syl), none, none] Hj := by
            walk_at "rd"
            refine ⟨_, _, _, _, rfl, rfl, SqT.of hpp, at0, ?_⟩
            walk_at "rd"
            refine ⟨_, _, _, _, rfl, rfl, SqT.of hps, at1, ?_⟩
            walk_at "rd"
            intro pf nf
            generalize hh_pf : upd _ pf _ = Hf
            obtain ⟨ef, hf⟩ := al nf hh_pf
            clear hh_pf
            exact q2 _ _ W _ _ (e1'.trans ef) ⟨pf, rfl, hf⟩ ⟨p, z3, z4.1⟩ fun p' hp' V hV => mx p' (stin p' hp') V hV
          generalize tRet _ = M at fin ⊢
          walk_at "rd"
          refine ⟨_, _, _, _, rfl, rfl, SqT.of hps, at1, ?_⟩
          walk_at "rd"
          refine iteB (fun c1 => ?_) (fun c1 => ?_)
          · have ne : s.2 ≠ [] := by simpa using c1
            have itab := g5 ne
            have eE : endS rows s = jt rows s.1 s.2 := by unfold endS; rw [decide_eq_false ne, Bool.false_or]
            walk_at "rd"
            refine ⟨tb, _, rfl, dget_t (k := kp s.1 s.2) t1 hps (t2.get itab), ?_⟩
            walk_at "rd"
            refine iteB (fun c2 => ?_) (fun c2 => ?_)
            · have e0 : endS rows s = false := by rw [eE]; simpa using c2
              obtain ⟨kh, mxs⟩ := g6 e0
              obtain ⟨v, W2, s2, u1, u2, u3⟩ := k2.get kh
              obtain ⟨x2, ⟨p2, rfl, u4⟩, u5⟩ := id u2
              have eW : W2 = n := by
                have := u3.mx.2 _ mxs.1
                have := mxs.2 _ u3.mx.1
                omega
              obtain ⟨c', r2, hr2⟩ : ∃ c' r2, s.2 = c' :: r2 := by
                cases hc : s.2 with
                | nil => exact absurd hc ne
                | cons c r' => exact ⟨c, r', rfl⟩
              refine ⟨fun σ' H' => ∃ m, m < n ∧ HsW rows wt ls kvs (.ref a) (.ref wa) (.ref tb) (.ref tl) (.ref pbst) (.ref pp) W Hi m σ' H', fun _ _ h => h, ?_⟩
              walk_at "rd"
              refine ⟨_, _, _, _, rfl, rfl, SqT.of hps, at1, ?_⟩
              rw [hr2]
              walk_at "rd"
              refine ⟨_, _, c', rfl, rfl, by rw [← hr2]; exact line_ok (by omega), at0, ?_⟩
              walk_at "rd"
              refine ⟨tl, _, rfl, dget_t (k := kp s.1 s.2) k1 (by rw [kp_map]; exact hps) u1, ?_⟩
              walk_at "rd"
              refine ⟨_, _, _, _, rfl, rfl, SqT.of u4, at1, ?_⟩
              obtain ⟨mm1, mm2, mm3⟩ := mem_sides.mp itab.1
              have itab2 : endS rows s2 = false → InTab ls s2 := fun e => nx_tab u3.way mm2 mm3 itab.2 (nes s2 e)
              obtain ⟨m, hm, hm0⟩ := l3 s2 (khasT kvs s2) itab2 (fun e => ⟨(u3.nxt e).1, (u3.nxt e).2.imp fun X hX => hX.1⟩)
              have small : endS rows s2 = false → (m : Int) < n := fun e => by
                obtain ⟨_, X, x1, x2⟩ := u3.nxt e
                have := x1.2 _ (hm e).2.1
                have := hw_pos1 w1 itab.2
                omega
              have npos : 1 ≤ (n : Int) := by
                have := mxs.2 _ (.one s)
                have := hw_pos1 w1 itab.2
                omega
              have sm2 := nx_small u3.way g4
              refine ⟨m, ?_, x2, syl ++ [c'], s2, s :: vis, rfl, g1, u5, ⟨sm2.1, sm2.2, fun ne => nx_tab u3.way mm2 mm3 itab.2 ne⟩, hm, List.nodup_cons.mpr ⟨fun hv => ?_, g7⟩, fun g hg => ?_, fun e g hg X hX => ?_, by rw [List.length_append, g10]; rfl⟩
              · cases e : endS rows s2 with
                | true => rw [hm0 e]; omega
                | false => have := small e; omega
              · have := g9 e0 s hv _ mxs
                omega
              · rcases List.mem_cons.mp hg with z | z
                · rw [z]
                  obtain ⟨v, hv⟩ := kh
                  exact List.mem_map.mpr ⟨_, hv, rfl⟩
                · exact g8 g z
              · have := small e
                rcases List.mem_cons.mp hg with z | z
                · rw [z] at hX
                  have := mxs.2 _ hX.1
                  have := hX.2 _ mxs.1
                  omega
                · have := g9 e0 g z X hX
                  omega
            · exact fin
          · exact fin
end K33
set_option Elab.async false
set_option linter.all false
set_option maxRecDepth 100000
set_option maxHeartbeats 4000000
/-! readings: lines -/
namespace K33
open PySem PySem.Spec PyProof.Rows L2
local macro_rules | `(tactic| walk_at "sz") => `(tactic| first | exact Nat.zero_le _ | omega | (simp only [sizeLine_eq, cutL_to, cutL_from, cutL_mid, List.length_append, List.length_cons, List.length_nil, List.length_take, List.length_drop, List.length_map, List.length_dropLast]; omega) | decide | (refine Nat.le_trans (cutL_len _ _ _) ?_; simp only [sizeLine_eq, List.length_append, List.length_cons, List.length_nil, List.length_take, List.length_drop]; omega))
local macro_rules | `(tactic| walk_at "rd") => `(tactic| ((try dsimp only); repeat (first
  | refine ⟨_, rfl, ?_⟩
  | refine ⟨rfl, ?_⟩
  | refine ⟨_, _, rfl, rfl, ?_⟩
  | refine ⟨_, _, rfl, ?_⟩
  | refine ⟨_, _, rfl, SqT.of upd_same, rfl, ?_⟩
  | refine And.intro ⟨_, rfl⟩ ?_
  | refine And.intro (by walk_at "sz") ?_)))
local macro_rules | `(tactic| walk_at "rn") => `(tactic| repeat (first
  | refine ⟨_, rfl, ?_⟩
  | refine ⟨rfl, ?_⟩
  | refine ⟨_, _, rfl, rfl, ?_⟩
  | refine ⟨_, _, rfl, ?_⟩
  | refine ⟨_, _, rfl, SqT.of upd_same, rfl, ?_⟩
  | refine And.intro ⟨_, rfl⟩ ?_
  | refine And.intro (by walk_at "sz") ?_))
/-- a state: two widths -/
def StAt (H : Hp) (v : V) (s : Int × Int) : Prop := TupOf H v [.int s.1, .int s.2]
instance {v : V} {s : Int × Int} : Tu (fun H => StAt H v s) := ⟨fun e h => Tu.mo (P := fun H => TupOf H v [.int s.1, .int s.2]) e h, fun hD n h => Tu.set (P := fun H => TupOf H v [.int s.1, .int s.2]) hD n h⟩
instance {v : V} {s : Int × Int} : Mo (fun H => StAt H v s) := ⟨fun e h => Tu.mo (P := fun H => StAt H v s) e h⟩
instance {H H' : Hp} {v : V} {s : Int × Int} : MoR H H' (StAt H v s) (StAt H' v s) := ⟨fun e h => Tu.mo (P := fun H => StAt H v s) e h⟩
theorem lsit_cut (w : Word) (k : Nat) : cutL w (some (if (k : Int) - 3 > 0 then (k : Int) - 3 else 0)) (some (k : Int)) = lsit w k := by
  have e : (if (k : Int) - 3 > 0 then (k : Int) - 3 else 0) = ((k - 3 : Nat) : Int) := by split <;> omega
  rw [e, cutL_mid]
  unfold lsit
  rw [List.drop_take]
theorem rsit_cut (w : Word) (k : Nat) : cutL w (some (k : Int)) (some ((k : Int) + 3)) = rsit w k := by
  rw [show (k : Int) + 3 = ((k + 3 : Nat) : Int) by omega, cutL_mid]
  unfold rsit
  congr 1
  omega
theorem atI_getD {w : Word} {k : Nat} (h : k < w.length) : atI w (k : Int) = some (w.getD k 0) := atI_nat (by rw [List.getD_eq_getElem?_getD, List.getElem?_eq_getElem h]; rfl)
def lstep (rows : List Row) (wt : Nat → Int) (h R F : Int) (w : Word) (at_ : Int) (st : Int × Int) : Int × Int := if at_ < 0 then st else pstep h R F (jAt rows w at_.toNat) (wt (w.getD at_.toNat 0)) st
def sp_letter_on : Sp := fun vs H Q _ => ∃ (w : Word) (i : Int) (sv : V) (tb wa : Addr) (lv : V) (ls : Word) (rows : List Row) (wt : Nat → Int) (h R F : Int) (st : Int × Int), vs = [T w, .int i, sv, .ref tb, .ref wa, lv] ∧ StAt H sv st ∧ TabAt rows ls H tb ∧ WtAt wt ls H wa ∧ TupOf H lv [.int h, .int R, .int F] ∧
  (Over ls w ∧ w.length ≤ 1000000 ∧ i < w.length ∧ Short rows) ∧ ∀ v H', Same H H' → StAt H' v (lstep rows wt h R F w i st) → Q v H'
theorem rd_letter_on {K : PySem.W.Frag} {vs : List V} {H : Hp} {Q : VK} {E : XK} (hh : sp_letter_on vs H Q E) : t_letter_on K (Ends0 Q) (start ["word", "at", "state", "table", "weight", "limits", "head", "line", "hyphen", "room", "first"] vs) H := by
  obtain ⟨w, i, sv, tb, wa, lv, ls, rows, wt, h, R, F, ⟨s1, s2⟩, rfl, hs, htb, hwa, hlv, ⟨ho, hw, hi, hsh⟩, q⟩ := hh
  unfold t_letter_on
  walk_at "rd"
  refine iteB (fun c => ?_) (fun c => ?_)
  · have c' := of_decide_eq_true c
    walk_at "rd"
    refine q _ _ (Same.refl _) ?_
    unfold lstep
    rw [if_pos c']
    exact hs
  · have c' := of_decide_eq_false c
    obtain ⟨k, rfl⟩ : ∃ k : Nat, i = (k : Int) := ⟨i.toNat, by omega⟩
    have hk : k < w.length := by omega
    unfold lstep at q
    rw [if_neg (by omega), Int.toNat_natCast] at q
    obtain ⟨ps, rfl, hps⟩ := hs
    obtain ⟨pl, rfl, hpl⟩ := hlv
    obtain ⟨kw, w1, w2⟩ := hwa
    have hx := w2 _ (ho _ (getD_mem hk))
    have key : ∀ (H1 : Hp) (l : Int), Same H H1 → (l = if jAt rows w k = true ∧ (s1 + h ≤ F ∨ s2 + h ≤ R) then 0 else s2) →
      (tSeq (tPar 6 7 (tCons (tOp (rI0 fun i j => .int (i + j)) (tVar 6) (tDGet (tVar 4) (tOp rIxTx (tVar 0) (tVar 1)))) (tCons (tOp (rI0 fun i j => .int (i + j)) (tVar 7) (tDGet (tVar 4) (tOp rIxTx (tVar 0) (tVar 1)))) tNil)))
    (tSeq (tIfS (tTest (tOp (rI0 fun i j => .bl (decide (j < i))) (tVar 6) (tVar 10)))
    (tAsg (tC (.int 1000000)) (gName 6))
    tNext)
    (tSeq (tIfS (tTest (tOp (rI0 fun i j => .bl (decide (j < i))) (tVar 7) (tVar 9)))
    (tAsg (tC (.int 1000000)) (gName 7))
    tNext)
    (tRet (tTup (tCons (tVar 6) (tCons (tVar 7) tNil))))))) (Ends0 Q) [some (T w), some (.int (k : Int)), some (.ref ps), some (.ref tb), some (.ref wa), some (.ref pl), some (.int s1), some (.int l), some (.int h), some (.int R), some (.int F)] H1 := by
      intro H1 l e1 hl
      walk_at "rd"
      refine ⟨_, _, _, rfl, rfl, by walk_at "sz", atI_getD hk, ?_⟩
      refine ⟨wa, _, rfl, dget_k (e1 _ _ w1) hx, ?_⟩
      walk_at "rd"
      refine ⟨_, _, _, rfl, rfl, by walk_at "sz", atI_getD hk, ?_⟩
      refine ⟨wa, _, rfl, dget_k (e1 _ _ w1) hx, ?_⟩
      walk_at "rd"
      have fin : ∀ (H2 : Hp) (a b : Int), Same H1 H2 → a = (if s1 + wt (w.getD k 0) > F then NEV else s1 + wt (w.getD k 0)) → b = (if l + wt (w.getD k 0) > R then NEV else l + wt (w.getD k 0)) → ∀ p, H2 p = none → Q (.ref p) (upd H2 p (.tup [.int a, .int b])) := by
        intro H2 a b e2 ha hb p np
        refine q _ _ ((e1.trans e2).trans (Same.new np)) ⟨p, rfl, ?_⟩
        rw [upd_same]
        unfold pstep
        simp only
        rw [← hl, ← ha, ← hb]
      refine iteB (fun c1 => ?_) (fun c1 => ?_)
      · have c1' := of_decide_eq_true c1
        walk_at "rd"
        refine iteB (fun c2 => ?_) (fun c2 => ?_)
        · have c2' := of_decide_eq_true c2
          walk_at "rd"
          exact fin H1 _ _ (Same.refl _) (by rw [if_pos (by omega)]) (by rw [if_pos (by omega)])
        · have c2' := of_decide_eq_false c2
          walk_at "rd"
          exact fin H1 _ _ (Same.refl _) (by rw [if_pos (by omega)]) (by rw [if_neg (by omega)])
      · have c1' := of_decide_eq_false c1
        walk_at "rd"
        refine iteB (fun c2 => ?_) (fun c2 => ?_)
        · have c2' := of_decide_eq_true c2
          walk_at "rd"
          exact fin H1 _ _ (Same.refl _) (by rw [if_neg (by omega)]) (by rw [if_pos (by omega)])
        · have c2' := of_decide_eq_false c2
          walk_at "rd"
          exact fin H1 _ _ (Same.refl _) (by rw [if_neg (by omega)]) (by rw [if_neg (by omega)])
    generalize tSeq (tPar 6 7 _) _ = M at key ⊢
    walk_at "rn"
    refine ⟨ps, _, rfl, SqT.of hps, rfl, ?_⟩
    walk_at "rn"
    refine ⟨pl, _, rfl, SqT.of hpl, rfl, ?_⟩
    walk_at "rd"
    refine iteB (fun c1 => ?_) (fun c1 => ?_)
    · have c1' : 0 < k := by have := of_decide_eq_true c1; omega
      walk_at "rd"
      rw [lsit_cut, rsit_cut]
      intro pk npk
      generalize hh_pk : upd _ pk _ = H1
      obtain ⟨e1, hpk⟩ := al npk hh_pk
      clear hh_pk
      obtain ⟨tk, t1, t2⟩ := MoR.mo e1 htb
      have itab : InTab ls (lsit w k, rsit w k) := ⟨lsit_mem ho c1' (by omega), rsit_mem ho hk⟩
      have ej : jAt rows w k = jt rows (lsit w k) (rsit w k) := by
        unfold jAt
        rw [decide_eq_true c1', Bool.true_and, joint_loc hsh w k (by omega)]
      refine ⟨tb, _, rfl, dget_t (k := kp (lsit w k) (rsit w k)) t1 (by rw [kp_map]; exact hpk) (t2.get itab), ?_⟩
      walk_at "rd"
      refine iteB (fun c2 => ?_) (fun c2 => ?_)
      · have j1 : jAt rows w k = true := by rw [ej]; exact c2
        walk_at "rd"
        refine iteB (fun c3 => ?_) (fun c3 => ?_)
        · have c3' := of_decide_eq_true c3
          walk_at "rd"
          exact key H1 0 e1 (by rw [if_pos ⟨j1, .inl c3'⟩])
        · have c3' := of_decide_eq_false c3
          walk_at "rd"
          refine iteB (fun c4 => ?_) (fun c4 => ?_)
          · have c4' := of_decide_eq_true c4
            walk_at "rd"
            exact key H1 0 e1 (by rw [if_pos ⟨j1, .inr c4'⟩])
          · have c4' := of_decide_eq_false c4
            exact key H1 s2 e1 (by rw [if_neg fun z => z.2.elim c3' c4'])
      · have j1 : jAt rows w k = false := by rw [ej]; exact c2
        exact key H1 s2 e1 (by rw [if_neg fun z => by rw [j1] at z; cases z.1])
    · have c1' : k = 0 := by have := of_decide_eq_false c1; omega
      have j1 : jAt rows w k = false := by unfold jAt; rw [c1']; rfl
      exact key H s2 (Same.refl _) (by rw [if_neg fun z => by rw [j1] at z; cases z.1])
end K33
set_option Elab.async false
set_option linter.all false
set_option maxRecDepth 100000
set_option maxHeartbeats 4000000
/-! readings: the end of a word, what is kept -/
namespace K33
open PySem PySem.Spec PyProof.Rows L2
local macro_rules | `(tactic| walk_at "sz") => `(tactic| first | exact Nat.zero_le _ | omega | (simp only [sizeLine_eq, cutL_to, cutL_from, cutL_mid, List.length_append, List.length_cons, List.length_nil, List.length_take, List.length_drop, List.length_map, List.length_dropLast]; omega) | decide | (refine Nat.le_trans (cutL_len _ _ _) ?_; simp only [sizeLine_eq, List.length_append, List.length_cons, List.length_nil, List.length_take, List.length_drop]; omega))
local macro_rules | `(tactic| walk_at "rd") => `(tactic| ((try dsimp only); repeat (first
  | refine ⟨_, rfl, ?_⟩
  | refine ⟨rfl, ?_⟩
  | refine ⟨_, _, rfl, rfl, ?_⟩
  | refine ⟨_, _, rfl, ?_⟩
  | refine ⟨_, _, rfl, SqT.of upd_same, rfl, ?_⟩
  | refine And.intro ⟨_, rfl⟩ ?_
  | refine And.intro (by walk_at "sz") ?_)))
local macro_rules | `(tactic| walk_at "rn") => `(tactic| repeat (first
  | refine ⟨_, rfl, ?_⟩
  | refine ⟨rfl, ?_⟩
  | refine ⟨_, _, rfl, rfl, ?_⟩
  | refine ⟨_, _, rfl, ?_⟩
  | refine ⟨_, _, rfl, SqT.of upd_same, rfl, ?_⟩
  | refine And.intro ⟨_, rfl⟩ ?_
  | refine And.intro (by walk_at "sz") ?_))
def sp_can_end : Sp := fun vs H Q _ => ∃ (w : Word) (sv : V) (tb wa : Addr) (lv : V) (ls : Word) (rows : List Row) (wt : Nat → Int) (h R F : Int), vs = [T w, sv, .ref tb, .ref wa, lv] ∧ StAt H sv (pst rows wt h R F w) ∧ TabAt rows ls H tb ∧ WtAt wt ls H wa ∧ TupOf H lv [.int h, .int R, .int F] ∧
  (Over ls w ∧ w.length ≤ 1000000 ∧ 1 ≤ w.length ∧ Short rows) ∧ ∀ b H', Same H H' → (b = true ↔ okW rows wt h R F w) → Q (.bl b) H'
theorem eqv2 (a b c d : Int) : PyData.eqv (.tuple [.int a, .int b]) (.tuple [.int c, .int d]) = (decide (a = c) && decide (b = d)) := by
  simp [PyData.eqv, PyData.eqvAll]
  rfl
theorem rd_can_end {K : PySem.W.Frag} {vs : List V} {H : Hp} {Q : VK} {E : XK} (hh : sp_can_end vs H Q E) : t_can_end K sp_letter_on (Ends0 Q) (start ["word", "state", "table", "weight", "limits", "at"] vs) H := by
  obtain ⟨w, sv, tb, wa, lv, ls, rows, wt, h, R, F, rfl, hs, htb, hwa, hlv, ⟨ho, hw, h1, hsh⟩, q⟩ := hh
  unfold t_can_end
  walk_at "rn"
  intro p np
  generalize hh_p : upd _ p _ = H1
  obtain ⟨e1, hp⟩ := al np hh_p
  clear hh_p
  walk_at "rn"
  refine ⟨⟨_, SqT.of hp⟩, ?_⟩
  refine for_tup (fun i σ H' => ∃ sv' x5, σ = [some (T w), some sv', some (.ref tb), some (.ref wa), some lv, x5] ∧ Same H1 H' ∧ StAt H' sv' (prun rows wt h R F w (w.length + i - 2))) ⟨sv, none, rfl, Same.refl _, MoR.mo e1 hs⟩ (fun i σ H' _ ⟨_, _, _, e, _⟩ => SqT.of (e _ _ hp)) ?_ ?_
  · rintro i x σ H2 hx ⟨sv', x5, rfl, e2, hst⟩
    have e12 := e1.trans e2
    have htb := MoR.mo e12 htb
    have hwa := MoR.mo e12 hwa
    have hlv := MoR.mo e12 hlv
    have hi : i = 0 ∨ i = 1 := by
      have := (List.getElem?_eq_some_iff.mp hx).1
      simp at this
      omega
    have ex : x = .int ((w.length : Int) - 2 + i) := by
      rcases hi with z | z <;> subst z <;> simp at hx <;> subst hx
      · simp
      · congr 1
        omega
    subst ex
    walk_at "rd"
    refine ⟨w, _, sv', tb, wa, lv, ls, rows, wt, h, R, F, _, rfl, hst, htb, hwa, hlv, ⟨ho, hw, by omega, hsh⟩, fun v H3 e3 hv => ?_⟩
    walk_at "rd"
    refine ⟨e2.trans e3, ?_⟩
    unfold lstep at hv
    by_cases c : (w.length : Int) - 2 + i < 0
    · rw [if_pos c, show w.length + i - 2 = w.length + (i + 1) - 2 by omega] at hv
      exact hv
    · rw [if_neg c, show ((w.length : Int) - 2 + i).toNat = w.length + i - 2 by omega] at hv
      rw [show w.length + (i + 1) - 2 = (w.length + i - 2) + 1 by omega]
      exact hv
  · rintro σ H2 ⟨sv', x5, rfl, e2, ⟨ps, rfl, hps⟩⟩
    simp only [List.length_cons, List.length_nil] at hps
    rw [show w.length + (0 + 1 + 1) - 2 = w.length by omega] at hps
    walk_at "rd"
    intro p3 np3
    generalize hh_p3 : upd _ p3 _ = H3
    obtain ⟨e3, hp3⟩ := al np3 hh_p3
    clear hh_p3
    refine ⟨_, _, .tup (SqT.of (e3 _ _ hps)) (.cons (.int _) (.cons (.int _) .nil)), .tup (SqT.of hp3) (.cons (.int _) (.cons (.int _) .nil)), by rfl, by rfl, ?_⟩
    rw [eqv2]
    refine q _ _ ((e1.trans e2).trans e3) ?_
    unfold okW
    generalize prun rows wt h R F w w.length = s
    obtain ⟨s1, s2⟩ := s
    simp
    show (¬ s1 = (1000000 : Int) ∨ ¬ s2 = 1000000) ↔ (s1 = 1000000 → ¬ s2 = 1000000)
    omega
/-! ### what is kept -/
abbrev KL := List (Addr × Word × List (Int × Int))
def kvOf (x : Addr × Word × List (Int × Int)) : Key × V := (kt x.2.1, .ref x.1)
structure KeptAt (H : Hp) (kd : Addr) (L : KL) : Prop where
  at_ : H kd = some (.dK (L.map kvOf))
  nd : (L.map (·.1)).Nodup
  keys : (L.map fun x => x.2.1).Nodup
  rows : ∀ x ∈ L, Lst StAt H x.1 x.2.2
theorem KeptAt.ne {H : Hp} {kd : Addr} {L : KL} (k : KeptAt H kd L) {x : Addr × Word × List (Int × Int)} (hx : x ∈ L) : x.1 ≠ kd := by
  obtain ⟨vs, h1, _⟩ := k.rows x hx
  exact ne_at h1 k.at_ fun e => by cases e
theorem KeptAt.mo {H H' : Hp} {kd : Addr} {L : KL} (k : KeptAt H kd L) (e : Same H H') : KeptAt H' kd L := ⟨e _ _ k.at_, k.nd, k.keys, fun x hx => let ⟨vs, a, b⟩ := k.rows x hx; ⟨vs, e _ _ a, paired_tu e b⟩⟩
instance {H H' : Hp} {kd : Addr} {L : KL} : MoR H H' (KeptAt H kd L) (KeptAt H' kd L) := ⟨fun e h => h.mo e⟩
theorem nodup_key {α β : Type} {f : α → β} {L : List α} (nd : (L.map f).Nodup) {x y : α} (hx : x ∈ L) (hy : y ∈ L) (e : f x = f y) : x = y := by
  induction L with
  | nil => cases hx
  | cons a r ih =>
    rw [List.map_cons, List.nodup_cons] at nd
    rcases List.mem_cons.mp hx with z | z <;> rcases List.mem_cons.mp hy with y' | y'
    · rw [z, y']
    · exact absurd (List.mem_map.mpr ⟨y, y', by rw [← e, z]⟩) nd.1
    · exact absurd (List.mem_map.mpr ⟨x, z, by rw [e, y']⟩) nd.1
    · exact ih nd.2 z y'
theorem kl_get {L : KL} (nd : (L.map fun x => x.2.1).Nodup) {x : Addr × Word × List (Int × Int)} (hx : x ∈ L) : valV (L.map kvOf) (kt x.2.1) = some (.ref x.1) ∧ kget (L.map (·.2)) x.2.1 = x.2.2 := by
  constructor
  · unfold valV
    cases e : (L.map kvOf).find? fun kv => decide (kv.1 = kt x.2.1) with
    | none =>
      have := List.find?_eq_none.mp e _ (List.mem_map.mpr ⟨x, hx, rfl⟩)
      simp [kvOf] at this
    | some kv =>
      have h0 := List.find?_some e
      have h1 := of_decide_eq_true h0
      obtain ⟨y, hy, rfl⟩ := List.mem_map.mp (List.mem_of_find?_eq_some e)
      have := nodup_key nd hy hx (kt_inj h1)
      rw [this]
      rfl
  · have := kget_of (K := L.map (·.2)) (by rw [List.map_map]; exact nd) (List.mem_map.mpr ⟨x, hx, rfl⟩)
    exact this
theorem kl_no {L : KL} {t : Word} (h : ∀ x ∈ L, x.2.1 ≠ t) : valV (L.map kvOf) (kt t) = none ∧ kget (L.map (·.2)) t = [] ∧ khas (L.map (·.2)) t = false := by
  refine ⟨?_, ?_, ?_⟩
  · unfold valV
    rw [List.find?_eq_none.mpr fun kv hkv => ?_]
    · rfl
    · obtain ⟨y, hy, rfl⟩ := List.mem_map.mp hkv
      simp only [decide_eq_true_eq]
      exact fun e => h y hy (kt_inj e)
  · unfold kget
    rw [List.find?_eq_none.mpr fun kv hkv => ?_]
    obtain ⟨y, hy, rfl⟩ := List.mem_map.mp hkv
    simp only [decide_eq_true_eq]
    exact h y hy
  · unfold khas
    rw [Bool.eq_false_iff]
    intro c
    obtain ⟨p, hp, e⟩ := List.any_eq_true.mp c
    obtain ⟨y, hy, rfl⟩ := List.mem_map.mp hp
    exact h y hy (of_decide_eq_true e)
def sp_is_new : Sp := fun vs H Q _ => ∃ (kd : Addr) (t : Word) (sv : V) (L : KL) (st : Int × Int), vs = [.ref kd, T t, sv] ∧ StAt H sv st ∧ KeptAt H kd L ∧ (L.length ≤ 1000 ∧ ∀ x ∈ L, x.2.2.length ≤ 2000) ∧
  (domB (kget (L.map (·.2)) t) st = true → ∀ H', Same H H' → Q (.bl false) H') ∧
  (domB (kget (L.map (·.2)) t) st = false → ∀ H' L', (∀ b o, b ≠ kd → (∀ x ∈ L, x.1 ≠ b) → H b = some o → H' b = some o) → KeptAt H' kd L' → L'.map (·.2) = kput (L.map (·.2)) t st → (∀ x ∈ L', (∃ y ∈ L, y.1 = x.1) ∨ H x.1 = none) → (∀ p xs, H p = some (.tup xs) → H' p = some (.tup xs)) → Q (.bl true) H')
def new_rest (K : PySem.W.Frag) : L2.TS := (tSeq (tFor (iList K (tVar 3)) (gTup K 2 (gCons (gName 4) (gCons (gName 5) gNil)))
    (tIfS (tAnd (tTest (tOp (rI0 fun i j => .bl (decide (j ≤ i))) (tVar 4) (tOp (rIxT K) (tVar 2) (tC (.int 0))))) (tTest (tOp (rI0 fun i j => .bl (decide (j ≤ i))) (tVar 5) (tOp (rIxT K) (tVar 2) (tC (.int 1))))))
    (tRet (tC (.bl false)))
    tNext))
    (tSeq (tDrop (tBM K "list" rAppend (tVar 3) (tCons (tVar 2) tNil)))
    (tRet (tC (.bl true)))))
theorem new_rest_ok {K : PySem.W.Frag} {v0 v1 : V} {ps a : Addr} {s1 s2 : Int} {H : Hp} {Q : VK} {vs : List V} {rws : List (Int × Int)} (hps : H ps = some (.tup [.int s1, .int s2])) (ha : H a = some (.lst vs)) (hv : Paired (StAt H) vs rws) (hl : rws.length ≤ 2000)
    (q1 : domB rws (s1, s2) = true → Q (.bl false) H) (q2 : domB rws (s1, s2) = false → Q (.bl true) (upd H a (.lst (vs ++ [.ref ps])))) : new_rest K (Ends0 Q) [some v0, some v1, some (.ref ps), some (.ref a), none, none] H := by
  have lv := Paired.len hv
  unfold new_rest
  walk_at "rn"
  refine ⟨⟨_, SqL.of ha⟩, ?_⟩
  refine for_list (fun i σ H' => ∃ x4 x5, σ = [some v0, some v1, some (.ref ps), some (.ref a), x4, x5] ∧ H' = H ∧ ∀ r ∈ rws.take i, (decide (s1 ≤ r.1) && decide (s2 ≤ r.2)) = false) ⟨none, none, rfl, rfl, fun r hr => by simp at hr⟩ (fun i σ H' _ ⟨_, _, _, e, _⟩ => by rw [e]; exact SqL.of ha) ?_ ?_
  · rintro i x σ H1 hx ⟨x4, x5, rfl, rfl, hf⟩
    obtain ⟨r, hr, pr, rfl, hpr⟩ := Paired.at hv hx
    refine ⟨pr, _, rfl, SqT.of hpr, rfl, ?_⟩
    walk_at "rd"
    refine ⟨_, _, _, _, rfl, rfl, SqT.of hps, at0, ?_⟩
    walk_at "rd"
    refine iteB (fun c1 => ?_) (fun c1 => ?_)
    · walk_at "rd"
      refine ⟨_, _, _, _, rfl, rfl, SqT.of hps, at1, ?_⟩
      walk_at "rd"
      refine iteB (fun c2 => ?_) (fun c2 => ?_)
      · exact q1 (List.any_eq_true.mpr ⟨r, List.mem_of_getElem? hr, by rw [c1, c2]; rfl⟩)
      · refine ⟨_, _, rfl, rfl, fun r' h' => ?_⟩
        rcases mem_take1 hr h' with z | z
        · exact hf r' z
        · rw [z, c2, Bool.and_false]
    · refine ⟨_, _, rfl, rfl, fun r' h' => ?_⟩
      rcases mem_take1 hr h' with z | z
      · exact hf r' z
      · rw [z, c1, Bool.false_and]
  · rintro σ H1 ⟨x4, x5, rfl, rfl, hf⟩
    rw [lv, List.take_length] at hf
    walk_at "rd"
    refine ⟨.inl ⟨rfl, _, SqL.of ha⟩, ?_⟩
    walk_at "rd"
    refine ⟨a, vs, _, rfl, rfl, ha, line_lt (by omega), ?_⟩
    refine q2 ?_
    rw [Bool.eq_false_iff]
    intro c
    obtain ⟨r, hr, z⟩ := List.any_eq_true.mp c
    rw [hf r hr] at z
    cases z
theorem rd_is_new {K : PySem.W.Frag} {vs : List V} {H : Hp} {Q : VK} {E : XK} (hh : sp_is_new vs H Q E) : t_is_new K (Ends0 Q) (start ["kept", "tail", "state", "rows", "head", "line"] vs) H := by
  obtain ⟨kd, t, sv, L, ⟨s1, s2⟩, rfl, hs, hk, ⟨l1, l2⟩, q1, q2⟩ := hh
  obtain ⟨ps, rfl, hps⟩ := id hs
  have hbt : t_is_new K = tSeq (tAsg (tDSetd (tVar 0) (tVar 1) (tLst tNil)) (gName 3)) (new_rest K) := rfl
  rw [hbt]
  refine ⟨_, rfl, kd, rfl, .inl ⟨_, .inl hk.at_⟩, ?_⟩
  walk_at "rn"
  intro p np
  generalize hh_p : upd _ p _ = H1
  obtain ⟨e1, hp⟩ := al np hh_p
  clear hh_p
  have hk1 := hk.mo e1
  have hps1 := e1 _ _ hps
  refine ⟨L.map kvOf, kt t, hk1.at_, rfl, line_lt (by rw [List.length_map]; omega), fun v hv => ?_, fun hv => ?_⟩
  · by_cases hx : ∃ x ∈ L, x.2.1 = t
    · obtain ⟨x, hxm, rfl⟩ := hx
      obtain ⟨g1, g2⟩ := kl_get hk.keys hxm
      rw [g1] at hv
      cases hv
      rw [g2] at q1 q2
      obtain ⟨vs, r1, r2⟩ := hk1.rows x hxm
      refine new_rest_ok hps1 r1 r2 (l2 x hxm) (fun hd => q1 hd _ e1) fun hd => ?_
      have hxk := hk1.ne hxm
      have hcl : ∀ y ∈ L, (if y.2.1 = x.2.1 then (y.1, y.2.1, y.2.2 ++ [(s1, s2)]) else y).1 = y.1 ∧ (if y.2.1 = x.2.1 then (y.1, y.2.1, y.2.2 ++ [(s1, s2)]) else y).2.1 = y.2.1 := fun y _ => by split <;> exact ⟨rfl, rfl⟩
      have m1 : (L.map fun y => if y.2.1 = x.2.1 then (y.1, y.2.1, y.2.2 ++ [(s1, s2)]) else y).map (·.1) = L.map (·.1) := by
        rw [List.map_map]; exact List.map_congr_left fun y hy => (hcl y hy).1
      have m2 : (L.map fun y => if y.2.1 = x.2.1 then (y.1, y.2.1, y.2.2 ++ [(s1, s2)]) else y).map (fun y => y.2.1) = L.map (fun y => y.2.1) := by
        rw [List.map_map]; exact List.map_congr_left fun y hy => (hcl y hy).2
      have m3 : (L.map fun y => if y.2.1 = x.2.1 then (y.1, y.2.1, y.2.2 ++ [(s1, s2)]) else y).map kvOf = L.map kvOf := by
        rw [List.map_map]; exact List.map_congr_left fun y hy => by
          show kvOf _ = kvOf y
          unfold kvOf
          rw [(hcl y hy).1, (hcl y hy).2]
      refine q2 hd _ (L.map fun y => if y.2.1 = x.2.1 then (y.1, y.2.1, y.2.2 ++ [(s1, s2)]) else y) (fun b o b1 b2 b3 => ?_) ⟨?_, by rw [m1]; exact hk.nd, by rw [m2]; exact hk.keys, fun y hy => ?_⟩ ?_ (fun y hy => ?_) (fun q xs hq => ?_)
      · rw [upd_ne fun z => b2 x hxm z.symm]
        exact e1 _ _ b3
      · rw [upd_ne (Ne.symm hxk), m3]
        exact hk1.at_
      · obtain ⟨y0, hy0, rfl⟩ := List.mem_map.mp hy
        by_cases z : y0.2.1 = x.2.1
        · have := nodup_key hk.keys hy0 hxm z
          subst this
          rw [if_pos z]
          exact ⟨_, upd_same, paired_set r1 lst_no (Paired.snoc1 ⟨ps, rfl, hps1⟩ r2)⟩
        · rw [if_neg z]
          obtain ⟨us, u1, u2⟩ := hk1.rows y0 hy0
          have : y0.1 ≠ x.1 := fun e => z (by rw [nodup_key hk.nd hy0 hxm e])
          exact ⟨us, by rw [upd_ne this]; exact u1, paired_set r1 lst_no u2⟩
      · have hh : khas (L.map (·.2)) x.2.1 = true := khas_iff.mpr ⟨x.2, List.mem_map.mpr ⟨x, hxm, rfl⟩, rfl⟩
        unfold kput
        rw [if_pos hh, List.map_map, List.map_map]
        refine List.map_congr_left fun y _ => ?_
        show (if y.2.1 = x.2.1 then (y.1, y.2.1, y.2.2 ++ [(s1, s2)]) else y).2 = if y.2.1 = x.2.1 then (y.2.1, y.2.2 ++ [(s1, s2)]) else y.2
        split <;> rfl
      · obtain ⟨y0, hy0, rfl⟩ := List.mem_map.mp hy
        exact .inl ⟨y0, hy0, (hcl y0 hy0).1.symm⟩
      · have := e1 _ _ hq
        rw [upd_ne (ne_at this r1 fun e => by cases e)]
        exact this
    · rw [(kl_no fun x hx' e => hx ⟨x, hx', e⟩).1] at hv
      cases hv
  · have hx : ∀ x ∈ L, x.2.1 ≠ t := fun x hxm e => by
      subst e
      rw [(kl_get hk.keys hxm).1] at hv
      cases hv
    obtain ⟨n1, n2, n3⟩ := kl_no hx
    have npk : p ≠ kd := (ne_of_none hk.at_ np).symm
    have npL : ∀ x ∈ L, x.1 ≠ p := fun x hxm => by
      obtain ⟨vs, r1, _⟩ := hk.rows x hxm
      exact ne_of_none r1 np
    have hpk : ps ≠ kd := ne_at hps hk.at_ fun e => by cases e
    refine new_rest_ok (vs := []) (rws := []) (by rw [upd_ne hpk]; exact hps1) (by rw [upd_ne npk]; exact hp) .nil (by decide) (fun hd => by cases hd) fun _ => ?_
    rw [n2] at q2
    refine q2 rfl _ (L ++ [(p, t, [(s1, s2)])]) (fun b o b1 b2 b3 => ?_) ⟨?_, ?_, ?_, fun y hy => ?_⟩ ?_ (fun y hy => ?_) (fun q xs hq => ?_)
    · rw [upd_ne (ne_of_none b3 np), upd_ne b1]
      exact e1 _ _ b3
    · rw [upd_ne (Ne.symm npk), upd_same, putK_new _ n1, List.map_append]
      rfl
    · rw [List.map_append]
      refine List.nodup_append.mpr ⟨hk.nd, List.nodup_cons.mpr ⟨fun z => (nomatch z), List.nodup_nil⟩, fun a ha b hb e => ?_⟩
      obtain ⟨y, hy, rfl⟩ := List.mem_map.mp ha
      exact npL y hy (e.trans (List.mem_singleton.mp hb))
    · rw [List.map_append]
      refine List.nodup_append.mpr ⟨hk.keys, List.nodup_cons.mpr ⟨fun z => (nomatch z), List.nodup_nil⟩, fun a ha b hb e => ?_⟩
      obtain ⟨y, hy, rfl⟩ := List.mem_map.mp ha
      exact hx y hy (e.trans (List.mem_singleton.mp hb))
    · rcases List.mem_append.mp hy with z | z
      · obtain ⟨us, u1, u2⟩ := hk1.rows y z
        refine ⟨us, by rw [upd_ne (npL y z), upd_ne (hk1.ne z)]; exact u1, paired_set (o := .lst []) (by rw [upd_ne npk]; exact hp) lst_no (paired_set hk1.at_ (fun xs e => by cases e) u2)⟩
      · rw [List.mem_singleton.mp z]
        refine ⟨_, upd_same, .cons ⟨ps, rfl, ?_⟩ .nil⟩
        rw [upd_ne (ne_of_none hps np), upd_ne hpk]
        exact hps1
    · unfold kput
      rw [if_neg (by rw [n3]; decide), List.map_append]
      rfl
    · rcases List.mem_append.mp hy with z | z
      · exact .inl ⟨y, z, rfl⟩
      · rw [List.mem_singleton.mp z]
        exact .inr np
    · rw [upd_ne (ne_of_none hq np), upd_ne (ne_at hq hk.at_ fun e => by cases e)]
      exact e1 _ _ hq
end K33
set_option Elab.async false
set_option linter.all false
set_option maxRecDepth 100000
set_option maxHeartbeats 4000000
/-! readings: the first word that cannot be set -/
namespace K33
open PySem PySem.Spec PyProof.Rows L2
local macro_rules | `(tactic| walk_at "sz") => `(tactic| first | exact Nat.zero_le _ | omega | (simp only [sizeLine_eq, cutL_to, cutL_from, cutL_mid, List.length_append, List.length_cons, List.length_nil, List.length_take, List.length_drop, List.length_map, List.length_dropLast]; omega) | decide | (refine Nat.le_trans (cutL_len _ _ _) ?_; simp only [sizeLine_eq, List.length_append, List.length_cons, List.length_nil, List.length_take, List.length_drop]; omega))
local macro_rules | `(tactic| walk_at "rd") => `(tactic| ((try dsimp only); repeat (first
  | refine ⟨_, rfl, ?_⟩
  | refine ⟨rfl, ?_⟩
  | refine ⟨_, _, rfl, rfl, ?_⟩
  | refine ⟨_, _, rfl, ?_⟩
  | refine ⟨_, _, rfl, SqT.of upd_same, rfl, ?_⟩
  | refine And.intro ⟨_, rfl⟩ ?_
  | refine And.intro (by walk_at "sz") ?_)))
local macro_rules | `(tactic| walk_at "rn") => `(tactic| repeat (first
  | refine ⟨_, rfl, ?_⟩
  | refine ⟨rfl, ?_⟩
  | refine ⟨_, _, rfl, rfl, ?_⟩
  | refine ⟨_, _, rfl, ?_⟩
  | refine ⟨_, _, rfl, SqT.of upd_same, rfl, ?_⟩
  | refine And.intro ⟨_, rfl⟩ ?_
  | refine And.intro (by walk_at "sz") ?_))
theorem ext_at {ls : Word} {k c : Nat} (hk : ls[k]? = some c) : ∀ (ts : List Word) (j : Nat) (t : Word), ts[j]? = some t → (ext ls ts)[j * ls.length + k]? = some (t ++ [c]) := by
  have hk2 : k < ls.length := (List.getElem?_eq_some_iff.mp hk).1
  intro ts
  induction ts with
  | nil => intro j t h; simp at h
  | cons a r ih =>
    intro j t h
    unfold ext at ih ⊢
    rw [List.flatMap_cons]
    cases j with
    | zero =>
      simp at h
      subst h
      rw [Nat.zero_mul, Nat.zero_add, List.getElem?_append_left (by simpa using hk2), List.getElem?_map, hk]
      rfl
    | succ j =>
      rw [List.getElem?_append_right (by rw [List.length_map, Nat.succ_mul]; omega), List.length_map]
      have := ih j t (by simpa using h)
      rw [← this]
      congr 1
      rw [Nat.succ_mul]
      omega
/-- a word with its state -/
def LvAt (H : Hp) (v : V) (p : Word × (Int × Int)) : Prop := ∃ x, TupOf H v [T p.1, x] ∧ StAt H x p.2
theorem LvAt.tup {H H' : Hp} (e : ∀ p xs, H p = some (.tup xs) → H' p = some (.tup xs)) {v : V} {p : Word × (Int × Int)} (h : LvAt H v p) : LvAt H' v p := by
  obtain ⟨x, ⟨q, rfl, h1⟩, ⟨r, rfl, h2⟩⟩ := h
  exact ⟨_, ⟨q, rfl, e _ _ h1⟩, ⟨r, rfl, e _ _ h2⟩⟩
instance {v : V} {p : Word × (Int × Int)} : Tu (fun H => LvAt H v p) := ⟨fun e h => h.tup fun _ _ => e _ _, fun {H D o o'} hD n h => h.tup fun q xs hq => by
  have : q ≠ D := fun z => by
    rw [z, hD] at hq
    exact n _ (Option.some.inj hq)
  rw [upd_ne this]
  exact hq⟩
theorem KeptAt.set {H : Hp} {kd lg : Addr} {L : KL} {u u' : List V} (k : KeptAt H kd L) (hl : H lg = some (.lst u)) (n : ∀ x ∈ L, x.1 ≠ lg) : KeptAt (upd H lg (.lst u')) kd L :=
  ⟨by rw [upd_ne (ne_at k.at_ hl fun e => by cases e)]; exact k.at_, k.nd, k.keys, fun x hx => let ⟨vs, a, b⟩ := k.rows x hx; ⟨vs, by rw [upd_ne (n x hx)]; exact a, paired_set hl lst_no b⟩⟩
structure Ctx (rows : List Row) (wt : Nat → Int) (h R F : Int) (ls : Word) (tb wa lm kd : Addr) (H0 : Hp) : Prop where
  sh : Short rows
  l3 : ls.length ≤ 3
  asc : ls.Pairwise (· < ·)
  N : Nums wt h R F ls
  tab : TabAt rows ls H0 tb
  wts : WtAt wt ls H0 wa
  lim : TupOf H0 (.ref lm) [.int h, .int R, .int F]
  kn : H0 kd = none
/-- the search between two passes -/
def OvI (rows : List Row) (wt : Nat → Int) (h R F : Int) (ls : Word) (a tb wa lm kd : Addr) (H0 : Hp) (m : Nat) (σ : St) (H : Hp) : Prop := ∃ lv x10 x11 x12 x13 x14 x15 level n L acc, σ = [some (.ref a), some (T ls), some (.ref wa), some (.int h), some (.int R), some (.int F), some (.ref tb), some (.ref lm), some (.ref kd), some (.ref lv), x10, x11, x12, x13, x14, x15] ∧
  Same H0 H ∧ KeptAt H kd L ∧ (∀ x ∈ L, H0 x.1 = none ∧ x.1 ≠ lv) ∧ H lv = some (.lst acc) ∧ Paired (LvAt H) acc level ∧ LInv rows wt h R F ls n level (L.map (·.2)) ∧ (level = [] ∨ n ≤ ksum (L.map (·.2))) ∧ level.length ≤ 1000000 ∧ m = 2 * (KMAX - ksum (L.map (·.2))) + (if level = [] then 0 else 1)
/-- within a pass, j words looked at -/
structure OvP (rows : List Row) (wt : Nat → Int) (h R F : Int) (ls : Word) (kd lv lg : Addr) (H0 : Hp) (n : Nat) (level : Lev) (acc : List V) (K0 : KeptP) (j : Nat) (L : KL) (longer : Lev) (accl : List V) (H : Hp) : Prop where
  sm : Same H0 H
  kp : KeptAt H kd L
  fr : ∀ x ∈ L, H0 x.1 = none ∧ x.1 ≠ lv ∧ x.1 ≠ lg
  lv1 : H lv = some (.lst acc)
  lv2 : Paired (LvAt H) acc level
  lg1 : H lg = some (.lst accl)
  lg2 : Paired (LvAt H) accl longer
  p : PInv rows wt h R F ls n ((newsOf ls level).take j) (L.map (·.2)) longer
  sz : ksum K0 + longer.length = ksum (L.map (·.2))
def OpI (rows : List Row) (wt : Nat → Int) (h R F : Int) (ls : Word) (a tb wa lm kd lv lg : Addr) (H0 : Hp) (n : Nat) (level : Lev) (acc : List V) (K0 : KeptP) (i : Nat) (σ : St) (H : Hp) : Prop := ∃ x11 x12 x13 x14 x15 L longer accl, σ = [some (.ref a), some (T ls), some (.ref wa), some (.int h), some (.int R), some (.int F), some (.ref tb), some (.ref lm), some (.ref kd), some (.ref lv), some (.ref lg), x11, x12, x13, x14, x15] ∧
  OvP rows wt h R F ls kd lv lg H0 n level acc K0 (i * ls.length) L longer accl H
def OqI (rows : List Row) (wt : Nat → Int) (h R F : Int) (ls : Word) (a tb wa lm kd lv lg : Addr) (H0 : Hp) (n : Nat) (level : Lev) (acc : List V) (K0 : KeptP) (w : Word) (sv : V) (st : Int × Int) (j k : Nat) (σ : St) (H : Hp) : Prop := ∃ x13 x14 x15 L longer accl, σ = [some (.ref a), some (T ls), some (.ref wa), some (.int h), some (.int R), some (.int F), some (.ref tb), some (.ref lm), some (.ref kd), some (.ref lv), some (.ref lg), some (T w), some sv, x13, x14, x15] ∧
  StAt H sv st ∧ OvP rows wt h R F ls kd lv lg H0 n level acc K0 (j + k) L longer accl H
theorem OvP.mo {rows : List Row} {wt : Nat → Int} {h R F : Int} {ls : Word} {kd lv lg : Addr} {H0 : Hp} {n : Nat} {level : Lev} {acc : List V} {K0 : KeptP} {j : Nat} {L : KL} {longer : Lev} {accl : List V} {H H' : Hp} (o : OvP rows wt h R F ls kd lv lg H0 n level acc K0 j L longer accl H) (e : Same H H') :
    OvP rows wt h R F ls kd lv lg H0 n level acc K0 j L longer accl H' := ⟨o.sm.trans e, o.kp.mo e, o.fr, e _ _ o.lv1, paired_tu e o.lv2, e _ _ o.lg1, paired_tu e o.lg2, o.p, o.sz⟩
instance {rows : List Row} {wt : Nat → Int} {h R F : Int} {ls : Word} {kd lv lg : Addr} {H0 : Hp} {n : Nat} {level : Lev} {acc : List V} {K0 : KeptP} {j : Nat} {L : KL} {longer : Lev} {accl : List V} {H H' : Hp} : MoR H H' (OvP rows wt h R F ls kd lv lg H0 n level acc K0 j L longer accl H) (OvP rows wt h R F ls kd lv lg H0 n level acc K0 j L longer accl H') := ⟨fun e o => o.mo e⟩
def sp_overflow (C : Addr) : Sp := fun vs H Q _ => ∃ (a : Addr) (ls : Word) (wa : Addr) (h R F : Int) (rows : List Row) (wt : Nat → Int), vs = [.ref a, T ls, .ref wa, .int h, .int R, .int F] ∧ JO C rows H a ∧ WtAt wt ls H wa ∧ (Short rows ∧ ls.length ≤ 3 ∧ ls.Pairwise (· < ·) ∧ Nums wt h R F ls) ∧
  (∀ H', Same H H' → (∀ u, u ≠ [] → Over ls u → okW rows wt h R F u) → Q .non H') ∧ ∀ H' v, Same H H' → MinBad ls (okW rows wt h R F) v → v.length ≤ 400000 → Q (T v) H'
theorem split_at {α : Type} {l : List α} {j : Nat} {x : α} (h : l[j]? = some x) : l.take j ++ x :: l.drop (j + 1) = l := by
  obtain ⟨h1, h2⟩ := List.getElem?_eq_some_iff.mp h
  rw [← h2, ← List.drop_eq_getElem_cons h1, List.take_append_drop]
theorem take_at {α : Type} {l : List α} {j : Nat} {x : α} (h : l[j]? = some x) : l.take (j + 1) = l.take j ++ [x] := by
  obtain ⟨h1, h2⟩ := List.getElem?_eq_some_iff.mp h
  rw [List.take_succ_eq_append_getElem h1, h2]
theorem lstep_pst {rows : List Row} {wt : Nat → Int} {h R F : Int} (hs : Short rows) (w : Word) (c : Nat) : lstep rows wt h R F (w ++ [c]) (((w ++ [c]).length : Nat) - 3) (pst rows wt h R F w) = pst rows wt h R F (w ++ [c]) := by
  have e : ((w ++ [c]).length : Int) = w.length + 1 := by simp
  unfold lstep
  rw [pst_snoc hs, e]
  by_cases z : w.length < 2
  · rw [if_pos (by omega), if_pos z]
  · rw [if_neg (by omega), if_neg z, show ((w.length : Int) + 1 - 3).toNat = w.length - 2 by omega]
theorem cutL_m5 (z : Word) : cutL z (some (-5)) none = tail5 z := cutL_last z 5 (by decide)
theorem rd_overflow {K : PySem.W.Frag} {C : Addr} {vs : List V} {H : Hp} {Q : VK} {E : XK} (hh : sp_overflow C vs H Q E) :
    t_overflow K (sp_joint_table C) sp_letter_on sp_is_new sp_can_end (Ends0 Q) (start ["joints", "letters", "weight", "hyphen", "room", "first", "table", "limits", "kept", "level", "longer", "word", "state", "letter", "new", "reached"] vs) H := by
  obtain ⟨a, ls, wa, h, R, F, rows, wt, rfl, hJ, hwa, ⟨hsh, h3, hasc, N⟩, q1, q2⟩ := hh
  unfold t_overflow
  walk_at "rd"
  refine ⟨a, rows, ls, rfl, hJ, hsh, h3, fun tb H1 e1 htb => ?_⟩
  have hwa := MoR.mo e1 hwa
  walk_at "rd"
  intro lm nlm
  generalize hh_lm : upd _ lm _ = H2
  obtain ⟨e2, hlm⟩ := al nlm hh_lm
  clear hh_lm
  have e1 := MoR.mo e2 e1
  have hwa := MoR.mo e2 hwa
  have htb := MoR.mo e2 htb
  have cx : ∀ kd, H2 kd = none → Ctx rows wt h R F ls tb wa lm kd H2 := fun kd nk => ⟨hsh, h3, hasc, N, htb, hwa, ⟨lm, rfl, hlm⟩, nk⟩
  walk_at "rd"
  intro kd nkd
  generalize hh_kd : upd _ kd _ = H3
  obtain ⟨e3, hkd⟩ := al nkd hh_kd
  clear hh_kd
  walk_at "rd"
  intro p1 np1
  generalize hh_p1 : upd _ p1 _ = H4
  obtain ⟨e4, hp1⟩ := al np1 hh_p1
  clear hh_p1
  walk_at "rd"
  intro p2 np2
  generalize hh_p2 : upd _ p2 _ = H5
  obtain ⟨e5, hp2⟩ := al np2 hh_p2
  clear hh_p2
  walk_at "rd"
  intro lv nlv
  generalize hh_lv : upd _ lv _ = H6
  obtain ⟨e6, hlv⟩ := al nlv hh_lv
  clear hh_lv
  have cx := cx kd nkd
  clear hJ hwa htb hlm nlm nkd
  have e36 := (e4.trans e5).trans e6
  refine ⟨OvI rows wt h R F ls a tb wa lm kd H2, ⟨_, lv, _, _, _, _, _, _, [([], (0, NEV))], 0, [], _, rfl, e3.trans e36, ⟨e36 _ _ hkd, List.nodup_nil, List.nodup_nil, fun x hx => (nomatch hx)⟩, fun x hx => (nomatch hx), hlv, .cons ⟨_, ⟨p2, rfl, e6 _ _ hp2⟩, ⟨p1, rfl, e6 _ _ (e5 _ _ hp1)⟩⟩ .nil, linv_start, .inr (Nat.zero_le _), by decide, rfl⟩, ?_⟩
  clear hp1 hp2 hkd hlv e36 e3 e4 e5 e6
  rintro m σ H7 ⟨lv, x10, x11, x12, x13, x14, x15, level, n, L, acc, rfl, e7, k1, k2, k3, k4, k5, k6, k7, k8⟩
  refine ⟨_, rfl, !acc.isEmpty, .inl ⟨acc, SqL.of k3, rfl⟩, ?_⟩
  have lw := Paired.len k4
  refine iteB (fun c => ?_) (fun c => ?_)
  · have lne : level ≠ [] := fun z => by
      rw [z] at lw
      have : acc = [] := List.length_eq_zero_iff.mp lw
      rw [this] at c
      cases c
    have k6 := k6.resolve_left lne
    have kM := k5.kok.sum h3
    refine ⟨fun σ' H' => ∃ m', m' < m ∧ OvI rows wt h R F ls a tb wa lm kd H2 m' σ' H', fun _ _ h => h, ?_⟩
    walk_at "rn"
    intro lg nlg
    generalize hh_lg : upd _ lg _ = H8
    obtain ⟨e8, hlg⟩ := al nlg hh_lg
    clear hh_lg
    walk_at "rn"
    refine ⟨⟨_, SqL.of (e8 _ _ k3)⟩, ?_⟩
    refine for_list (OpI rows wt h R F ls a tb wa lm kd lv lg H2 n level acc (L.map (·.2))) ⟨_, _, _, _, _, L, [], [], rfl, e7.trans e8, k1.mo e8, fun x hx => ⟨(k2 x hx).1, (k2 x hx).2, fun z => ?_⟩, e8 _ _ k3, paired_tu e8 k4, hlg, .nil, by rw [Nat.zero_mul]; exact pinv_start k5, rfl⟩ (fun i σ H' _ ⟨_, _, _, _, _, _, _, _, _, o⟩ => SqL.of o.lv1) ?_ ?_
    · obtain ⟨vs, r1, _⟩ := k1.rows x hx
      rw [z, nlg] at r1
      cases r1
    · rintro i x σ H9 hx ⟨x11, x12, x13, x14, x15, L1, longer, accl, rfl, o⟩
      obtain ⟨⟨w, st⟩, hp, xs, ⟨pw, rfl, hpw⟩, hst⟩ := Paired.at o.lv2 hx
      have hm := List.mem_of_getElem? hp
      obtain ⟨wl, wo, ws⟩ := k5.words _ hm
      simp only at wl wo ws hst hpw
      refine ⟨pw, _, rfl, SqT.of hpw, rfl, ?_⟩
      walk_at "rn"
      refine for_it walk_str (OqI rows wt h R F ls a tb wa lm kd lv lg H2 n level acc (L.map (·.2)) w xs st (i * ls.length)) ⟨_, _, _, L1, longer, accl, rfl, hst, o⟩ (fun _ _ _ _ _ => trivial) ?_ ?_
      · rintro k y σ H10 H11 hk ⟨x13, x14, x15, L2, longer2, accl2, rfl, hst2, o2⟩ ⟨rfl, c', hc, rfl⟩
        have hk2 : ls[k]? = some c' := by simpa using hc
        have hn : (newsOf ls level)[i * ls.length + k]? = some (w ++ [c']) := ext_at hk2 (level.map (·.1)) i w (by rw [List.getElem?_map, hp]; rfl)
        have kM' : ksum (L.map (·.2)) ≤ 371712 := kM
        obtain ⟨nx1, nx2, nx3⟩ := news_word k5 (List.mem_of_getElem? hn)
        have lnew : (w ++ [c']).length = w.length + 1 := by simp
        walk_at "rd"
        refine ⟨w ++ [c'], _, xs, tb, wa, .ref lm, ls, rows, wt, h, R, F, st, rfl, hst2, MoR.mo o2.sm cx.tab, MoR.mo o2.sm cx.wts, MoR.mo o2.sm cx.lim, ⟨nx2, by omega, by omega, hsh⟩, fun v H12 e12 hv => ?_⟩
        rw [ws, lstep_pst hsh] at hv
        have o12 := o2.mo e12
        have hst12 := MoR.mo e12 hst2
        walk_at "rd"
        rw [show (-(5 : Int)) = -5 from rfl, cutL_m5]
        refine ⟨kd, tail5 (w ++ [c']), v, L2, pst rows wt h R F (w ++ [c']), rfl, hv, o12.kp, ⟨?_, fun x hx => ?_⟩, fun hd H13 e13 => ?_, fun hd H13 L3 fr kp3 ek fre tup => ?_⟩
        · have := o12.p.kok.keys h3
          rw [List.length_map] at this
          omega
        · have := o12.p.kok.rows (List.mem_map.mpr ⟨x, hx, rfl⟩)
          omega
        · have o13 := o12.mo e13
          walk_at "rd"
          refine ⟨_, _, _, L2, longer2, accl2, rfl, MoR.mo e13 hst12, o13.sm, o13.kp, o13.fr, o13.lv1, o13.lv2, o13.lg1, o13.lg2, ?_, o13.sz⟩
          rw [← Nat.add_assoc, take_at hn]
          exact step_dom hsh N hasc k5 o2.p (split_at hn) hd
        · have sm13 : Same H2 H13 := fun b o hb => fr b o (ne_of_none hb cx.kn) (fun x hx => (ne_of_none hb (o12.fr x hx).1).symm) (o12.sm _ _ hb)
          have hv13 : StAt H13 v (pst rows wt h R F (w ++ [c'])) := by
            obtain ⟨pv, rfl, hpv⟩ := hv
            exact ⟨pv, rfl, tup _ _ hpv⟩
          have hst13 : StAt H13 xs st := by
            obtain ⟨pv, rfl, hpv⟩ := hst12
            exact ⟨pv, rfl, tup _ _ hpv⟩
          have lv13 : H13 lv = some (.lst acc) := fr _ _ (ne_at o12.lv1 o12.kp.at_ fun e => by cases e) (fun x hx => (o12.fr x hx).2.1) o12.lv1
          have lg13 : H13 lg = some (.lst accl2) := fr _ _ (ne_at o12.lg1 o12.kp.at_ fun e => by cases e) (fun x hx => (o12.fr x hx).2.2) o12.lg1
          have lv13p : Paired (LvAt H13) acc level := Paired.mapP o12.lv2 fun v p q => q.tup tup
          have lg13p : Paired (LvAt H13) accl2 longer2 := Paired.mapP o12.lg2 fun v p q => q.tup tup
          have fr13 : ∀ x ∈ L3, H2 x.1 = none ∧ x.1 ≠ lv ∧ x.1 ≠ lg := fun x hx => by
            rcases fre x hx with ⟨y, hy, e⟩ | e
            · rw [← e]; exact o12.fr y hy
            · exact ⟨none_of o12.sm e, (ne_of_none o12.lv1 e).symm, (ne_of_none o12.lg1 e).symm⟩
          walk_at "rd"
          refine ⟨w ++ [c'], v, tb, wa, .ref lm, ls, rows, wt, h, R, F, rfl, hv13, MoR.mo sm13 cx.tab, MoR.mo sm13 cx.wts, MoR.mo sm13 cx.lim, ⟨nx2, by omega, by omega, hsh⟩, fun b H14 e14 hb => ?_⟩
          walk_at "rd"
          cases b with
          | false =>
            have nok : ¬ okW rows wt h R F (w ++ [c']) := fun z => by
              have := hb.mpr z
              cases this
            have ssm : Same H H14 := (e1.trans sm13).trans e14
            walk_at "rd"
            exact q2 H14 (w ++ [c']) ssm ⟨⟨nx3, nx2, nok⟩, fun u hu ha => hu.2.2 (step_bad hasc k5 o2.p (split_at hn) u hu.1 hu.2.1 ha)⟩ (by omega)
          | true =>
            walk_at "rd"
            have ok := hb.mp rfl
            have P := step_ok N k5 o2.p (split_at hn) hd ok
            refine ⟨.inl ⟨rfl, _, SqL.of (e14 _ _ lg13)⟩, ?_⟩
            walk_at "rd"
            intro pn npn
            generalize hh_pn : upd _ pn _ = H15
            obtain ⟨e15, hpn⟩ := al npn hh_pn
            clear hh_pn
            have lg15 := e15 _ _ (e14 _ _ lg13)
            have e1415 := e14.trans e15
            have szk := o12.sz
            have ksm := P.kok.sum h3
            have ksp := ksum_put (K := L2.map (·.2)) (t := tail5 (w ++ [c'])) (st := pst rows wt h R F (w ++ [c'])) (by rw [List.map_map]; exact o12.kp.keys)
            have lgl := Paired.len lg13p
            have ksm' : ksum (kput (L2.map (·.2)) (tail5 (w ++ [c'])) (pst rows wt h R F (w ++ [c']))) ≤ 371712 := ksm
            have lgn : H2 lg = none := none_of e7 nlg
            refine ⟨lg, accl2, _, rfl, rfl, lg15, line_lt (by omega), ?_⟩
            have nlvlg : lv ≠ lg := ne_of_none k3 nlg
            refine ⟨_, _, _, L3, longer2 ++ [(w ++ [c'], pst rows wt h R F (w ++ [c']))], accl2 ++ [.ref pn], rfl, Tu.set (P := fun H => StAt H xs st) lg15 lst_no (MoR.mo e1415 hst13), Same.mut (sm13.trans e1415) lgn, (kp3.mo e1415).set lg15 (fun x hx => (fr13 x hx).2.2), fr13, by rw [upd_ne nlvlg]; exact e1415 _ _ lv13, paired_set lg15 lst_no (paired_tu e1415 lv13p), upd_same,
              paired_set lg15 lst_no (Paired.snoc1 ⟨v, ⟨pn, rfl, hpn⟩, MoR.mo e1415 hv13⟩ (paired_tu e1415 lg13p)), ?_, ?_⟩
            · rw [← Nat.add_assoc, take_at hn, ek]
              exact P
            · rw [ek, ksp, List.length_append, List.length_cons, List.length_nil]
              omega
      · rintro σ H10 ⟨x13, x14, x15, L2, longer, accl, rfl, _, o⟩
        refine ⟨_, _, _, _, _, L2, longer, accl, rfl, ?_⟩
        have hz : (⟨ls.toArray⟩ : Str).cps.size = ls.length := by simp
        rw [hz, ← Nat.succ_mul] at o
        exact o
    · rintro σ H9 ⟨x11, x12, x13, x14, x15, L2, longer, accl, rfl, o⟩
      have ht : (newsOf ls level).take (acc.length * ls.length) = newsOf ls level := List.take_of_length_le (by rw [len_ext, List.length_map, lw]; exact Nat.le_refl _)
      have P := o.p
      rw [ht] at P
      have LI := pass_end hasc k5 P
      have ksm : ksum (L2.map (·.2)) ≤ 371712 := P.kok.sum h3
      have kM' : ksum (L.map (·.2)) ≤ 371712 := kM
      have szk := o.sz
      walk_at "rd"
      refine ⟨lg, accl, rfl, .inl (SqL.of o.lg1), ?_⟩
      intro p np
      generalize hh_p : upd _ p _ = H10
      obtain ⟨e10, hp⟩ := al np hh_p
      clear hh_p
      refine ⟨2 * (KMAX - ksum (L2.map (·.2))) + (if longer = [] then 0 else 1), ?_, p, _, _, _, _, _, _, longer, n + 1, L2, accl, rfl, o.sm.trans e10, o.kp.mo e10, fun x hx => ⟨(o.fr x hx).1, ?_⟩, hp, paired_tu e10 o.lg2, LI, ?_, by omega, rfl⟩
      · rw [k8, if_neg lne]
        unfold KMAX
        by_cases z : longer = []
        · rw [if_pos z]; omega
        · rw [if_neg z]
          have := List.length_pos_iff.mpr z
          omega
      · obtain ⟨vs, r1, _⟩ := o.kp.rows x hx
        exact ne_of_none r1 np
      · by_cases z : longer = []
        · exact .inl z
        · have := List.length_pos_iff.mpr z
          exact .inr (by omega)
  · have ez : acc = [] := by simpa using c
    have ew : level = [] := List.length_eq_zero_iff.mp (by rw [← lw, ez]; rfl)
    walk_at "rd"
    subst ew
    exact q1 _ (e1.trans e7) (all_ok hasc k5)
end K33
set_option Elab.async false
set_option linter.all false
set_option maxRecDepth 100000
set_option maxHeartbeats 4000000
/-! readings: the law's own reading of a word -/
namespace K33
open PySem PySem.Spec PyProof.Rows L2
local macro_rules | `(tactic| walk_at "sz") => `(tactic| first | exact Nat.zero_le _ | omega | (simp only [sizeLine_eq, cutL_to, cutL_from, cutL_mid, List.length_append, List.length_cons, List.length_nil, List.length_take, List.length_drop, List.length_map, List.length_dropLast]; omega) | decide | (refine Nat.le_trans (cutL_len _ _ _) ?_; simp only [sizeLine_eq, List.length_append, List.length_cons, List.length_nil, List.length_take, List.length_drop]; omega))
local macro_rules | `(tactic| walk_at "rd") => `(tactic| ((try dsimp only); repeat (first
  | refine ⟨_, rfl, ?_⟩
  | refine ⟨rfl, ?_⟩
  | refine ⟨_, _, rfl, rfl, ?_⟩
  | refine ⟨_, _, rfl, ?_⟩
  | refine ⟨_, _, rfl, SqT.of upd_same, rfl, ?_⟩
  | refine And.intro ⟨_, rfl⟩ ?_
  | refine And.intro (by walk_at "sz") ?_)))
local macro_rules | `(tactic| walk_at "rn") => `(tactic| repeat (first
  | refine ⟨_, rfl, ?_⟩
  | refine ⟨rfl, ?_⟩
  | refine ⟨_, _, rfl, rfl, ?_⟩
  | refine ⟨_, _, rfl, ?_⟩
  | refine ⟨_, _, rfl, SqT.of upd_same, rfl, ?_⟩
  | refine And.intro ⟨_, rfl⟩ ?_
  | refine And.intro (by walk_at "sz") ?_))
def sp_law_says : Sp := fun vs H Q _ => ∃ a b : Word, vs = [T a, T b] ∧ a.length ≤ 1000000 ∧ b.length ≤ 1000000 ∧ RetV (.bl (sayB a b)) H Q
theorem getD_get {w : Word} {k : Nat} (h : k < w.length) : w.getD k 0 = w[k] := by rw [List.getD_eq_getElem?_getD, List.getElem?_eq_getElem h]; rfl
theorem atI_get {w : Word} {k : Nat} (h : k < w.length) : atI w (k : Int) = some w[k] := atI_nat (List.getElem?_eq_getElem h)
theorem rd_law_says {K : PySem.W.Frag} {vs : List V} {H : Hp} {Q : VK} {E : XK} (h : sp_law_says vs H Q E) : t_law_says K (Ends0 Q) (start ["_law_part", "_law_text", "_law_k"] vs) H := by
  obtain ⟨a, b, rfl, ha, hb, q⟩ := h
  unfold t_law_says
  walk_at "rd"
  refine iteB (fun hc => ?_) (fun hc => ?_)
  · refine retB q (Same.refl H) (say_len a b fun e => ?_)
    rw [e] at hc
    simp at hc
  · have el : a.length = b.length := by
      have z : (a.length : Int) = b.length := by simpa using hc
      omega
    walk_at "rn"
    refine for_range (fun i σ H' => ∃ x, σ = [some (T a), some (T b), x] ∧ Same H H' ∧ sayB (a.drop i) (b.drop i) = sayB a b) ⟨none, rfl, Same.refl H, rfl⟩ ?_ ?_
    · rintro i σ H' hi ⟨x, rfl, e2, hs⟩
      have hia : i < a.length := by simpa using hi
      have hib : i < b.length := by omega
      rw [say_cons a b hia hib] at hs
      rw [Int.zero_add]
      walk_at "rd"
      refine ⟨_, _, _, rfl, rfl, by walk_at "sz", atI_get hia, ?_⟩
      walk_at "rd"
      refine ⟨_, _, _, rfl, rfl, by walk_at "sz", atI_get hib, ?_⟩
      walk_at "rd"
      have bad : ((a[i] == b[i] || (a[i] == 63 && b[i] != 46)) = false) → Q (.bl false) H' := fun hb => retB q e2 (by rw [← hs, hb, Bool.false_and])
      have good : (a[i] == b[i] || (a[i] == 63 && b[i] != 46)) = true → sayB (a.drop (i + 1)) (b.drop (i + 1)) = sayB a b := fun hg => by rw [← hs, hg, Bool.true_and]
      refine iteB (fun c1 => ?_) (fun c1 => ?_)
      · walk_at "rd"
        refine ⟨_, _, _, rfl, rfl, by walk_at "sz", atI_get hia, ?_⟩
        walk_at "rd"
        refine iteB (fun c2 => ?_) (fun c2 => ?_)
        · exact bad (by simp at c1 c2; simp [c1, c2])
        · walk_at "rd"
          refine ⟨_, _, _, rfl, rfl, by walk_at "sz", atI_get hib, ?_⟩
          walk_at "rd"
          refine iteB (fun c3 => ?_) (fun c3 => ?_)
          · exact bad (by simp at c1 c2 c3; simp [c1, c2, c3])
          · exact ⟨_, rfl, e2, good (by simp at c1 c2 c3; simp [c1, c2, c3])⟩
      · exact ⟨_, rfl, e2, good (by simp at c1; simp [c1])⟩
    · rintro σ H' ⟨x, rfl, e, hs⟩
      rw [Int.toNat_natCast, List.drop_of_length_le (Nat.le_refl _), List.drop_of_length_le (by omega)] at hs
      exact retB q e hs.symm
def sp_law_fits : Sp := fun vs H Q _ => ∃ (v : V) (r : Row) (w : Word) (k : Nat), vs = [v, T w, .int (k : Int)] ∧ RowAt H v r ∧ (r.1.length ≤ 3 ∧ r.2.1.length ≤ 3) ∧ w.length ≤ 900000 ∧ k ≤ w.length ∧ RetV (.bl (fitsB r w k)) H Q
theorem rd_law_fits {K : PySem.W.Frag} {vs : List V} {H : Hp} {Q : VK} {E : XK} (h : sp_law_fits vs H Q E) :
    t_law_fits K sp_law_says (Ends0 Q) (start ["_law_row_here", "_law_word_here", "_law_gap", "_law_before", "_law_behind", "_law_start"] vs) H := by
  obtain ⟨v, r, w, k, rfl, ⟨p, rfl, hp⟩, hl, hw, hk, q⟩ := h
  unfold t_law_fits
  walk_at "rd"
  rw [cutL_to, cutL_from]
  have lb : ([46] ++ w.take k).length ≤ 900001 := by simp; omega
  have lh : (w.drop k ++ [46]).length ≤ 900001 := by simp; omega
  walk_at "rd"
  refine ⟨_, _, _, _, rfl, rfl, SqT.of hp, at0, ?_⟩
  walk_at "rd"
  have tl : ∀ (H1 : Hp) (x : Option V), Same H H1 → leftB r.1 w k = true → tRet (tCall sp_law_says [] E0 (tCons (tOp (rIxT K) (tVar 0) (tC (.int 1))) (tCons (tSl rSlTx (tVar 4) tNoPart (tPart (tCB rLenT (tCons (tOp (rIxT K) (tVar 0) (tC (.int 1))) tNil)))) tNil))) (Ends0 Q)
      [some (.ref p), some (T w), some (.int (k : Int)), some (T ([46] ++ w.take k)), some (T (w.drop k ++ [46])), x] H1 := by
    intro H1 x e1 hL
    have hp := e1 _ _ hp
    walk_at "rd"
    refine ⟨_, _, _, _, rfl, rfl, SqT.of hp, at1, ?_⟩
    walk_at "rd"
    refine ⟨_, _, _, _, rfl, rfl, SqT.of hp, at1, ?_⟩
    walk_at "rd"
    rw [cutL_to]
    refine fun H2 e2 => ?_
    refine retB q (e1.trans e2) ?_
    unfold fitsB
    rw [hL]
    rfl
  generalize tRet _ = M at tl ⊢
  refine iteB (fun c1 => ?_) (fun c1 => ?_)
  · have c1' := of_decide_eq_true c1
    walk_at "rd"
    refine retB q (Same.refl _) ?_
    unfold fitsB leftB
    rw [decide_eq_false (show ¬ r.1.length ≤ (46 :: w.take k).length by simp at c1' ⊢; omega)]
    rfl
  · have c1' : 0 ≤ (([46] ++ w.take k).length : Int) - (r.1.length : Int) := by have := of_decide_eq_false c1; omega
    have eL : leftB r.1 w k = sayB r.1 (([46] ++ w.take k).drop ((([46] ++ w.take k).length : Int) - (r.1.length : Int)).toNat) := by
      unfold leftB
      rw [decide_eq_true (show r.1.length ≤ (46 :: w.take k).length by have := c1'; simp at this ⊢; omega), Bool.true_and]
      congr 2
      simp
    walk_at "rd"
    refine ⟨_, _, _, _, rfl, rfl, SqT.of hp, at0, ?_⟩
    walk_at "rd"
    rw [cutL_fromI _ c1', ← eL]
    intro H1 e1
    walk_at "rd"
    refine iteB (fun c2 => ?_) (fun c2 => ?_)
    · walk_at "rd"
      refine retB q e1 ?_
      unfold fitsB
      have c2' : leftB r.1 w k = false := by simpa using c2
      rw [c2']
      rfl
    · have c2' : leftB r.1 w k = true := by simpa using c2
      exact tl H1 _ e1 c2'
def sp_law_is_joint : Sp := fun vs H Q _ => ∃ (ra : Addr) (rows : List Row) (w : Word) (k : Nat), vs = [.ref ra, T w, .int (k : Int)] ∧ Lst RowAt H ra rows ∧ Short rows ∧ w.length ≤ 900000 ∧ k ≤ w.length ∧ RetV (.bl (jointB rows w k)) H Q
theorem rd_law_is_joint {K : PySem.W.Frag} {vs : List V} {H : Hp} {Q : VK} {E : XK} (h : sp_law_is_joint vs H Q E) :
    t_law_is_joint K sp_law_fits (Ends0 Q) (start ["_law_rows", "_law_word_here", "_law_gap", "_law_row_here"] vs) H := by
  obtain ⟨ra, rows, w, k, rfl, ⟨vs, r1, r2⟩, hsh, hw, hk, q⟩ := h
  unfold t_law_is_joint
  walk_at "rn"
  refine ⟨⟨_, SqL.of r1⟩, ?_⟩
  refine for_list (fun i σ H' => ∃ x, σ = [some (.ref ra), some (T w), some (.int (k : Int)), x] ∧ Same H H' ∧ ∀ r ∈ rows.take i, fitsB r w k = false) ⟨none, rfl, Same.refl H, fun r hr => by simp at hr⟩ (fun i σ H' _ ⟨_, _, e, _⟩ => SqL.of (e _ _ r1)) ?_ ?_
  · rintro i x σ H1 hx ⟨x3, rfl, e1, hf⟩
    obtain ⟨r, hr, p, rfl, hp⟩ := Paired.at (pair_mo e1 r2) hx
    have hl := hsh r (List.mem_of_getElem? hr)
    walk_at "rd"
    refine ⟨.ref p, r, w, k, rfl, ⟨p, rfl, hp⟩, hl, hw, hk, fun H2 e2 => ?_⟩
    have hp2 := e2 _ _ hp
    walk_at "rd"
    refine iteB (fun c1 => ?_) (fun c1 => ?_)
    · walk_at "rd"
      refine ⟨_, _, _, _, rfl, rfl, SqT.of hp2, at2, ?_⟩
      walk_at "rd"
      refine retB q (e1.trans e2) ?_
      unfold jointB
      rw [find_take hr c1 hf]
    · refine ⟨_, rfl, e1.trans e2, fun z hz => ?_⟩
      rcases List.mem_append.mp (by rw [List.take_succ_eq_append_getElem (List.getElem?_eq_some_iff.mp hr).1] at hz; exact hz) with y | y
      · exact hf z y
      · rw [List.mem_singleton.mp y, (List.getElem?_eq_some_iff.mp hr).2]; exact c1
  · rintro σ H1 ⟨x3, rfl, e1, hf⟩
    rw [Paired.len r2, List.take_length] at hf
    walk_at "rd"
    refine retB q e1 ?_
    unfold jointB
    rw [List.find?_eq_none.mpr fun x hx => by rw [hf x hx]; decide]
end K33
set_option Elab.async false
set_option linter.all false
set_option maxRecDepth 100000
set_option maxHeartbeats 4000000
/-! readings: whether a word can be set, by the law -/
namespace K33
open PySem PySem.Spec PyProof.Rows L2
local macro_rules | `(tactic| walk_at "sz") => `(tactic| first | exact Nat.zero_le _ | omega | (simp only [sizeLine_eq, cutL_to, cutL_from, cutL_mid, List.length_append, List.length_cons, List.length_nil, List.length_take, List.length_drop, List.length_map, List.length_dropLast]; omega) | decide | (refine Nat.le_trans (cutL_len _ _ _) ?_; simp only [sizeLine_eq, List.length_append, List.length_cons, List.length_nil, List.length_take, List.length_drop]; omega))
local macro_rules | `(tactic| walk_at "rd") => `(tactic| ((try dsimp only); repeat (first
  | refine ⟨_, rfl, ?_⟩
  | refine ⟨rfl, ?_⟩
  | refine ⟨_, _, rfl, rfl, ?_⟩
  | refine ⟨_, _, rfl, ?_⟩
  | refine ⟨_, _, rfl, SqT.of upd_same, rfl, ?_⟩
  | refine And.intro ⟨_, rfl⟩ ?_
  | refine And.intro (by walk_at "sz") ?_)))
local macro_rules | `(tactic| walk_at "rn") => `(tactic| repeat (first
  | refine ⟨_, rfl, ?_⟩
  | refine ⟨rfl, ?_⟩
  | refine ⟨_, _, rfl, rfl, ?_⟩
  | refine ⟨_, _, rfl, ?_⟩
  | refine ⟨_, _, rfl, SqT.of upd_same, rfl, ?_⟩
  | refine And.intro ⟨_, rfl⟩ ?_
  | refine And.intro (by walk_at "sz") ?_))
def sp_can_be_set : Sp := fun vs H Q _ => ∃ (ra : Addr) (w : Word) (wa na : Addr) (rows : List Row) (wt : Nat → Int) (h R F : Int) (ls : Word), vs = [.ref ra, T w, .ref wa, .ref na] ∧ Lst RowAt H ra rows ∧ WtAt wt ls H wa ∧ H na = some (.lst [.int h, .int R, .int F]) ∧
  (Short rows ∧ w.length ≤ 800000 ∧ w ≠ [] ∧ Over ls w) ∧ RetV (.bl (lawW rows wt h R F w)) H Q
theorem ixN_last {n : Nat} : ixN (n + 1) (-1) = some n := by
  unfold ixN
  rw [if_neg (by decide), if_pos (by omega)]
  congr 1
  omega
theorem set_last {α : Type} (l : List α) (x y : α) : (l ++ [x]).set l.length y = l ++ [y] := by
  rw [List.set_append_right _ _ (Nat.le_refl _), Nat.sub_self]
  rfl
theorem sum_down {ws : List Int} {e s : Nat} (hs : s < e) (he : e ≤ ws.length) : ((ws.take e).drop s).sum = ws.getD s 0 + ((ws.take e).drop (s + 1)).sum := by
  have h1 : s < (ws.take e).length := by rw [List.length_take]; omega
  rw [List.drop_eq_getElem_cons h1, List.sum_cons, List.getElem_take, List.getD_eq_getElem?_getD, List.getElem?_eq_getElem (by omega)]
  rfl
theorem okLine_of {R F : Int} {ws : List Int} {gs : List Bool} {e : Nat} {hy : Int} {f : Bool} (h : f = true ↔ ∃ k, k < e ∧ gs.getD k false = true ∧ hy + ((ws.take e).drop k).sum ≤ if k = 0 then F else R) : f = okLine R F ws gs e hy := by
  rw [Bool.eq_iff_iff, h]
  unfold okLine
  rw [List.any_eq_true]
  constructor
  · rintro ⟨k, k1, k2, k3⟩
    exact ⟨k, List.mem_range.mpr k1, by rw [k2, decide_eq_true k3]; rfl⟩
  · rintro ⟨k, k1, k2⟩
    rw [Bool.and_eq_true, decide_eq_true_eq] at k2
    exact ⟨k, List.mem_range.mp k1, k2.1, k2.2⟩
/-- the good places behind i ends -/
def gL (h R F : Int) (ini : List Int) (la : Int) (i : Nat) : List Bool := if i ≤ ini.length then gN h R F (ini ++ [la]) i else gN h R F (ini ++ [la]) ini.length ++ [lawOk h R F (ini, la)]
theorem gL_len (h R F : Int) (ini : List Int) (la : Int) (i : Nat) (hi : i ≤ ini.length + 1) : (gL h R F ini la i).length = i + 1 := by
  unfold gL
  split
  · rw [gN_len]
  · rw [List.length_append, gN_len, List.length_cons, List.length_nil]; omega
theorem gL_next (h R F : Int) (ini : List Int) (la : Int) (i : Nat) (hi : i < ini.length + 1) : gL h R F ini la (i + 1) = gL h R F ini la i ++ [okLine R F (ini ++ [la]) (gL h R F ini la i) (i + 1) (if i + 1 = ini.length + 1 then 0 else h)] := by
  unfold gL
  by_cases z : i + 1 = ini.length + 1
  · have z2 : i = ini.length := by omega
    subst z2
    rw [if_neg (by omega), if_pos (Nat.le_refl _), if_pos rfl]
    rfl
  · rw [if_pos (by omega), if_pos (by omega), if_neg z]
    rfl
def CbI (rows : List Row) (wt : Nat → Int) (w : Word) (ra wa na p : Addr) (H0 : Hp) (i : Nat) (σ : St) (H : Hp) : Prop := ∃ x5, σ = [some (.ref ra), some (T w), some (.ref wa), some (.ref na), some (.ref p), x5, none, none, none, none, none, none, none] ∧ Same H0 H ∧ H p = some (.lst (((wrun rows wt w (i + 1)).1 ++ [(wrun rows wt w (i + 1)).2]).map V.int))
theorem wrun_len {rows : List Row} {wt : Nat → Int} {w : Word} : ∀ n, (wrun rows wt w n).1.length ≤ n
  | 0 => Nat.le_refl 0
  | n + 1 => by
    have := wrun_len (rows := rows) (wt := wt) (w := w) n
    show (wstep _ _ _).1.length ≤ _
    unfold wstep
    split
    · rw [List.length_append, List.length_cons, List.length_nil]; omega
    · show (wrun rows wt w n).1.length ≤ n + 1
      omega
def CeI (h R F : Int) (ini : List Int) (la : Int) (v0 v1 v2 v3 v4 : V) (x5 : Option V) (g : Addr) (H0 : Hp) (i : Nat) (σ : St) (H : Hp) : Prop := ∃ x7 x8 x9 x10 x11 x12, σ = [some v0, some v1, some v2, some v3, some v4, x5, some (.ref g), x7, x8, x9, x10, x11, x12] ∧ Same H0 H ∧ H g = some (.lst ((gL h R F ini la i).map V.bl))
def CiI (R F : Int) (ws : List Int) (gs : List Bool) (hy : Int) (v0 v1 v2 v3 v4 : V) (x5 : Option V) (g : Addr) (H1 : Hp) (e : Nat) (b : Nat) (σ : St) (H : Hp) : Prop := ∃ x10 x11 x12 f, σ = [some v0, some v1, some v2, some v3, some v4, x5, some (.ref g), some (.int (e : Int)), some (.int (hy + ((ws.take e).drop (e - b)).sum)), some (.bl f), x10, x11, x12] ∧ H = H1 ∧
  (f = true ↔ ∃ k, e - b ≤ k ∧ k < e ∧ gs.getD k false = true ∧ hy + ((ws.take e).drop k).sum ≤ if k = 0 then F else R)
theorem rd_can_be_set {K : PySem.W.Frag} {vs : List V} {H : Hp} {Q : VK} {E : XK} (hh : sp_can_be_set vs H Q E) :
    t_law_can_be_set K sp_law_is_joint (Ends0 Q) (start ["_law_rows", "_law_word_here", "_law_weight", "_law_numbers_here", "_law_widths", "_law_k", "_law_good", "_law_end", "_law_width", "_law_fits_here", "_law_back", "_law_start", "_law_most"] vs) H := by
  obtain ⟨ra, w, wa, na, rows, wt, h, R, F, ls, rfl, hr, hwa, hna, ⟨hsh, hw, hne, ho⟩, q⟩ := hh
  have lw : 0 < w.length := List.length_pos_iff.mpr hne
  obtain ⟨kw, w1, w2⟩ := id hwa
  have hx : ∀ k (hk : k < w.length), valV kw (kt [w[k]]) = some (.int (wt (w.getD k 0))) := fun k hk => by
    rw [getD_get hk]
    exact w2 _ (ho _ (List.getElem_mem hk))
  unfold t_law_can_be_set
  walk_at "rd"
  refine ⟨_, _, w[0], rfl, rfl, by walk_at "sz", atI_get lw, ?_⟩
  refine ⟨wa, _, rfl, dget_k w1 (hx 0 lw), ?_⟩
  walk_at "rn"
  intro p np
  generalize hh_p : upd _ p _ = H1
  obtain ⟨e1, hp⟩ := al np hh_p
  clear hh_p
  walk_at "rn"
  refine for_range (CbI rows wt w ra wa na p H) ⟨none, rfl, e1, ?_⟩ ?_ ?_
  · rw [hp]
    show some (HO.lst [V.int (wt (w.getD 0 0))]) = some (HO.lst [V.int (0 + wt (w.getD 0 0))])
    rw [Int.zero_add]
  · rintro i σ H2 hi ⟨x5, rfl, e2, hp2⟩
    have hi2 : i + 1 < w.length := by omega
    have hr := MoR.mo e2 hr
    have w1 := MoR.mo e2 w1
    have hna := MoR.mo e2 hna
    have lwr := wrun_len (rows := rows) (wt := wt) (w := w) (i + 1)
    rw [show (1 : Int) + (i : Nat) = ((i + 1 : Nat) : Int) by omega]
    walk_at "rd"
    refine ⟨ra, rows, w, i + 1, rfl, hr, hsh, by omega, by omega, fun H3 e3 => ?_⟩
    have hp3 := e3 _ _ hp2
    have w1 := MoR.mo e3 w1
    have ej : jAt rows w (i + 1) = jointB rows w (i + 1) := by unfold jAt; rw [decide_eq_true (Nat.succ_pos _), Bool.true_and]
    have ew : wrun rows wt w (i + 1 + 1) = wstep (jAt rows w (i + 1)) (wt (w.getD (i + 1) 0)) (wrun rows wt w (i + 1)) := rfl
    walk_at "rd"
    refine iteB (fun c => ?_) (fun c => ?_)
    · walk_at "rd"
      refine ⟨.inl ⟨rfl, _, SqL.of hp3⟩, ?_⟩
      walk_at "rd"
      refine ⟨p, _, _, rfl, rfl, hp3, line_lt (by rw [List.length_map, List.length_append, List.length_cons, List.length_nil]; omega), ?_⟩
      have e4 : Same H (upd H3 p (.lst (((wrun rows wt w (i + 1)).1 ++ [(wrun rows wt w (i + 1)).2]).map V.int ++ [.int 0]))) := Same.mut (e2.trans e3) np
      have hp4 : upd H3 p (.lst (((wrun rows wt w (i + 1)).1 ++ [(wrun rows wt w (i + 1)).2]).map V.int ++ [.int 0])) p = _ := upd_same
      have w14 : upd H3 p (.lst (((wrun rows wt w (i + 1)).1 ++ [(wrun rows wt w (i + 1)).2]).map V.int ++ [.int 0])) wa = some (.dK kw) := by
        rw [upd_ne (ne_at w1 hp3 fun e => by cases e)]; exact w1
      generalize upd H3 p (.lst (((wrun rows wt w (i + 1)).1 ++ [(wrun rows wt w (i + 1)).2]).map V.int ++ [.int 0])) = H4 at *
      walk_at "rd"
      refine ⟨_, _, _, _, rfl, rfl, SqL.of hp4, atI_last _ _, ?_⟩
      walk_at "rd"
      refine ⟨_, _, w[i + 1], rfl, rfl, by walk_at "sz", atI_get hi2, ?_⟩
      refine ⟨wa, _, rfl, dget_k w14 (hx (i + 1) hi2), ?_⟩
      walk_at "rd"
      refine ⟨p, _, _, _, rfl, rfl, hp4, by rw [List.length_append]; exact ixN_last, ?_⟩
      refine ⟨_, rfl, Same.mut e4 np, ?_⟩
      rw [upd_same, set_last, ew, ej, c]
      unfold wstep
      simp
    · walk_at "rd"
      have hp3' := hp3
      rw [List.map_append] at hp3'
      refine ⟨_, _, _, _, rfl, rfl, SqL.of hp3', atI_last _ _, ?_⟩
      walk_at "rd"
      refine ⟨_, _, w[i + 1], rfl, rfl, by walk_at "sz", atI_get hi2, ?_⟩
      refine ⟨wa, _, rfl, dget_k w1 (hx (i + 1) hi2), ?_⟩
      walk_at "rd"
      refine ⟨p, _, _, _, rfl, rfl, hp3', by rw [List.length_append]; exact ixN_last, ?_⟩
      refine ⟨_, rfl, Same.mut (e2.trans e3) np, ?_⟩
      have eset : (List.map V.int (wrun rows wt w (i + 1)).1 ++ List.map V.int [(wrun rows wt w (i + 1)).2]).set (List.map V.int (wrun rows wt w (i + 1)).1).length (.int ((wrun rows wt w (i + 1)).2 + wt (w.getD (i + 1) 0))) = List.map V.int (wrun rows wt w (i + 1)).1 ++ [.int ((wrun rows wt w (i + 1)).2 + wt (w.getD (i + 1) 0))] := set_last _ _ _
      rw [upd_same, eset, ew, ej, c]
      unfold wstep
      simp
  · rintro σ H2 ⟨x5, rfl, e2, hp2⟩
    obtain ⟨ini, la, hil⟩ : ∃ ini la, wrun rows wt w w.length = (ini, la) := ⟨_, _, rfl⟩
    have li := wrun_len (rows := rows) (wt := wt) (w := w) w.length
    rw [show ((w.length : Int) - 1).toNat + 1 = w.length by omega] at hp2
    unfold lawW at q
    rw [hil] at hp2 q li
    simp only at hp2 li
    have hna := MoR.mo e2 hna
    walk_at "rn"
    intro g ng
    generalize hh_g : upd _ g _ = H3
    obtain ⟨e3, hg⟩ := al ng hh_g
    clear hh_g
    walk_at "rn"
    refine ⟨p, _, rfl, .inl (SqL.of (e3 _ _ hp2)), ?_⟩
    walk_at "rn"
    have lws : (((ini ++ [la]).map V.int).length : Int) = ini.length + 1 := by simp
    refine for_range (CeI h R F ini la (.ref ra) (T w) (.ref wa) (.ref na) (.ref p) x5 g H2) ⟨_, _, _, _, _, _, rfl, e3, by rw [hg]; rfl⟩ ?_ ?_
    · rintro i σ H4 hi ⟨x7, x8, x9, x10, x11, x12, rfl, e4, hg4⟩
      have hi2 : i < ini.length + 1 := by omega
      have hp4 := e4 _ _ hp2
      have hna := MoR.mo e4 hna
      rw [show (1 : Int) + (i : Nat) = ((i + 1 : Nat) : Int) by omega]
      have gll := gL_len h R F ini la i (by omega)
      have key : ∀ (D : Ends) (hy : Int), (∀ σ H, CeI h R F ini la (.ref ra) (T w) (.ref wa) (.ref na) (.ref p) x5 g H2 (i + 1) σ H → D.nx σ H) → hy = (if i + 1 = ini.length + 1 then 0 else h) →
        (tSeq (tAsg (tC (.bl false)) (gName 9))
    (tSeq (tFor (iRng1 (tCons (tVar 7) tNil)) (gName 10)
    (tSeq (tAsg (tOp (rI0 fun i j => .int (i - j)) (tOp (rI0 fun i j => .int (i - j)) (tVar 7) (tC (.int 1))) (tVar 10)) (gName 11))
    (tSeq (tAsg (tOp (rI0 fun i j => .int (i + j)) (tVar 8) (tOp (rIxL K) (tVar 4) (tVar 11))) (gName 8))
    (tSeq (tAsg (tOp (rIxL K) (tVar 3) (tC (.int 1))) (gName 12))
    (tSeq (tIfS (tTest (tOp rEq (tVar 11) (tC (.int 0))))
    (tAsg (tOp (rIxL K) (tVar 3) (tC (.int 2))) (gName 12))
    tNext)
    (tIfS (tAnd (tB (tOp (rIxL K) (tVar 6) (tVar 11))) (tTest (tOp (rI0 fun i j => .bl (decide (i ≤ j))) (tVar 8) (tVar 12))))
    (tAsg (tC (.bl true)) (gName 9))
    tNext))))))
    (tDrop (tBM K "list" rAppend (tVar 6) (tCons (tVar 9) tNil))))) D [some (.ref ra), some (T w), some (.ref wa), some (.ref na), some (.ref p), x5, some (.ref g), some (.int ((i + 1 : Nat) : Int)), some (.int hy), x9, x10, x11, x12] H4 := by
        intro D hy hnx ehy
        have ltk : ((ini ++ [la]).take (i + 1)).length = i + 1 := by rw [List.length_take, List.length_append, List.length_cons, List.length_nil]; omega
        walk_at "rn"
        refine for_range (CiI R F (ini ++ [la]) (gL h R F ini la i) hy (.ref ra) (T w) (.ref wa) (.ref na) (.ref p) x5 g H4 (i + 1)) ⟨x10, x11, x12, false, ?_, rfl, ?_⟩ ?_ ?_
        · rw [Nat.sub_zero, List.drop_of_length_le (by omega)]
          show _ = [_, _, _, _, _, _, _, _, some (V.int (hy + 0)), _, _, _, _]
          rw [Int.add_zero]
          rfl
        · refine ⟨fun z => (by cases z), fun ⟨k, k1, k2, _⟩ => absurd k1 (by omega)⟩
        · rintro b σ H5 hb ⟨x10, x11, x12, f, rfl, rfl, hf⟩
          have hb2 : b < i + 1 := by omega
          rw [Int.zero_add]
          have es : ((i + 1 : Nat) : Int) - 1 - (b : Nat) = ((i - b : Nat) : Int) := by omega
          have hws : i - b < (ini ++ [la]).length := by rw [List.length_append, List.length_cons, List.length_nil]; omega
          have hsum := sum_down (ws := ini ++ [la]) (e := i + 1) (s := i - b) (by omega) (by rw [List.length_append, List.length_cons, List.length_nil]; omega)
          rw [show i - b + 1 = i + 1 - b by omega] at hsum
          have hsum2 : hy + (((ini ++ [la]).take (i + 1)).drop (i + 1 - b)).sum + (ini ++ [la]).getD (i - b) 0 = hy + (((ini ++ [la]).take (i + 1)).drop (i + 1 - (b + 1))).sum := by
            rw [show i + 1 - (b + 1) = i - b by omega, hsum]
            omega
          walk_at "rd"
          dsimp only
          rw [es]
          refine ⟨_, _, _, _, rfl, rfl, SqL.of hp4, atI_nat (v := .int ((ini ++ [la]).getD (i - b) 0)) (by rw [List.getElem?_map, List.getD_eq_getElem?_getD, List.getElem?_eq_getElem hws]; rfl), ?_⟩
          walk_at "rd"
          dsimp only
          rw [hsum2]
          refine ⟨_, _, _, _, rfl, rfl, SqL.of hna, at1, ?_⟩
          have fin : ∀ (D2 : Ends) (m : Int), (∀ σ H, CiI R F (ini ++ [la]) (gL h R F ini la i) hy (.ref ra) (T w) (.ref wa) (.ref na) (.ref p) x5 g H5 (i + 1) (b + 1) σ H → D2.nx σ H) → m = (if i - b = 0 then F else R) → (tIfS (tAnd (tB (tOp (rIxL K) (tVar 6) (tVar 11))) (tTest (tOp (rI0 fun i j => .bl (decide (i ≤ j))) (tVar 8) (tVar 12))))
    (tAsg (tC (.bl true)) (gName 9))
    tNext) D2 [some (.ref ra), some (T w), some (.ref wa), some (.ref na), some (.ref p), x5, some (.ref g), some (.int ((i + 1 : Nat) : Int)), some (.int (hy + (((ini ++ [la]).take (i + 1)).drop (i + 1 - (b + 1))).sum)), some (.bl f), some (.int (b : Nat)), some (.int ((i - b : Nat) : Int)), some (.int m)] H5 := by
            intro D2 m hnx2 em
            have hgs : i - b < (gL h R F ini la i).length := by omega
            have rest : (¬ ((gL h R F ini la i).getD (i - b) false = true ∧ hy + (((ini ++ [la]).take (i + 1)).drop (i + 1 - (b + 1))).sum ≤ m)) → (f = true ↔ ∃ k, i + 1 - (b + 1) ≤ k ∧ k < i + 1 ∧ (gL h R F ini la i).getD k false = true ∧ hy + (((ini ++ [la]).take (i + 1)).drop k).sum ≤ if k = 0 then F else R) := by
              intro no
              rw [hf]
              constructor
              · rintro ⟨k, k1, k2⟩
                exact ⟨k, by omega, k2⟩
              · rintro ⟨k, k1, k2, k3, k4⟩
                by_cases z : k = i - b
                · subst z
                  rw [← em] at k4
                  exact absurd ⟨k3, by rw [show i + 1 - (b + 1) = i - b by omega]; exact k4⟩ no
                · exact ⟨k, by omega, k2, k3, k4⟩
            walk_at "rd"
            refine ⟨_, _, _, _, rfl, rfl, SqL.of hg4, atI_nat (v := .bl ((gL h R F ini la i).getD (i - b) false)) (by rw [List.getElem?_map, List.getD_eq_getElem?_getD, List.getElem?_eq_getElem hgs]; rfl), ?_⟩
            walk_at "rd"
            refine iteB (fun c1 => ?_) (fun c1 => ?_)
            · walk_at "rd"
              refine iteB (fun c2 => ?_) (fun c2 => ?_)
              · have c2' := of_decide_eq_true c2
                refine hnx2 _ _ ⟨_, _, _, true, rfl, rfl, ⟨fun _ => ⟨i - b, by omega, by omega, c1, ?_⟩, fun _ => rfl⟩⟩
                rw [← em, show i - b = i + 1 - (b + 1) by omega]
                exact c2'
              · have c2' := of_decide_eq_false c2
                exact hnx2 _ _ ⟨_, _, _, f, rfl, rfl, rest fun z => c2' z.2⟩
            · exact hnx2 _ _ ⟨_, _, _, f, rfl, rfl, rest fun z => by rw [c1] at z; cases z.1⟩
          generalize tIfS (tAnd _ _) _ _ = M at fin ⊢
          walk_at "rd"
          refine iteB (fun c1 => ?_) (fun c1 => ?_)
          · have c1' : i - b = 0 := by
              have : ((i - b : Nat) : Int) = 0 := by simpa using c1
              omega
            walk_at "rd"
            refine ⟨_, _, _, _, rfl, rfl, SqL.of hna, at2, ?_⟩
            exact fin _ F (fun _ _ h => h) (by rw [if_pos c1'])
          · have c1' : ¬ i - b = 0 := fun z => by rw [z] at c1; simp at c1
            exact fin _ R (fun _ _ h => h) (by rw [if_neg c1'])
        · rintro σ H5 ⟨x10, x11, x12, f, rfl, rfl, hf⟩
          rw [show ((i + 1 : Nat) : Int).toNat = i + 1 by omega, Nat.sub_self] at hf
          walk_at "rd"
          refine ⟨.inl ⟨rfl, _, SqL.of hg4⟩, ?_⟩
          walk_at "rd"
          refine ⟨g, _, _, rfl, rfl, hg4, line_lt (by rw [List.length_map]; omega), ?_⟩
          refine hnx _ _ ⟨_, _, _, _, _, _, rfl, Same.mut e4 ng, ?_⟩
          have eok : f = okLine R F (ini ++ [la]) (gL h R F ini la i) (i + 1) hy := okLine_of (hf.trans ⟨fun ⟨k, _, z⟩ => ⟨k, z⟩, fun ⟨k, z⟩ => ⟨k, Nat.zero_le _, z⟩⟩)
          rw [upd_same, gL_next h R F ini la i hi2, ← ehy, ← eok, List.map_append]
          rfl
      generalize tSeq (tAsg (tC (.bl false)) (gName 9)) _ = M at key ⊢
      walk_at "rd"
      refine ⟨_, _, _, _, rfl, rfl, SqL.of hna, at0, ?_⟩
      walk_at "rd"
      refine ⟨p, _, rfl, .inl (SqL.of hp4), ?_⟩
      walk_at "rd"
      refine iteB (fun c1 => ?_) (fun c1 => ?_)
      · have c1' : i + 1 = ini.length + 1 := by
          have : ((i + 1 : Nat) : Int) = (((ini ++ [la]).map V.int).length : Int) := by simpa using c1
          omega
        exact key _ 0 (fun _ _ h => h) (by rw [if_pos c1'])
      · have c1' : ¬ i + 1 = ini.length + 1 := fun z => by
          have : ((i + 1 : Nat) : Int) = (((ini ++ [la]).map V.int).length : Int) := by omega
          rw [this] at c1
          simp at c1
        exact key _ h (fun _ _ h => h) (by rw [if_neg c1'])
    · rintro σ H4 ⟨x7, x8, x9, x10, x11, x12, rfl, e4, hg4⟩
      have eN : ((((ini ++ [la]).map V.int).length : Int) + 1 - 1).toNat = ini.length + 1 := by omega
      rw [eN] at hg4
      have eg : gL h R F ini la (ini.length + 1) = gN h R F (ini ++ [la]) ini.length ++ [lawOk h R F (ini, la)] := by unfold gL; rw [if_neg (by omega)]
      rw [eg, List.map_append] at hg4
      walk_at "rd"
      refine ⟨_, _, _, _, rfl, rfl, SqL.of hg4, atI_last _ _, ?_⟩
      exact q _ (e2.trans e4)
end K33
set_option Elab.async false
set_option linter.all false
set_option maxRecDepth 100000
set_option maxHeartbeats 4000000
/-! readings: the words looked at -/
namespace K33
open PySem PySem.Spec PyProof.Rows L2
local macro_rules | `(tactic| walk_at "sz") => `(tactic| first | exact Nat.zero_le _ | omega | (simp only [sizeLine_eq, cutL_to, cutL_from, cutL_mid, List.length_append, List.length_cons, List.length_nil, List.length_take, List.length_drop, List.length_map, List.length_dropLast]; omega) | decide | (refine Nat.le_trans (cutL_len _ _ _) ?_; simp only [sizeLine_eq, List.length_append, List.length_cons, List.length_nil, List.length_take, List.length_drop]; omega))
local macro_rules | `(tactic| walk_at "rd") => `(tactic| ((try dsimp only); repeat (first
  | refine ⟨_, rfl, ?_⟩
  | refine ⟨rfl, ?_⟩
  | refine ⟨_, _, rfl, rfl, ?_⟩
  | refine ⟨_, _, rfl, ?_⟩
  | refine ⟨_, _, rfl, SqT.of upd_same, rfl, ?_⟩
  | refine And.intro ⟨_, rfl⟩ ?_
  | refine And.intro (by walk_at "sz") ?_)))
local macro_rules | `(tactic| walk_at "rn") => `(tactic| repeat (first
  | refine ⟨_, rfl, ?_⟩
  | refine ⟨rfl, ?_⟩
  | refine ⟨_, _, rfl, rfl, ?_⟩
  | refine ⟨_, _, rfl, ?_⟩
  | refine ⟨_, _, rfl, SqT.of upd_same, rfl, ?_⟩
  | refine And.intro ⟨_, rfl⟩ ?_
  | refine And.intro (by walk_at "sz") ?_))
def aheadB (u v : Word) : Bool := if u.length = v.length then decide (u < v) else decide (u.length < v.length)
theorem aheadB_iff {u v : Word} : aheadB u v = true ↔ ahead u v := by
  unfold aheadB ahead
  by_cases z : u.length = v.length
  · rw [if_pos z, decide_eq_true_eq]
    exact ⟨fun h => .inr ⟨z, h⟩, fun h => h.elim (fun y => absurd y (by omega)) (·.2)⟩
  · rw [if_neg z, decide_eq_true_eq]
    exact ⟨.inl, fun h => h.elim id (fun y => absurd y.1 z)⟩
def sp_is_ahead : Sp := fun vs H Q _ => ∃ u v : Word, vs = [T u, T v] ∧ u.length ≤ 1000000 ∧ v.length ≤ 1000000 ∧ RetV (.bl (aheadB u v)) H Q
theorem rd_is_ahead {K : PySem.W.Frag} {vs : List V} {H : Hp} {Q : VK} {E : XK} (h : sp_is_ahead vs H Q E) : t_law_is_ahead K (Ends0 Q) (start ["_law_one", "_law_two"] vs) H := by
  obtain ⟨u, v, rfl, hu, hv, q⟩ := h
  unfold t_law_is_ahead
  walk_at "rd"
  refine iteB (fun c => ?_) (fun c => ?_)
  · have c' : ¬ u.length = v.length := fun z => by rw [z] at c; simp at c
    walk_at "rd"
    refine retB q (Same.refl _) ?_
    unfold aheadB
    rw [if_neg c']
    simp
  · have c' : u.length = v.length := by
      have z : (u.length : Int) = v.length := by simpa using c
      omega
    walk_at "rd"
    refine retB q (Same.refl _) ?_
    unfold aheadB
    rw [if_pos c']
def sp_is_word : Sp := fun vs H Q _ => ∃ u ls : Word, vs = [T u, T ls] ∧ u ≠ [] ∧ Over ls u ∧ RetV (.bl true) H Q
theorem rd_is_word {K : PySem.W.Frag} {vs : List V} {H : Hp} {Q : VK} {E : XK} (h : sp_is_word vs H Q E) : t_law_is_word K (Ends0 Q) (start ["_law_told", "_law_letters_here", "_law_letter"] vs) H := by
  obtain ⟨u, ls, rfl, hu, ho, q⟩ := h
  unfold t_law_is_word
  walk_at "rd"
  refine ⟨_, _, _, _, true, rfl, .ty _, .base (.str _), by rfl, ?_⟩
  walk_at "rd"
  refine iteB (fun c => absurd (of_decide_eq_true c) hu) (fun _ => ?_)
  walk_at "rn"
  refine for_it walk_str (fun i σ H' => ∃ x, σ = [some (T u), some (T ls), x] ∧ Same H H') ⟨none, rfl, Same.refl _⟩ (fun _ _ _ _ _ => trivial) ?_ ?_
  · rintro i y σ H1 H2 hi ⟨x, rfl, e⟩ ⟨rfl, c, hc, rfl⟩
    have hc2 : u[i]? = some c := by simpa using hc
    have hm := ho c (List.mem_of_getElem? hc2)
    walk_at "rd"
    refine iteB (fun z => ?_) (fun _ => ⟨_, rfl, e⟩)
    rw [decide_eq_true hm] at z
    cases z
  · rintro σ H1 ⟨x, rfl, e⟩
    walk_at "rd"
    exact q _ e
/-- words of ours -/
def Wds (ls : Word) (n : Nat) (us : List Word) : Prop := ∀ u ∈ us, u ≠ [] ∧ Over ls u ∧ u.length ≤ n
theorem Wds.app {ls : Word} {n : Nat} {us vs : List Word} (a : Wds ls n us) (b : Wds ls n vs) : Wds ls n (us ++ vs) := fun u hu => (List.mem_append.mp hu).elim (a u) (b u)
theorem wds_lng {ls : Word} {n m : Nat} (h : n + 1 ≤ m) : Wds ls m (lng ls (n + 1)) := fun u hu => by
  obtain ⟨h1, h2⟩ := mem_lng.mp hu
  exact ⟨fun z => (by rw [z] at h1; cases h1), h2, by omega⟩
def sp_short_words : Sp := fun vs H Q _ => ∃ ls : Word, vs = [T ls] ∧ 1 ≤ ls.length ∧ ls.length ≤ 3 ∧ ∀ p H' us, Same H H' → Lst TxAt H' p us → Wds ls 12 us → us.length ≤ 8000000 → Q (.ref p) H'
theorem lng_12 {ls : Word} (h3 : ls.length ≤ 3) {n : Nat} (hn : n ≤ 12) : (lng ls n).length ≤ 531441 := by
  have h1 := len_lng h3 n
  have h2 : 3 ^ n ≤ 3 ^ 12 := Nat.pow_le_pow_right (by decide) hn
  have h4 : 3 ^ 12 = 531441 := by decide
  omega
def SwI (ls : Word) (H0 : Hp) (t : Nat) (σ : St) (H : Hp) : Prop := ∃ x1 wp op x4 x5 x6 us, σ = [some (T ls), x1, some (.ref wp), some (.ref op), x4, x5, x6] ∧ Same H0 H ∧ Lst TxAt H wp (lng ls (t + 1)) ∧ Lst TxAt H op us ∧ Wds ls 12 us ∧ us.length ≤ (t + 1) * 531441
theorem rd_short_words {K : PySem.W.Frag} {vs : List V} {H : Hp} {Q : VK} {E : XK} (h : sp_short_words vs H Q E) : t_law_short_words K (Ends0 Q) (start ["_law_letters_here", "_law_letter", "_law_words", "_law_out", "_law_turn", "_law_longer", "_law_word_here"] vs) H := by
  obtain ⟨ls, rfl, h1, h3, q⟩ := h
  unfold t_law_short_words
  walk_at "rn"
  intro D nD
  have hz : (⟨ls.toArray⟩ : Str).cps.size = ls.length := by simp
  refine turns (walk_str (z := ⟨ls.toArray⟩)) (Lcp TxAt D H (lng ls 1)) (lcp_zero nD) (fun _ _ _ _ => trivial) ?_ ?_
  · rintro k y H1 H2 hk c ⟨rfl, d, hd, rfl⟩
    have hd2 : ls[k]? = some d := by simpa using hd
    walk_at "rd"
    refine lcp_next nD (by have := lng_12 h3 (n := 1) (by omega); omega) c (Same.refl _) (x := [d]) ?_ rfl
    have : (lng ls 1)[0 * ls.length + k]? = some ([] ++ [d]) := by
      show (ext ls [[]])[0 * ls.length + k]? = _
      unfold ext
      simp [hd2]
    simpa using this
  · intro H1 c
    obtain ⟨e1, ds, d1, d2⟩ := lcp_end (by rw [hz]; show (ext ls [[]]).length = _; rw [len_ext]; simp) c
    walk_at "rn"
    refine ⟨D, ds, rfl, .inl (SqL.of d1), ?_⟩
    intro op nop
    generalize hh_op : upd _ op _ = H2
    obtain ⟨e2, hop⟩ := al nop hh_op
    clear hh_op
    walk_at "rn"
    intro il nil
    generalize hh_il : upd _ il _ = H3
    obtain ⟨e3, hil⟩ := al nil hh_il
    clear hh_il
    walk_at "rn"
    obtain ⟨n, hn, hn2⟩ : ∃ n : Nat, atI [V.int 11, V.int 4, V.int 3] ((ls.length : Int) - 1) = some (.int (n : Int)) ∧ n ≤ 11 := by
      rcases (show ls.length = 1 ∨ ls.length = 2 ∨ ls.length = 3 by omega) with z | z | z <;> rw [z]
      · exact ⟨11, rfl, by decide⟩
      · exact ⟨4, rfl, by decide⟩
      · exact ⟨3, rfl, by decide⟩
    refine ⟨_, _, _, _, rfl, rfl, SqL.of hil, hn, ?_⟩
    walk_at "rn"
    have ld := lng_12 h3 (n := 1) (by omega)
    refine for_range (SwI ls H) ⟨_, D, op, _, _, _, lng ls 1, rfl, (e1.trans e2).trans e3, ⟨ds, e3 _ _ (e2 _ _ d1), paired_tu (e2.trans e3) d2⟩, ⟨ds, e3 _ _ hop, paired_tu (e2.trans e3) d2⟩, wds_lng (by omega), by omega⟩ ?_ ?_
    · rintro t σ H4 ht ⟨x1, wp, op, x4, x5, x6, us, rfl, e4, ⟨ws, w1, w2⟩, ⟨os, o1, o2⟩, o3, o4⟩
      have ht2 : t < 11 := by omega
      have ew := tx_vs w2
      have lw := Paired.len w2
      have lb := lng_12 h3 (n := t + 1) (by omega)
      have lb2 := lng_12 h3 (n := t + 2) (by omega)
      walk_at "rn"
      intro lg nlg
      generalize hh_lg : upd _ lg _ = H5
      obtain ⟨e5, hlg⟩ := al nlg hh_lg
      clear hh_lg
      walk_at "rn"
      refine ⟨⟨_, SqL.of (e5 _ _ w1)⟩, ?_⟩
      have hlcp : Lcp TxAt lg H4 (lng ls (t + 2)) 0 H5 := ⟨[], hlg, e5, .nil⟩
      refine for_list (fun j σ H' => ∃ x1 x6, σ = [some (T ls), x1, some (.ref wp), some (.ref op), some (.int (0 + (t : Nat))), some (.ref lg), x6] ∧ Lcp TxAt lg H4 (lng ls (t + 2)) (j * ls.length) H') ⟨_, _, rfl, by rw [Nat.zero_mul]; exact hlcp⟩ (fun j σ H' _ ⟨_, _, _, _, _, e, _⟩ => SqL.of (e _ _ w1)) ?_ ?_
      · rintro j x σ H6 hx ⟨x1, x6, rfl, c6⟩
        rw [ew] at hx
        obtain ⟨wd, hwd, rfl⟩ := map_at hx
        have wl := lng_word (List.mem_of_getElem? hwd)
        walk_at "rn"
        refine for_it walk_str (fun k σ H' => ∃ x1, σ = [some (T ls), x1, some (.ref wp), some (.ref op), some (.int (0 + (t : Nat))), some (.ref lg), some (T wd)] ∧ Lcp TxAt lg H4 (lng ls (t + 2)) (j * ls.length + k) H') ⟨_, rfl, c6⟩ (fun _ _ _ _ _ => trivial) ?_ ?_
        · rintro k y σ H7 H8 hk ⟨x1, rfl, c7⟩ ⟨rfl, d, hd, rfl⟩
          have hd2 : ls[k]? = some d := by simpa using hd
          walk_at "rd"
          have hlg7 : ∃ acc, H8 lg = some (.lst acc) := let ⟨acc, a1, _⟩ := c7; ⟨acc, a1⟩
          obtain ⟨acc, a1⟩ := hlg7
          refine ⟨.inl ⟨rfl, _, SqL.of a1⟩, ?_⟩
          walk_at "rd"
          have hat : (lng ls (t + 2))[j * ls.length + k]? = some (wd ++ [d]) := by
            have := ext_at hd2 (lng ls (t + 1)) j wd hwd
            exact this
          obtain ⟨acc', b1, b2, b3⟩ := lcp_next (y := T (wd ++ [d])) nlg (by omega) c7 (Same.refl _) hat rfl
          exact ⟨lg, acc', _, rfl, rfl, b1, b2, _, rfl, b3⟩
        · rintro σ H7 ⟨x1, rfl, c7⟩
          rw [hz, ← Nat.succ_mul] at c7
          exact ⟨_, _, rfl, c7⟩
      · rintro σ H6 ⟨x1, x6, rfl, c6⟩
        have le : (lng ls (t + 2)).length = ws.length * ls.length := by
          rw [lw]
          exact len_ext ls (lng ls (t + 1))
        obtain ⟨e6, zs, z1, z2⟩ := lcp_end le c6
        have lz := Paired.len z2
        have lo := Paired.len o2
        walk_at "rn"
        refine ⟨lg, zs, rfl, .inl (SqL.of z1), ?_⟩
        intro np nnp
        generalize hh_np : upd _ np _ = H7
        obtain ⟨e7, hnp⟩ := al nnp hh_np
        clear hh_np
        walk_at "rn"
        have m1 : (t + 1) * 531441 ≤ 11 * 531441 := Nat.mul_le_mul_right _ (by omega)
        refine ⟨op, np, os, zs, rfl, rfl, e7 _ _ (e6 _ _ o1), hnp, by rw [sizeLine_eq]; omega, ?_⟩
        intro p8 np8
        generalize hh_p8 : upd _ p8 _ = H8
        obtain ⟨e8, hp8⟩ := al np8 hh_p8
        clear hh_p8
        have m2 : (t + 1 + 1) * 531441 = (t + 1) * 531441 + 531441 := Nat.succ_mul _ _
        have z3 := paired_tu (e7.trans e8) z2
        refine ⟨_, np, p8, _, _, _, us ++ lng ls (t + 2), rfl, ((e4.trans e6).trans e7).trans e8, ⟨zs, e8 _ _ hnp, z3⟩, ⟨os ++ zs, hp8, paired_app (paired_tu ((e6.trans e7).trans e8) o2) z3⟩, o3.app (wds_lng (by omega)), by rw [List.length_append]; omega⟩
    · rintro σ H4 ⟨x1, wp, op, x4, x5, x6, us, rfl, e4, _, ho, o3, o4⟩
      walk_at "rd"
      have m1 : ((n : Int).toNat + 1) * 531441 ≤ 12 * 531441 := Nat.mul_le_mul_right _ (by omega)
      exact q _ _ us e4 ho o3 (by omega)
end K33
set_option Elab.async false
set_option linter.all false
set_option maxRecDepth 100000
set_option maxHeartbeats 4000000
/-! readings: the words near, the answer held against the words -/
namespace K33
open PySem PySem.Spec PyProof.Rows L2
local macro_rules | `(tactic| walk_at "sz") => `(tactic| first | exact Nat.zero_le _ | omega | (simp only [sizeLine_eq, cutL_to, cutL_from, cutL_mid, List.length_append, List.length_cons, List.length_nil, List.length_take, List.length_drop, List.length_map, List.length_dropLast]; omega) | decide | (refine Nat.le_trans (cutL_len _ _ _) ?_; simp only [sizeLine_eq, List.length_append, List.length_cons, List.length_nil, List.length_take, List.length_drop]; omega))
local macro_rules | `(tactic| walk_at "rd") => `(tactic| ((try dsimp only); repeat (first
  | refine ⟨_, rfl, ?_⟩
  | refine ⟨rfl, ?_⟩
  | refine ⟨_, _, rfl, rfl, ?_⟩
  | refine ⟨_, _, rfl, ?_⟩
  | refine ⟨_, _, rfl, SqT.of upd_same, rfl, ?_⟩
  | refine And.intro ⟨_, rfl⟩ ?_
  | refine And.intro (by walk_at "sz") ?_)))
local macro_rules | `(tactic| walk_at "rn") => `(tactic| repeat (first
  | refine ⟨_, rfl, ?_⟩
  | refine ⟨rfl, ?_⟩
  | refine ⟨_, _, rfl, rfl, ?_⟩
  | refine ⟨_, _, rfl, ?_⟩
  | refine ⟨_, _, rfl, SqT.of upd_same, rfl, ?_⟩
  | refine And.intro ⟨_, rfl⟩ ?_
  | refine And.intro (by walk_at "sz") ?_))
theorem cutL_from1 (z : Word) (i : Nat) : cutL z (some ((i : Int) + 1)) none = z.drop (i + 1) := cutL_from z (i + 1)
def sp_near : Sp := fun vs H Q _ => ∃ u ls : Word, vs = [T u, T ls] ∧ Over ls u ∧ u.length ≤ 400000 ∧ ls.length ≤ 3 ∧ ∀ p H' us, Same H H' → Lst TxAt H' p us → Wds ls 400001 us → us.length ≤ 1000 → Q (.ref p) H'
/-- over our letters -/
def Ovs (ls : Word) (us : List Word) : Prop := ∀ u ∈ us, Over ls u ∧ u.length ≤ 400001
theorem Ovs.app {ls : Word} {us vs : List Word} (a : Ovs ls us) (b : Ovs ls vs) : Ovs ls (us ++ vs) := fun u hu => (List.mem_append.mp hu).elim (a u) (b u)
def NrI (u ls : Word) (H0 : Hp) (i : Nat) (σ : St) (H : Hp) : Prop := ∃ op x3 x4 x5 x6 us, σ = [some (T u), some (T ls), some (.ref op), x3, x4, x5, x6, none] ∧ Same H0 H ∧ Lst TxAt H op us ∧ Ovs ls us ∧ us.length ≤ 6 * i
def NrJ (u ls : Word) (H0 : Hp) (op : Addr) (i : Nat) (v3 a b : V) (k : Nat) (σ : St) (H : Hp) : Prop := ∃ x6 us, σ = [some (T u), some (T ls), some (.ref op), some v3, some a, some b, x6, none] ∧ Same H0 H ∧ H0 op = none ∧ Lst TxAt H op us ∧ Ovs ls us ∧ us.length ≤ 6 * i + 3 + k
theorem rd_near {K : PySem.W.Frag} {vs : List V} {H : Hp} {Q : VK} {E : XK} (h : sp_near vs H Q E) : t_law_near K (Ends0 Q) (start ["_law_word_here", "_law_letters_here", "_law_out", "_law_k", "_law_start", "_law_end", "_law_letter", "_law_near_here"] vs) H := by
  obtain ⟨u, ls, rfl, ho, hu, h3, q⟩ := h
  unfold t_law_near
  walk_at "rn"
  intro op nop
  generalize hh_op : upd _ op _ = H1
  obtain ⟨e1, hop⟩ := al nop hh_op
  clear hh_op
  walk_at "rn"
  refine for_range (NrI u ls H) ⟨op, _, _, _, _, [], rfl, e1, ⟨[], hop, .nil⟩, fun u hu => (nomatch hu), Nat.le_refl 0⟩ ?_ ?_
  · rintro i σ H2 hi ⟨op, x3, x4, x5, x6, us, rfl, e2, ⟨os, o1, o2⟩, o3, o4⟩
    have hi2 : i < u.length ∧ i < 40 := by
      split at hi <;> omega
    have lo := Paired.len o2
    rw [Int.zero_add]
    walk_at "rd"
    rw [cutL_to]
    dsimp only
    rw [cutL_from1]
    have ot : Over ls (u.take i) := fun c hc => ho c (List.mem_of_mem_take hc)
    have od : Over ls (u.drop (i + 1)) := fun c hc => ho c (List.mem_of_mem_drop hc)
    have oa : ∀ {a b : Word}, Over ls a → Over ls b → Over ls (a ++ b) := fun ha hb c hc => (List.mem_append.mp hc).elim (ha c) (hb c)
    walk_at "rd"
    intro il nil
    generalize hh_il : upd _ il _ = H3
    obtain ⟨e3, hil⟩ := al nil hh_il
    clear hh_il
    walk_at "rd"
    refine ⟨op, il, os, _, rfl, rfl, e3 _ _ o1, hil, line_ok (by simp; omega), ?_⟩
    intro p5 np5
    generalize hh_p5 : upd _ p5 _ = H4
    obtain ⟨e4, hp5⟩ := al np5 hh_p5
    clear hh_p5
    have e24 := (e2.trans e3).trans e4
    have npH : H p5 = none := none_of (e2.trans e3) np5
    have lt1 : (u.take i).length ≤ 400000 := by rw [List.length_take]; omega
    have lt2 : (u.drop (i + 1)).length + i + 1 ≤ 400000 := by rw [List.length_drop]; omega
    have lt3 : (u.take i).length = i := by rw [List.length_take]; omega
    walk_at "rn"
    refine for_it walk_str (NrJ u ls H p5 i (.int (i : Int)) (T (u.take i)) (T (u.drop (i + 1)))) ⟨_, us ++ [u.take i, u.drop (i + 1), u.take i ++ u.drop (i + 1)], rfl, e24, npH, ⟨_, hp5, paired_app (paired_tu (e3.trans e4) o2) (.cons rfl (.cons rfl (.cons rfl .nil)))⟩, o3.app ?_, by rw [List.length_append]; simp; omega⟩ (fun _ _ _ _ _ => trivial) ?_ ?_
    · intro z hz
      simp only [List.mem_cons, List.not_mem_nil, or_false] at hz
      rcases hz with rfl | rfl | rfl
      · exact ⟨ot, by omega⟩
      · exact ⟨od, by omega⟩
      · exact ⟨oa ot od, by rw [List.length_append]; omega⟩
    · rintro k y σ H5 H6 hk ⟨x6, us2, rfl, f1, f2, ⟨os2, g1, g2⟩, g3, g4⟩ ⟨rfl, c, hc, rfl⟩
      have hc2 : ls[k]? = some c := by simpa using hc
      have hk2 : k < ls.length := by simpa using hk
      have lo2 := Paired.len g2
      walk_at "rd"
      refine ⟨_, _, u[i], rfl, rfl, by walk_at "sz", atI_get hi2.1, ?_⟩
      walk_at "rd"
      refine iteB (fun z => ?_) (fun z => ?_)
      · walk_at "rd"
        refine ⟨.inl ⟨rfl, _, SqL.of g1⟩, ?_⟩
        walk_at "rd"
        refine ⟨p5, os2, _, rfl, rfl, g1, line_lt (by omega), ?_⟩
        refine ⟨_, us2 ++ [u.take i ++ [c] ++ u.drop (i + 1)], rfl, Same.mut f1 f2, f2, ⟨_, upd_same, paired_set g1 lst_no (Paired.snoc1 (show TxAt _ (T (u.take i ++ [c] ++ u.drop (i + 1))) (u.take i ++ [c] ++ u.drop (i + 1)) from rfl) g2)⟩, g3.app ?_, by rw [List.length_append, List.length_cons, List.length_nil]; omega⟩
        intro z hz
        rw [List.mem_singleton.mp hz]
        refine ⟨oa (oa ot fun d hd => ?_) od, ?_⟩
        · rw [List.mem_singleton.mp hd]; exact List.mem_of_getElem? hc2
        · rw [List.length_append, List.length_append, List.length_cons, List.length_nil]; omega
      · exact ⟨_, us2, rfl, f1, f2, ⟨os2, g1, g2⟩, g3, by omega⟩
    · rintro σ H5 ⟨x6, us2, rfl, f1, f2, g1, g3, g4⟩
      have hz : (⟨ls.toArray⟩ : Str).cps.size = ls.length := by simp
      rw [hz] at g4
      exact ⟨p5, _, _, _, _, us2, rfl, f1, g1, g3, by omega⟩
  · rintro σ H2 ⟨op, x3, x4, x5, x6, us, rfl, e2, ⟨os, o1, o2⟩, o3, o4⟩
    have hn : (if (40 : Int) < u.length then (40 : Int) else u.length).toNat ≤ 40 := by split <;> omega
    have o4' : us.length ≤ 240 := by
      refine Nat.le_trans o4 ?_
      exact Nat.le_trans (Nat.mul_le_mul_left 6 hn) (by decide)
    have lo := Paired.len o2
    have eo := tx_vs o2
    walk_at "rn"
    refine ⟨⟨_, SqL.of o1⟩, fun D nD => ?_⟩
    refine turns walk_list (fun i H' => ∃ acc ws, H' D = some (.lst acc) ∧ Same H2 H' ∧ Paired (TxAt H') acc ws ∧ Wds ls 400001 ws ∧ ws.length ≤ i) ⟨[], [], upd_same, Same.new nD, .nil, fun u hu => (nomatch hu), Nat.le_refl 0⟩ (fun i H' _ ⟨_, _, _, e, _⟩ => SqL.of (e _ _ o1)) ?_ ?_
    · rintro i x H3 H4 hi ⟨acc, ws, a1, a2, a3, a4, a5⟩ ⟨rfl, hx⟩
      rw [eo] at hx
      obtain ⟨t, ht, rfl⟩ := map_at hx
      obtain ⟨t1, t2⟩ := o3 t (List.mem_of_getElem? ht)
      have la := Paired.len a3
      walk_at "rd"
      refine iteB (fun c => ?_) (fun c => ?_)
      · have tne : t ≠ [] := by simpa using c
        walk_at "rd"
        refine ⟨acc, a1, line_lt (by omega), acc ++ [T t], ws ++ [t], upd_same, Same.mut a2 nD, paired_set a1 lst_no (Paired.snoc1 (show TxAt _ (T t) t from rfl) a3), a4.app fun z hz => by rw [List.mem_singleton.mp hz]; exact ⟨tne, t1, t2⟩, by rw [List.length_append]; exact Nat.succ_le_succ a5⟩
      · exact ⟨acc, ws, a1, a2, a3, a4, by omega⟩
    · rintro H3 ⟨acc, ws, a1, a2, a3, a4, a5⟩
      exact q _ _ ws (e2.trans a2) ⟨acc, a1, a3⟩ a4 (by omega)
/-! ### the answer held -/
def sp_holds : Sp := fun vs H Q _ => ∃ (told : V) (ra : Addr) (ls : Word) (wa na pw : Addr) (rows : List Row) (wt : Nat → Int) (h R F : Int) (us : List Word), vs = [told, .ref ra, T ls, .ref wa, .ref na, .ref pw] ∧ Lst RowAt H ra rows ∧ WtAt wt ls H wa ∧ H na = some (.lst [.int h, .int R, .int F]) ∧ Lst TxAt H pw us ∧
  (Wds ls 400001 us ∧ us.length ≤ 10000000 ∧ Short rows ∧ ls.length ≤ 3 ∧ Nums wt h R F ls) ∧ ((told = .non ∧ ∀ u, u ≠ [] → Over ls u → okW rows wt h R F u) ∨ ∃ v, told = T v ∧ MinBad ls (okW rows wt h R F) v ∧ v.length ≤ 400000) ∧ RetV (.bl true) H Q
def hold_rest (K : PySem.W.Frag) : L2.TS := (tSeq (tFor (iList K (tVar 6)) (gName 7)
    (tIfS (tOr (tTest (tOp (fun x y H Q => y = V.non ∧ Q (V.bl (decide (x = V.non))) H) (tVar 0) (tC .non))) (tB (tCall sp_is_ahead [] E0 (tCons (tVar 7) (tCons (tVar 0) tNil)))))
    (tIfS (tNot (tB (tCall sp_can_be_set [] E0 (tCons (tVar 1) (tCons (tVar 7) (tCons (tVar 3) (tCons (tVar 4) tNil)))))))
    (tRet (tC (.bl false)))
    tNext)
    tNext))
    (tRet (tC (.bl true))))
theorem hold_rest_ok {K : PySem.W.Frag} {told : V} {ra : Addr} {ls : Word} {wa na pw pl : Addr} {rows : List Row} {wt : Nat → Int} {h R F : Int} {us : List Word} {H : Hp} {Q : VK} {D : Ends} (hr : Lst RowAt H ra rows) (hwa : WtAt wt ls H wa) (hna : H na = some (.lst [.int h, .int R, .int F]))
    (hpl : Lst TxAt H pl us) (wd : Wds ls 400001 us) (sh : Short rows) (N : Nums wt h R F ls)
    (ht : (told = .non ∧ ∀ u, u ≠ [] → Over ls u → okW rows wt h R F u) ∨ ∃ v, told = T v ∧ MinBad ls (okW rows wt h R F) v ∧ v.length ≤ 400000) (q : RetV (.bl true) H Q) :
    hold_rest K (Ends0 Q) [some told, some (.ref ra), some (T ls), some (.ref wa), some (.ref na), some (.ref pw), some (.ref pl), none] H := by
  obtain ⟨os, o1, o2⟩ := hpl
  have eo := tx_vs o2
  unfold hold_rest
  walk_at "rn"
  refine ⟨⟨_, SqL.of o1⟩, ?_⟩
  refine for_list (fun i σ H' => ∃ x, σ = [some told, some (.ref ra), some (T ls), some (.ref wa), some (.ref na), some (.ref pw), some (.ref pl), x] ∧ Same H H') ⟨none, rfl, Same.refl _⟩ (fun i σ H' _ ⟨_, _, e⟩ => SqL.of (e _ _ o1)) ?_ ?_
  · rintro i x σ H1 hx ⟨x7, rfl, e1⟩
    rw [eo] at hx
    obtain ⟨u, hu, rfl⟩ := map_at hx
    obtain ⟨u1, u2, u3⟩ := wd u (List.mem_of_getElem? hu)
    have test : ∀ (D : Ends) (H2 : Hp), Same H H2 → okW rows wt h R F u → (∀ H3, Same H H3 → D.nx [some told, some (.ref ra), some (T ls), some (.ref wa), some (.ref na), some (.ref pw), some (.ref pl), some (T u)] H3) →
      (tIfS (tNot (tB (tCall sp_can_be_set [] E0 (tCons (tVar 1) (tCons (tVar 7) (tCons (tVar 3) (tCons (tVar 4) tNil)))))))
    (tRet (tC (.bl false)))
    tNext) D [some told, some (.ref ra), some (T ls), some (.ref wa), some (.ref na), some (.ref pw), some (.ref pl), some (T u)] H2 := by
      intro D H2 e2 ok hD
      have hr := MoR.mo e2 hr
      have hwa := MoR.mo e2 hwa
      have hna := MoR.mo e2 hna
      walk_at "rd"
      refine ⟨ra, u, wa, na, rows, wt, h, R, F, ls, rfl, hr, hwa, hna, ⟨sh, by omega, u1, u2⟩, fun H3 e3 => ?_⟩
      rw [(law_iff N u2 u1).mpr ok]
      walk_at "rd"
      exact hD _ (e2.trans e3)
    generalize tIfS (tNot _) _ _ = M at test ⊢
    rcases ht with ⟨rfl, hall⟩ | ⟨v, rfl, mb, lv⟩
    · walk_at "rd"
      exact test _ H1 e1 (hall u u1 u2) fun H3 e3 => ⟨_, rfl, e3⟩
    · walk_at "rd"
      intro H2 e2
      walk_at "rd"
      refine iteB (fun c => ?_) (fun c => ?_)
      · have ok : okW rows wt h R F u := Classical.byContradiction fun nb => mb.2 u ⟨u1, u2, nb⟩ (aheadB_iff.mp c)
        exact test _ H2 (e1.trans e2) ok fun H3 e3 => ⟨_, rfl, e3⟩
      · exact ⟨_, rfl, e1.trans e2⟩
  · rintro σ H1 ⟨x7, rfl, e1⟩
    walk_at "rd"
    exact q _ e1
theorem rd_holds {K : PySem.W.Frag} {vs : List V} {H : Hp} {Q : VK} {E : XK} (hh : sp_holds vs H Q E) :
    t_law_holds K sp_is_word sp_can_be_set sp_near sp_is_ahead (Ends0 Q) (start ["_law_told", "_law_rows", "_law_letters_here", "_law_weight", "_law_numbers_here", "_law_words", "_law_look", "_law_word_here"] vs) H := by
  obtain ⟨told, ra, ls, wa, na, pw, rows, wt, h, R, F, us, rfl, hr, hwa, hna, ⟨os, o1, o2⟩, ⟨wd, lus, sh, l3, N⟩, ht, q⟩ := hh
  have lo := Paired.len o2
  have hbt : t_law_holds K sp_is_word sp_can_be_set sp_near sp_is_ahead = (tSeq (tAsg (tCB (fun xs H Q => ∃ p ys, xs = [V.ref p] ∧ (SqL K H p ys ∨ SqT K H p ys) ∧ ∀ l, H l = none → Q (V.ref l) (upd H l (.lst ys))) (tCons (tVar 5) tNil)) (gName 6))
    (tSeq (tIfS (tTest (tOp (fun x y H Q => y = V.non ∧ Q (V.bl (!decide (x = V.non))) H) (tVar 0) (tC .non)))
    (tSeq (tIfS (tNot (tB (tCall sp_is_word [] E0 (tCons (tVar 0) (tCons (tVar 2) tNil)))))
    (tRet (tC (.bl false)))
    tNext)
    (tSeq (tIfS (tB (tCall sp_can_be_set [] E0 (tCons (tVar 1) (tCons (tVar 0) (tCons (tVar 3) (tCons (tVar 4) tNil))))))
    (tRet (tC (.bl false)))
    tNext)
    (tAsg (tOp rCat (tVar 6) (tCall sp_near [] E0 (tCons (tVar 0) (tCons (tVar 2) tNil)))) (gName 6))))
    tNext)
    (hold_rest K))) := rfl
  rw [hbt]
  have key : ∀ (H1 : Hp) (pl : Addr) (us : List Word), Same H H1 → Lst TxAt H1 pl us → Wds ls 400001 us → hold_rest K (Ends0 Q) [some told, some (.ref ra), some (T ls), some (.ref wa), some (.ref na), some (.ref pw), some (.ref pl), none] H1 := by
    intro H1 pl us e1 hpl wd
    have hr := MoR.mo e1 hr
    have hwa := MoR.mo e1 hwa
    have hna := MoR.mo e1 hna
    exact hold_rest_ok (D := Ends0 Q) hr hwa hna hpl wd sh N ht fun H2 e2 => q _ (e1.trans e2)
  generalize hold_rest K = M at key ⊢
  walk_at "rd"
  refine ⟨pw, os, rfl, .inl (SqL.of o1), ?_⟩
  intro pl npl
  generalize hh_pl : upd _ pl _ = H1
  obtain ⟨e1, hpl⟩ := al npl hh_pl
  clear hh_pl
  rcases ht with ⟨rfl, hall⟩ | ⟨v, rfl, mb, lv⟩
  · walk_at "rd"
    exact key H1 pl us e1 ⟨os, hpl, paired_tu e1 o2⟩ wd
  · have hr := MoR.mo e1 hr
    have hwa := MoR.mo e1 hwa
    have hna := MoR.mo e1 hna
    walk_at "rd"
    refine ⟨mb.1.1, mb.1.2.1, fun H2 e2 => ?_⟩
    have hr := MoR.mo e2 hr
    have hwa := MoR.mo e2 hwa
    have hna := MoR.mo e2 hna
    walk_at "rd"
    refine ⟨ra, v, wa, na, rows, wt, h, R, F, ls, rfl, hr, hwa, hna, ⟨sh, by omega, mb.1.1, mb.1.2.1⟩, fun H3 e3 => ?_⟩
    have nb : lawW rows wt h R F v = false := by
      rw [Bool.eq_false_iff]
      exact fun z => mb.1.2.2 ((law_iff N mb.1.2.1 mb.1.1).mp z)
    rw [nb]
    walk_at "rd"
    refine ⟨mb.1.2.1, by omega, l3, fun p H4 vs e4 hp wv lvs => ?_⟩
    obtain ⟨zs, z1, z2⟩ := hp
    have e14 := (e2.trans e3).trans e4
    have lz := Paired.len z2
    walk_at "rd"
    refine ⟨pl, p, os, zs, rfl, rfl, e14 _ _ hpl, z1, by rw [sizeLine_eq]; omega, ?_⟩
    intro p5 np5
    generalize hh_p5 : upd _ p5 _ = H5
    obtain ⟨e5, hp5⟩ := al np5 hh_p5
    clear hh_p5
    exact key H5 p5 (us ++ vs) ((e1.trans e14).trans e5) ⟨_, hp5, paired_app (paired_tu ((e1.trans e14).trans e5) o2) (paired_tu e5 z2)⟩ (wd.app wv)
end K33
set_option Elab.async false
set_option linter.all false
set_option maxRecDepth 100000
set_option maxHeartbeats 4000000
/-! readings: cells and rows of numbers -/
namespace K33
open PySem PySem.Spec PyProof.Rows L2
local macro_rules | `(tactic| walk_at "sz") => `(tactic| first | exact Nat.zero_le _ | omega | (simp only [sizeLine_eq, cutL_to, cutL_from, cutL_mid, List.length_append, List.length_cons, List.length_nil, List.length_take, List.length_drop, List.length_map, List.length_dropLast]; omega) | decide | (refine Nat.le_trans (cutL_len _ _ _) ?_; simp only [sizeLine_eq, List.length_append, List.length_cons, List.length_nil, List.length_take, List.length_drop]; omega))
local macro_rules | `(tactic| walk_at "rd") => `(tactic| ((try dsimp only); repeat (first
  | refine ⟨_, rfl, ?_⟩
  | refine ⟨rfl, ?_⟩
  | refine ⟨_, _, rfl, rfl, ?_⟩
  | refine ⟨_, _, rfl, ?_⟩
  | refine ⟨_, _, rfl, SqT.of upd_same, rfl, ?_⟩
  | refine And.intro ⟨_, rfl⟩ ?_
  | refine And.intro (by walk_at "sz") ?_)))
local macro_rules | `(tactic| walk_at "rn") => `(tactic| repeat (first
  | refine ⟨_, rfl, ?_⟩
  | refine ⟨rfl, ?_⟩
  | refine ⟨_, _, rfl, rfl, ?_⟩
  | refine ⟨_, _, rfl, ?_⟩
  | refine ⟨_, _, rfl, SqT.of upd_same, rfl, ?_⟩
  | refine And.intro ⟨_, rfl⟩ ?_
  | refine And.intro (by walk_at "sz") ?_))
def sp_cell (K : PySem.W.Frag) : Sp := fun vs H Q _ => ∃ (sa : Addr) (ns : List Int) (k : Int), vs = [.ref sa, .int k] ∧ SqL K H sa (ns.map V.int) ∧ 0 ≤ k ∧ ∀ c : Int, RetV (.int c) H Q
theorem rd_cell {K : PySem.W.Frag} {vs : List V} {H : Hp} {Q : VK} {E : XK} (h : sp_cell K vs H Q E) : t_law_cell K (Ends0 Q) (start ["_law_script", "_law_k"] vs) H := by
  obtain ⟨sa, ns, k, rfl, hs, hk, q⟩ := h
  unfold t_law_cell
  walk_at "rd"
  refine ⟨sa, _, rfl, .inl hs, ?_⟩
  walk_at "rd"
  refine iteB (fun c => ?_) (fun c => ?_)
  · have c' := of_decide_eq_true c
    rw [List.length_map] at c'
    obtain ⟨j, rfl⟩ : ∃ j : Nat, k = (j : Int) := ⟨k.toNat, by omega⟩
    have hj : j < ns.length := by omega
    walk_at "rd"
    refine ⟨_, _, _, _, rfl, rfl, hs, atI_nat (v := .int ns[j]) (by rw [List.getElem?_map, List.getElem?_eq_getElem hj]; rfl), ?_⟩
    refine .inl ⟨_, rfl, ?_⟩
    exact q _ _ (Same.refl _)
  · walk_at "rd"
    exact q _ _ (Same.refl _)
def RB (r l : Int) : Prop := 0 ≤ r ∧ r < l
def sp_row : Sp := fun vs H Q _ => ∃ (c : Int) (la : Addr) (lims : List Int), vs = [.int c, .ref la] ∧ H la = some (.lst (lims.map V.int)) ∧ ((∀ l ∈ lims, 0 < l ∧ l ≤ 2000000) ∧ lims.length ≤ 1000) ∧ ∀ p H' (rs : List Int), Same H H' → H' p = some (.lst (rs.map V.int)) → Paired RB rs lims → Q (.ref p) H'
theorem divw {j : Int} (h1 : 0 < j) (h2 : j ≤ 2000000) (i : Int) : CDivW i j := by
  refine ⟨h1, ?_⟩
  have h3 : j.natAbs ≠ 0 := by omega
  have : j.natAbs.log2 < 21 := (Nat.log2_lt h3).mpr (by omega)
  omega
/-- the row so far -/
def Rw (D : Addr) (H0 : Hp) (lims : List Int) (i : Nat) (H : Hp) : Prop := ∃ rs : List Int, H D = some (.lst (rs.map V.int)) ∧ Same H0 H ∧ Paired RB rs (lims.take i)
theorem rw_next {D : Addr} {H0 H : Hp} {lims : List Int} {i : Nat} {l r : Int} (nD : H0 D = none) (hl : lims.length ≤ 1000) (c : Rw D H0 lims i H) (hi : lims[i]? = some l) (h1 : 0 ≤ r) (h2 : r < l) :
    ∃ rs : List Int, H D = some (.lst (rs.map V.int)) ∧ (rs.map V.int).length < sizeLine ∧ Rw D H0 lims (i + 1) (upd H D (.lst (rs.map V.int ++ [.int r]))) := by
  obtain ⟨rs, a1, a2, a3⟩ := c
  have la := Paired.len a3
  rw [List.length_take] at la
  refine ⟨rs, a1, line_lt (by rw [List.length_map]; omega), rs ++ [r], by rw [upd_same, List.map_append]; rfl, Same.mut a2 nD, ?_⟩
  rw [List.take_succ_eq_append_getElem (List.getElem?_eq_some_iff.mp hi).1, (List.getElem?_eq_some_iff.mp hi).2]
  exact Paired.snoc1 ⟨h1, h2⟩ a3
theorem rw_put {D : Addr} {H0 H : Hp} {lims rs : List Int} {i : Nat} {l r : Int} (nD : H0 D = none) (a1 : H D = some (.lst (rs.map V.int))) (a2 : Same H0 H) (a3 : Paired RB rs (lims.take i)) (hi : lims[i]? = some l) (h1 : 0 ≤ r) (h2 : r < l) : Rw D H0 lims (i + 1) (upd H D (.lst (rs.map V.int ++ [.int r]))) := by
  refine ⟨rs ++ [r], by rw [upd_same, List.map_append]; rfl, Same.mut a2 nD, ?_⟩
  rw [List.take_succ_eq_append_getElem (List.getElem?_eq_some_iff.mp hi).1, (List.getElem?_eq_some_iff.mp hi).2]
  exact Paired.snoc1 ⟨h1, h2⟩ a3
theorem bits64 {k : Int} (h1 : -(2 ^ 62) ≤ k) (h2 : k ≤ 2 ^ 62) : Builtin.Int.intBits k ≤ 64 := intBits_le_64 (by omega) (by omega)
theorem rd_row {K : PySem.W.Frag} {vs : List V} {H : Hp} {Q : VK} {E : XK} (h : sp_row vs H Q E) : t_law_row K (Ends0 Q) (start ["_law_cell_here", "_law_limits", "_law_row_here", "_law_rest", "_law_limit", "_law_k", "_law_mixed"] vs) H := by
  obtain ⟨c, la, lims, rfl, hla, ⟨hb, hl⟩, q⟩ := h
  have at_ : ∀ {i : Nat} {x : V}, (lims.map V.int)[i]? = some x → ∃ l, lims[i]? = some l ∧ x = .int l ∧ 0 < l ∧ l ≤ 2000000 := fun {i x} hx => by
    rw [List.getElem?_map] at hx
    cases e : lims[i]? with
    | none => rw [e] at hx; cases hx
    | some l =>
      rw [e] at hx
      exact ⟨l, rfl, (Option.some.inj hx).symm, hb l (List.mem_of_getElem? e)⟩
  unfold t_law_row
  walk_at "rn"
  intro D nD
  generalize hh_D : upd _ D _ = H1
  obtain ⟨e1, hD⟩ := al nD hh_D
  clear hh_D
  have r0 : Rw D H lims 0 H1 := ⟨[], hD, e1, .nil⟩
  have hla1 := e1 _ _ hla
  walk_at "rn"
  refine iteB (fun c1 => ?_) (fun c1 => ?_)
  · walk_at "rn"
    refine ⟨⟨_, SqL.of hla1⟩, ?_⟩
    refine for_list (fun i σ H' => ∃ rest x4 x5 x6, σ = [some (.int c), some (.ref la), some (.ref D), some (.int rest), x4, x5, x6] ∧ Rw D H lims i H') ⟨_, _, _, _, rfl, r0⟩ (fun i σ H' _ ⟨_, _, _, _, _, _, _, e, _⟩ => SqL.of (e _ _ hla)) ?_ ?_
    · rintro i x σ H2 hx ⟨rest, x4, x5, x6, rfl, r⟩
      obtain ⟨l, h1, rfl, h2, h3⟩ := at_ hx
      obtain ⟨rs, a1, a2, a3⟩ := rw_next nD hl r h1 (r := rest % l) (Int.emod_nonneg _ (by omega)) (Int.emod_lt_of_pos _ h2)
      walk_at "rd"
      refine ⟨.inl ⟨rfl, _, SqL.of a1⟩, ?_⟩
      walk_at "rd"
      refine .inl ⟨_, rfl, ?_⟩
      walk_at "rd"
      refine ⟨D, _, _, rfl, rfl, a1, a2, ?_⟩
      walk_at "rd"
      refine ⟨divw h2 h3 _, ?_⟩
      exact ⟨_, _, _, _, rfl, a3⟩
    · rintro σ H2 ⟨rest, x4, x5, x6, rfl, rs, a1, a2, a3⟩
      rw [List.length_map, List.take_length] at a3
      walk_at "rd"
      exact q _ _ rs a2 a1 a3
  · walk_at "rn"
    refine ⟨la, _, rfl, .inl (SqL.of hla1), ?_⟩
    walk_at "rn"
    refine for_range (fun i σ H' => ∃ x3 x4 x5 x6, σ = [some (.int c), some (.ref la), some (.ref D), x3, x4, x5, x6] ∧ Rw D H lims i H') ⟨_, _, _, _, rfl, r0⟩ ?_ ?_
    · rintro i σ H2 hi ⟨x3, x4, x5, x6, rfl, r⟩
      have hi2 : i < lims.length := by rw [List.length_map] at hi; omega
      obtain ⟨l, h1⟩ : ∃ l, lims[i]? = some l := ⟨_, List.getElem?_eq_getElem hi2⟩
      obtain ⟨h2, h3⟩ := hb l (List.mem_of_getElem? h1)
      have hla2 : H2 la = some (.lst (lims.map V.int)) := let ⟨_, _, e, _⟩ := r; e _ _ hla
      have b1 : (48271 : Int) ≤ 2 ^ 62 := by decide
      have bi : ∀ z : Int, -(2 ^ 62) ≤ z → z ≤ 2 ^ 62 → Builtin.Int.intBits z ≤ 64 := fun z => bits64
      rw [Int.zero_add]
      walk_at "rd"
      refine ⟨IntMulOk.of_right (bi _ (by decide) (by decide)), ?_⟩
      walk_at "rd"
      refine ⟨IntMulOk.of_right (bi _ (by decide) (by decide)), ?_⟩
      walk_at "rd"
      refine .inl ⟨_, rfl, ?_⟩
      walk_at "rd"
      have m1 := Int.emod_nonneg (c * 48271 + (i : Int) * 69621 + 11) (show (2147483647 : Int) ≠ 0 by decide)
      have m2 := Int.emod_lt_of_pos (c * 48271 + (i : Int) * 69621 + 11) (show (0 : Int) < 2147483647 by decide)
      refine ⟨IntMulOk.of_left (bi _ (by decide) (by decide)), ?_⟩
      walk_at "rd"
      refine ⟨IntMulOk.of_left (bi _ (by omega) (by omega)), ?_⟩
      walk_at "rd"
      refine ⟨IntMulOk.of_left (bi _ (by omega) (by omega)), ?_⟩
      walk_at "rd"
      refine ⟨IntMulOk.of_right (bi _ (by decide) (by decide)), ?_⟩
      walk_at "rd"
      refine .inl ⟨_, rfl, ?_⟩
      obtain ⟨rs, a1, a2, a3⟩ := id r
      have la3 := Paired.len a3
      rw [List.length_take] at la3
      walk_at "rd"
      refine ⟨.inl ⟨rfl, _, SqL.of a1⟩, ?_⟩
      walk_at "rd"
      refine ⟨divw (by decide) (by decide) _, ?_⟩
      refine .inl ⟨_, rfl, ?_⟩
      walk_at "rd"
      refine ⟨_, _, _, _, rfl, rfl, SqL.of hla2, atI_nat (v := .int l) (by rw [List.getElem?_map, h1]; rfl), ?_⟩
      walk_at "rd"
      refine ⟨D, _, _, rfl, rfl, a1, line_lt (by rw [List.length_map]; omega), ?_⟩
      exact ⟨_, _, _, _, rfl, rw_put nD a1 a2 a3 h1 (Int.emod_nonneg _ (by omega)) (Int.emod_lt_of_pos _ h2)⟩
    · rintro σ H2 ⟨x3, x4, x5, x6, rfl, rs, a1, a2, a3⟩
      rw [List.length_map, Int.toNat_natCast, List.take_length] at a3
      walk_at "rd"
      exact q _ _ rs a2 a1 a3
end K33
set_option Elab.async false
set_option linter.all false
set_option maxRecDepth 100000
set_option maxHeartbeats 4000000
/-! readings: letters and joint rows drawn -/
namespace K33
open PySem PySem.Spec PyProof.Rows L2
local macro_rules | `(tactic| walk_at "sz") => `(tactic| first | exact Nat.zero_le _ | omega | (simp only [sizeLine_eq, cutL_to, cutL_from, cutL_mid, List.length_append, List.length_cons, List.length_nil, List.length_take, List.length_drop, List.length_map, List.length_dropLast]; omega) | decide | (refine Nat.le_trans (cutL_len _ _ _) ?_; simp only [sizeLine_eq, List.length_append, List.length_cons, List.length_nil, List.length_take, List.length_drop]; omega))
local macro_rules | `(tactic| walk_at "rd") => `(tactic| ((try dsimp only); repeat (first
  | refine ⟨_, rfl, ?_⟩
  | refine ⟨rfl, ?_⟩
  | refine ⟨_, _, rfl, rfl, ?_⟩
  | refine ⟨_, _, rfl, ?_⟩
  | refine ⟨_, _, rfl, SqT.of upd_same, rfl, ?_⟩
  | refine And.intro ⟨_, rfl⟩ ?_
  | refine And.intro (by walk_at "sz") ?_)))
local macro_rules | `(tactic| walk_at "rn") => `(tactic| repeat (first
  | refine ⟨_, rfl, ?_⟩
  | refine ⟨rfl, ?_⟩
  | refine ⟨_, _, rfl, rfl, ?_⟩
  | refine ⟨_, _, rfl, ?_⟩
  | refine ⟨_, _, rfl, SqT.of upd_same, rfl, ?_⟩
  | refine And.intro ⟨_, rfl⟩ ?_
  | refine And.intro (by walk_at "sz") ?_))
theorem row_at {rs lims : List Int} (h : Paired RB rs lims) {k : Nat} {l : Int} (hk : lims[k]? = some l) : ∃ r, (rs.map V.int)[k]? = some (.int r) ∧ 0 ≤ r ∧ r < l := by
  have hl := Paired.len h
  have h1 : k < lims.length := (List.getElem?_eq_some_iff.mp hk).1
  obtain ⟨b, hb, h2⟩ := Paired.at h (List.getElem?_eq_getElem (show k < rs.length by omega))
  rw [hk] at hb
  cases hb
  exact ⟨rs[k], by rw [List.getElem?_map, List.getElem?_eq_getElem (by omega)]; rfl, h2⟩
/-- signs one by one in a list -/
def Sg (P : Nat → Prop) (D : Addr) (H0 : Hp) (i : Nat) (H : Hp) : Prop := ∃ cs : Word, H D = some (.lst (cs.map fun c => T [c])) ∧ Same H0 H ∧ (∀ c ∈ cs, P c) ∧ cs.length = i
theorem sg_zero {P : Nat → Prop} {D : Addr} {H0 : Hp} (nD : H0 D = none) : Sg P D H0 0 (upd H0 D (.lst [])) := ⟨[], upd_same, Same.new nD, fun c hc => (nomatch hc), rfl⟩
theorem sg_next {P : Nat → Prop} {D : Addr} {H0 H : Hp} {i c : Nat} (nD : H0 D = none) (hi : i ≤ 1000) (s : Sg P D H0 i H) (hc : P c) : ∃ acc, H D = some (.lst acc) ∧ acc.length < sizeLine ∧ Sg P D H0 (i + 1) (upd H D (.lst (acc ++ [T [c]]))) := by
  obtain ⟨cs, a1, a2, a3, a4⟩ := s
  refine ⟨_, a1, line_lt (by rw [List.length_map]; omega), cs ++ [c], by rw [upd_same, List.map_append]; rfl, Same.mut a2 nD, fun d hd => ?_, by rw [List.length_append, a4]; rfl⟩
  rcases List.mem_append.mp hd with z | z
  · exact a3 d z
  · rw [List.mem_singleton.mp z]; exact hc
theorem flat1 : ∀ cs : Word, (cs.map fun c => [c]).flatten = cs
  | [] => rfl
  | c :: r => by rw [List.map_cons, List.flatten_cons, flat1 r]; rfl
theorem abc_len : abc.length = 26 := rfl
def LsOk (ls : Word) : Prop := ls.Pairwise (· < ·) ∧ 1 ≤ ls.length ∧ ls.length ≤ 3 ∧ ∀ c ∈ ls, c ∈ abc
def sp_letters : Sp := fun vs H Q _ => ∃ c : Int, vs = [.int c] ∧ ∀ ls H', Same H H' → LsOk ls → Q (T ls) H'
def sgl (c : Nat) : Str := ⟨[c].toArray⟩
theorem ys_of {cs : Word} {ys : List Str} (h : ys.Perm (cs.map sgl)) : ∃ ds : Word, ys = ds.map sgl ∧ ds.length = cs.length ∧ ∀ d ∈ ds, d ∈ cs := by
  refine ⟨ys.map fun y => y.cps.toList.headD 0, ?_, by rw [List.length_map, h.length_eq, List.length_map], fun d hd => ?_⟩
  · have e : ys.map (sgl ∘ fun y => y.cps.toList.headD 0) = ys.map id := List.map_congr_left fun y hy => by
      obtain ⟨c, hc, rfl⟩ := List.mem_map.mp (h.mem_iff.mp hy)
      rfl
    rw [List.map_map, e, List.map_id]
  · obtain ⟨y, hy, rfl⟩ := List.mem_map.mp hd
    obtain ⟨c, hc, rfl⟩ := List.mem_map.mp (h.mem_iff.mp hy)
    exact hc
theorem rising_pw : ∀ (p : Nat) (ds : Word), risingS (sgl p) (ds.map sgl) = true → (p :: ds).Pairwise (· ≤ ·)
  | p, [], _ => List.pairwise_singleton _ _
  | p, d :: r, h => by
    have h' : (!ltCps [d] [p] && risingS (sgl d) (r.map sgl)) = true := h
    rw [Bool.and_eq_true] at h'
    have ih := rising_pw d r h'.2
    have hd : p ≤ d := by
      have := h'.1
      simp [ltCps] at this
      omega
    refine List.pairwise_cons.mpr ⟨fun x hx => ?_, ih⟩
    rcases List.mem_cons.mp hx with z | z
    · rw [z]; exact hd
    · exact Nat.le_trans hd ((List.pairwise_cons.mp ih).1 x z)
theorem sorted_pw {ds : Word} (h : sortedS (ds.map sgl) = true) : ds.Pairwise (· ≤ ·) := by
  cases ds with
  | nil => exact List.Pairwise.nil
  | cons p r => exact rising_pw p r h
/-- letters gathered -/
structure Gat (ds : Word) (i : Nat) (o : Word) : Prop where
  asc : o.Pairwise (· < ·)
  le : ∀ c ∈ o, ∀ d ∈ ds.drop i, c ≤ d
  inn : ∀ c ∈ o, c ∈ ds
  len : o.length ≤ i
  ne : 0 < i → 0 < o.length
theorem gat_step {ds : Word} {i d : Nat} {o : Word} (hp : ds.Pairwise (· ≤ ·)) (hd : ds[i]? = some d) (g : Gat ds i o) : Gat ds (i + 1) (if d ∈ o then o else o ++ [d]) := by
  obtain ⟨h1, h2⟩ := List.getElem?_eq_some_iff.mp hd
  have hdr : ds.drop i = d :: ds.drop (i + 1) := by rw [← h2]; exact List.drop_eq_getElem_cons h1
  have hp2 : (d :: ds.drop (i + 1)).Pairwise (· ≤ ·) := by rw [← hdr]; exact hp.sublist (List.drop_sublist ..)
  by_cases z : d ∈ o
  · rw [if_pos z]
    exact ⟨g.asc, fun c hc e he => g.le c hc e (by rw [hdr]; exact List.mem_cons_of_mem _ he), g.inn, by have := g.len; omega, fun _ => List.length_pos_of_mem z⟩
  · rw [if_neg z]
    refine ⟨List.pairwise_append.mpr ⟨g.asc, List.pairwise_singleton _ _, fun c hc e he => ?_⟩, fun c hc e he => ?_, fun c hc => ?_, by rw [List.length_append]; exact Nat.succ_le_succ g.len, fun _ => by rw [List.length_append]; exact Nat.succ_pos _⟩
    · rw [List.mem_singleton.mp he]
      have := g.le c hc d (by rw [hdr]; exact List.mem_cons_self ..)
      have : c ≠ d := fun e => z (e ▸ hc)
      omega
    · rcases List.mem_append.mp hc with y | y
      · exact g.le c y e (by rw [hdr]; exact List.mem_cons_of_mem _ he)
      · rw [List.mem_singleton.mp y]; exact (List.pairwise_cons.mp hp2).1 e he
    · rcases List.mem_append.mp hc with y | y
      · exact g.inn c y
      · rw [List.mem_singleton.mp y]; exact List.mem_of_getElem? hd
theorem rd_letters {K : PySem.W.Frag} {vs : List V} {H : Hp} {Q : VK} {E : XK} (h : sp_letters vs H Q E) : t_law_letters K sp_row (Ends0 Q) (start ["_law_cell_here", "_law_row_here", "_law_many", "_law_alphabet", "_law_out", "_law_letter", "_law_k"] vs) H := by
  obtain ⟨c, rfl, q⟩ := h
  unfold t_law_letters
  walk_at "rd"
  intro p0 np0
  generalize hh_p0 : upd _ p0 _ = H1
  obtain ⟨e1, hp0⟩ := al np0 hh_p0
  clear hh_p0
  walk_at "rd"
  refine ⟨_, _, [12, 26, 26, 26], rfl, hp0, ⟨by decide, by decide⟩, fun pr H2 rs e2 hpr hrb => ?_⟩
  obtain ⟨r0, g0, b0, c0⟩ := row_at hrb (k := 0) rfl
  have key : ∀ (H3 : Hp) (m : Int), Same H2 H3 → (m = 1 ∨ m = 2 ∨ m = 3) → (tSeq (tAsg (tC (T [97, 98, 99, 100, 101, 102, 103, 104, 105, 106, 107, 108, 109, 110, 111, 112, 113, 114, 115, 116, 117, 118, 119, 120, 121, 122])) (gName 3))
    (tSeq (tAsg (tC (T [])) (gName 4))
    (tSeq (tFor (iList K (tCB (rSortedS K) (tCons (tLc (iRng1 (tCons (tVar 2) tNil)) (gName 6) tYes (tOp rIxTx (tVar 3) (tOp (rIxL K) (tVar 1) (tOp (rI0 fun i j => .int (i + j)) (tC (.int 1)) (tVar 6)))) [6]) tNil))) (gName 5)
    (tIfS (tTest (tOp rNotInT (tVar 5) (tVar 4)))
    (tAsg (tOp rAddT (tVar 4) (tVar 5)) (gName 4))
    tNext))
    (tRet (tVar 4))))) (Ends0 Q) [some (.int c), some (.ref pr), some (.int m), none, none, none, none] H3 := by
    intro H3 m e3 hm
    have hpr3 := e3 _ _ hpr
    walk_at "rn"
    intro D nD
    obtain ⟨n, rfl⟩ : ∃ n : Nat, m = (n : Int) := ⟨m.toNat, by omega⟩
    refine turns walk_range (Sg (· ∈ abc) D H3) (sg_zero nD) (fun _ _ _ _ => trivial) ?_ ?_
    · rintro i x H4 H5 hi s ⟨rfl, rfl⟩
      have hi2 : i < 3 := by omega
      have hpr4 : H5 pr = some (.lst (rs.map V.int)) := let ⟨_, _, e, _⟩ := s; e _ _ hpr3
      obtain ⟨r, gr, br, cr⟩ := row_at hrb (k := 1 + i) (l := 26) (by rcases (show i = 0 ∨ i = 1 ∨ i = 2 by omega) with z | z | z <;> rw [z] <;> rfl)
      obtain ⟨r', rfl⟩ : ∃ r' : Nat, r = (r' : Int) := ⟨r.toNat, by omega⟩
      have hr' : r' < abc.length := by rw [abc_len]; omega
      dsimp only
      rw [Int.zero_add]
      walk_at "rd"
      refine ⟨_, _, _, _, rfl, rfl, SqL.of hpr4, (atI_nat gr : atI _ ((1 + i : Nat) : Int) = _), ?_⟩
      refine ⟨abc, _, abc[r'], rfl, rfl, by decide, atI_nat (List.getElem?_eq_getElem hr'), ?_⟩
      exact sg_next nD (by omega) s (List.getElem_mem hr')
    · rintro H4 ⟨cs, s1, s2, s3, s4⟩
      rw [Int.toNat_natCast] at s4
      walk_at "rn"
      have es : cs.map (fun c => T [c]) = (cs.map sgl).map V.str := by rw [List.map_map]; rfl
      rw [es] at s1
      refine ⟨D, cs.map sgl, rfl, SqL.of s1, by rw [List.length_map]; omega, fun ys p hper hsor np => ?_⟩
      obtain ⟨ds, rfl, ld, md⟩ := ys_of hper
      have hpw := sorted_pw hsor
      generalize hh : upd H4 p (.lst ((ds.map sgl).map V.str)) = H5
      obtain ⟨e5, hp5⟩ := al np hh
      walk_at "rn"
      refine ⟨⟨_, SqL.of hp5⟩, ?_⟩
      refine for_list (fun i σ H' => ∃ x5 o, σ = [some (.int c), some (.ref pr), some (.int (n : Int)), some (T abc), some (T o), x5, none] ∧ Same H5 H' ∧ Gat ds i o) ⟨none, [], rfl, Same.refl _, List.Pairwise.nil, fun c hc => (nomatch hc), fun c hc => (nomatch hc), Nat.le_refl 0, fun z => absurd z (by decide)⟩ (fun i σ H' _ ⟨_, _, _, e, _⟩ => SqL.of (e _ _ hp5)) ?_ ?_
      · rintro i x σ H6 hx ⟨x5, o, rfl, e6, g⟩
        rw [List.map_map, List.getElem?_map] at hx
        have hi : i < ds.length := by
          cases z : ds[i]? with
          | none => rw [z] at hx; cases hx
          | some d => exact (List.getElem?_eq_some_iff.mp z).1
        rw [List.getElem?_eq_getElem hi] at hx
        cases hx
        have gs := gat_step hpw (List.getElem?_eq_getElem hi) g
        have glen := g.len
        refine ⟨_, rfl, _, rfl, ds[i], o, rfl, rfl, _, rfl, ?_⟩
        refine iteB (fun z => ?_) (fun z => ?_)
        · have z' : ds[i] ∉ o := by simpa using z
          rw [if_neg z'] at gs
          refine ⟨_, rfl, _, rfl, o, [ds[i]], rfl, rfl, by simp only [sizeLine_eq, List.length_cons, List.length_nil]; omega, ?_⟩
          exact ⟨_, _, rfl, e6, gs⟩
        · have z' : ds[i] ∈ o := by simpa using z
          rw [if_pos z'] at gs
          exact ⟨_, _, rfl, e6, gs⟩
      · rintro σ H6 ⟨x5, o, rfl, e6, g⟩
        rw [List.length_map, List.length_map] at g
        have gl := g.len
        have gn := g.ne (by omega)
        walk_at "rd"
        exact q _ _ (((((e1.trans e2).trans e3).trans s2).trans e5).trans e6) ⟨g.asc, gn, by omega, fun x hx => s3 x (md x (g.inn x hx))⟩
  generalize tSeq (tAsg (tC (T [97, 98, 99, 100, 101, 102, 103, 104, 105, 106, 107, 108, 109, 110, 111, 112, 113, 114, 115, 116, 117, 118, 119, 120, 121, 122])) (gName 3)) _ = M at key ⊢
  walk_at "rd"
  refine ⟨_, _, _, _, rfl, rfl, SqL.of hpr, atI_nat g0, ?_⟩
  walk_at "rd"
  refine iteB (fun z => ?_) (fun z => ?_)
  · have z' := of_decide_eq_true z
    walk_at "rd"
    refine ⟨_, _, _, _, rfl, rfl, SqL.of hpr, atI_nat g0, ?_⟩
    walk_at "rd"
    refine ⟨IntMulOk.of_left (bits64 (by decide) (by decide)), ?_⟩
    walk_at "rd"
    exact key _ (1 + 2 * r0) (Same.refl _) (by omega)
  · exact key _ _ (Same.refl _) (.inr (.inl rfl))
end K33
set_option Elab.async false
set_option linter.all false
set_option maxRecDepth 100000
set_option maxHeartbeats 4000000
/-! readings: joint rows drawn -/
namespace K33
open PySem PySem.Spec PyProof.Rows L2
local macro_rules | `(tactic| walk_at "sz") => `(tactic| first | exact Nat.zero_le _ | omega | (simp only [sizeLine_eq, cutL_to, cutL_from, cutL_mid, List.length_append, List.length_cons, List.length_nil, List.length_take, List.length_drop, List.length_map, List.length_dropLast]; omega) | decide | (refine Nat.le_trans (cutL_len _ _ _) ?_; simp only [sizeLine_eq, List.length_append, List.length_cons, List.length_nil, List.length_take, List.length_drop]; omega))
local macro_rules | `(tactic| walk_at "rd") => `(tactic| ((try dsimp only); repeat (first
  | refine ⟨_, rfl, ?_⟩
  | refine ⟨rfl, ?_⟩
  | refine ⟨_, _, rfl, rfl, ?_⟩
  | refine ⟨_, _, rfl, ?_⟩
  | refine ⟨_, _, rfl, SqT.of upd_same, rfl, ?_⟩
  | refine And.intro ⟨_, rfl⟩ ?_
  | refine And.intro (by walk_at "sz") ?_)))
local macro_rules | `(tactic| walk_at "rn") => `(tactic| repeat (first
  | refine ⟨_, rfl, ?_⟩
  | refine ⟨rfl, ?_⟩
  | refine ⟨_, _, rfl, rfl, ?_⟩
  | refine ⟨_, _, rfl, ?_⟩
  | refine ⟨_, _, rfl, SqT.of upd_same, rfl, ?_⟩
  | refine And.intro ⟨_, rfl⟩ ?_
  | refine And.intro (by walk_at "sz") ?_))
def PQ (c : Nat) : Prop := c ∈ abc ∨ c = 63
theorem cutL_4 (z : Word) : cutL z none (some 4) = z.take 4 := cutL_to z 4
def sp_joint : Sp := fun vs H Q _ => ∃ (c : Int) (ls : Word) (sh : Int), vs = [.int c, T ls, .int sh] ∧ LsOk ls ∧ ∀ v H' r, Same H H' → RowAt H' v r → RowOk r → Q v H'
def menu (ls : Word) (a : Nat) : Word := ((ls ++ ls) ++ (ls ++ ls)).take 4 ++ [63, 63] ++ [a]
theorem menu_len {ls : Word} {a : Nat} (h : 1 ≤ ls.length) : (menu ls a).length = 7 := by
  unfold menu
  simp only [List.length_append, List.length_take, List.length_cons, List.length_nil]
  omega
theorem menu_ok {ls : Word} {a : Nat} (h : LsOk ls) (ha : a ∈ abc) : ∀ c ∈ menu ls a, PQ c := fun c hc => by
  unfold menu at hc
  rcases List.mem_append.mp hc with z | z
  · rcases List.mem_append.mp z with y | y
    · have y2 := List.mem_of_mem_take y
      simp only [List.mem_append, or_self] at y2
      exact .inl (h.2.2.2 c y2)
    · simp only [List.mem_cons, List.not_mem_nil, or_false, or_self] at y
      exact .inr y
  · rw [List.mem_singleton.mp z]; exact .inl ha
theorem part_pq {z : Word} {d : Int} (hl : z.length ≤ 3) (h : ∀ c ∈ z, PQ c) : PartOk z d := ⟨hl, fun i hi => (h _ (List.getElem_mem hi)).imp id .inl⟩
theorem part_dot {z : Word} (hl : z.length ≤ 3) (h0 : 0 < z.length) (h : ∀ c ∈ z, PQ c) : PartOk ([46] ++ z.drop 1) 0 := by
  refine ⟨by rw [List.length_append, List.length_drop, List.length_cons, List.length_nil]; omega, fun i hi => ?_⟩
  cases i with
  | zero => exact .inr (.inr ⟨rfl, rfl⟩)
  | succ i =>
    have : ([46] ++ z.drop 1)[i + 1] ∈ z.drop 1 := by
      show (46 :: z.drop 1)[i + 1] ∈ _
      rw [List.getElem_cons_succ]
      exact List.getElem_mem _
    exact (h _ (List.mem_of_mem_drop this)).imp id .inl
theorem part_dotR {z : Word} (hl : z.length ≤ 3) (h0 : 0 < z.length) (h : ∀ c ∈ z, PQ c) : PartOk (z.dropLast ++ [46]) (((z.dropLast ++ [46]).length : Int) - 1) := by
  refine ⟨by rw [List.length_append, List.length_dropLast, List.length_cons, List.length_nil]; omega, fun i hi => ?_⟩
  by_cases c : i < z.dropLast.length
  · rw [List.getElem_append_left c]
    exact (h _ ((List.dropLast_sublist z).subset (List.getElem_mem c))).imp id .inl
  · have e : i = z.dropLast.length := by
      rw [List.length_append, List.length_cons, List.length_nil] at hi
      omega
    subst e
    refine .inr (.inr ⟨by rw [List.getElem_append_right (Nat.le_refl _)]; simp, ?_⟩)
    rw [List.length_append, List.length_cons, List.length_nil]
    omega
theorem sg_lst {P : Nat → Prop} {D : Addr} {H0 H : Hp} {i : Nat} (s : Sg P D H0 i H) : ∃ cs : Word, H D = some (.lst ((cs.map fun c => [c]).map T)) ∧ Same H0 H ∧ (∀ c ∈ cs, P c) ∧ cs.length = i := by
  obtain ⟨cs, a1, a2, a3, a4⟩ := s
  exact ⟨cs, by rw [List.map_map]; exact a1, a2, a3, a4⟩
theorem rd_joint {K : PySem.W.Frag} {vs : List V} {H : Hp} {Q : VK} {E : XK} (h : sp_joint vs H Q E) : t_law_joint K sp_row (Ends0 Q) (start ["_law_cell_here", "_law_letters_here", "_law_share", "_law_row_here", "_law_alphabet", "_law_menu", "_law_left", "_law_right", "_law_k"] vs) H := by
  obtain ⟨c, ls, sh, rfl, ok, q⟩ := h
  obtain ⟨ok1, ok2, ok3, ok4⟩ := id ok
  unfold t_law_joint
  walk_at "rd"
  intro p0 np0
  generalize hh_p0 : upd _ p0 _ = H1
  obtain ⟨e1, hp0⟩ := al np0 hh_p0
  clear hh_p0
  walk_at "rd"
  refine ⟨_, _, [4, 4, 7, 7, 7, 7, 7, 7, 4, 4, 3, 26], rfl, hp0, ⟨by decide, by decide⟩, fun pr H2 rs e2 hpr hrb => ?_⟩
  obtain ⟨r0, g0, b0, c0⟩ := row_at hrb (k := 0) rfl
  obtain ⟨r1, g1, b1, c1⟩ := row_at hrb (k := 1) rfl
  obtain ⟨r8, g8, b8, c8⟩ := row_at hrb (k := 8) rfl
  obtain ⟨r9, g9, b9, c9⟩ := row_at hrb (k := 9) rfl
  obtain ⟨r10, g10, b10, c10⟩ := row_at hrb (k := 10) rfl
  obtain ⟨r11, g11, b11, c11⟩ := row_at hrb (k := 11) rfl
  obtain ⟨n0, rfl⟩ : ∃ n : Nat, r0 = (n : Int) := ⟨r0.toNat, by omega⟩
  obtain ⟨n1, rfl⟩ : ∃ n : Nat, r1 = (n : Int) := ⟨r1.toNat, by omega⟩
  obtain ⟨a11, rfl⟩ : ∃ n : Nat, r11 = (n : Int) := ⟨r11.toNat, by omega⟩
  have ha11 : a11 < abc.length := by rw [abc_len]; omega
  walk_at "rd"
  rw [cutL_4]
  have ht4 : (((ls ++ ls) ++ (ls ++ ls)).take 4).length = 4 := by
    simp only [List.length_append, List.length_take]
    omega
  walk_at "rd"
  refine ⟨_, _, _, _, rfl, rfl, SqL.of hpr, atI_nat g11, ?_⟩
  refine ⟨abc, _, abc[a11], rfl, rfl, by decide, atI_nat (List.getElem?_eq_getElem ha11), ?_⟩
  have ml := menu_len (a := abc[a11]) ok2
  have mo := menu_ok ok (List.getElem_mem ha11)
  refine ⟨_, _, rfl, rfl, by rw [sizeLine_eq]; simp only [List.length_append, ht4, List.length_cons, List.length_nil]; decide, ?_⟩
  change gName 5 (T (menu ls abc[a11])) _ _ _
  generalize menu ls abc[a11] = mn at ml mo ⊢
  have pick : ∀ (H3 : Hp) (i k : Nat), Same H2 H3 → i < 3 → (k = 2 ∨ k = 5) → ∃ c, atI (rs.map V.int) ((k : Int) + (i : Nat)) = some (.int (c : Nat)) ∧ ∃ hc : c < mn.length, PQ mn[c] := by
    intro H3 i k e3 hi hk
    obtain ⟨r, gr, br, cr⟩ := row_at hrb (k := k + i) (l := 7) (by rcases (show i = 0 ∨ i = 1 ∨ i = 2 by omega) with z | z | z <;> rcases hk with y | y <;> rw [z, y] <;> rfl)
    obtain ⟨r', rfl⟩ : ∃ r' : Nat, r = (r' : Int) := ⟨r.toNat, by omega⟩
    exact ⟨r', (atI_nat gr : atI _ ((k + i : Nat) : Int) = _), by omega, mo _ (List.getElem_mem _)⟩
  have key1 : ∀ (H3 : Hp) (l r : Word) (x8 : Option V), Same H2 H3 → PartOk l 0 → r.length = n1 → (∀ c ∈ r, PQ c) →
    (tSeq (tIfS (tAnd (tTest (tOp (rI0 fun i j => .bl (decide (j < i))) (tOp (rIxL K) (tVar 3) (tC (.int 1))) (tC (.int 0)))) (tTest (tOp rEq (tOp (rIxL K) (tVar 3) (tC (.int 9))) (tC (.int 0)))))
    (tAsg (tOp rAddT (tSl rSlTx (tVar 7) tNoPart (tPart (tUn (rU fun i => .int (-i)) (tC (.int 1))))) (tC (T [46]))) (gName 7))
    tNext)
    (tRet (tTup (tCons (tVar 6) (tCons (tVar 7) (tCons (tOp (rI0 fun i j => .bl (decide (i < j))) (tOp (rIxL K) (tVar 3) (tC (.int 10))) (tVar 2)) tNil)))))) (Ends0 Q) [some (.int c), some (T ls), some (.int sh), some (.ref pr), some (T abc), some (T mn), some (T l), some (T r), x8] H3 := by
    intro H3 l r x8 e3 hl hr1 hr2
    have hpr3 := e3 _ _ hpr
    have fin : ∀ (r' : Word), PartOk r' ((r'.length : Int) - 1) → (tRet (tTup (tCons (tVar 6) (tCons (tVar 7) (tCons (tOp (rI0 fun i j => .bl (decide (i < j))) (tOp (rIxL K) (tVar 3) (tC (.int 10))) (tVar 2)) tNil))))) (Ends0 Q) [some (.int c), some (T ls), some (.int sh), some (.ref pr), some (T abc), some (T mn), some (T l), some (T r'), x8] H3 := by
      intro r' hr'
      walk_at "rd"
      refine ⟨_, _, _, _, rfl, rfl, SqL.of hpr3, atI_nat g10, ?_⟩
      walk_at "rd"
      intro pf nf
      generalize hh_pf : upd _ pf _ = H4
      obtain ⟨ef, hf⟩ := al nf hh_pf
      clear hh_pf
      exact q _ _ (l, r', decide (r10 < sh)) (((e1.trans e2).trans e3).trans ef) ⟨pf, rfl, hf⟩ ⟨hl, hr'⟩
    generalize tRet _ = M at fin ⊢
    walk_at "rd"
    refine ⟨_, _, _, _, rfl, rfl, SqL.of hpr3, atI_nat g1, ?_⟩
    walk_at "rd"
    refine iteB (fun z => ?_) (fun z => ?_)
    · have z' := of_decide_eq_true z
      walk_at "rd"
      refine ⟨_, _, _, _, rfl, rfl, SqL.of hpr3, atI_nat g9, ?_⟩
      walk_at "rd"
      refine iteB (fun z2 => ?_) (fun z2 => ?_)
      · walk_at "rd"
        rw [show (-(1 : Int)) = -1 from rfl, cutL_m1]
        walk_at "rd"
        exact fin _ (part_dotR (by omega) (by omega) hr2)
      · exact fin _ (part_pq (by omega) hr2)
    · exact fin _ (part_pq (by omega) hr2)
  have key0 : ∀ (H3 : Hp) (l r : Word) (x8 : Option V), Same H2 H3 → l.length = n0 → (∀ c ∈ l, PQ c) → r.length = n1 → (∀ c ∈ r, PQ c) →
    (tSeq (tIfS (tAnd (tTest (tOp (rI0 fun i j => .bl (decide (j < i))) (tOp (rIxL K) (tVar 3) (tC (.int 0))) (tC (.int 0)))) (tTest (tOp rEq (tOp (rIxL K) (tVar 3) (tC (.int 8))) (tC (.int 0)))))
    (tAsg (tOp rAddT (tC (T [46])) (tSl rSlTx (tVar 6) (tPart (tC (.int 1))) tNoPart)) (gName 6))
    tNext)
    (tSeq (tIfS (tAnd (tTest (tOp (rI0 fun i j => .bl (decide (j < i))) (tOp (rIxL K) (tVar 3) (tC (.int 1))) (tC (.int 0)))) (tTest (tOp rEq (tOp (rIxL K) (tVar 3) (tC (.int 9))) (tC (.int 0)))))
    (tAsg (tOp rAddT (tSl rSlTx (tVar 7) tNoPart (tPart (tUn (rU fun i => .int (-i)) (tC (.int 1))))) (tC (T [46]))) (gName 7))
    tNext)
    (tRet (tTup (tCons (tVar 6) (tCons (tVar 7) (tCons (tOp (rI0 fun i j => .bl (decide (i < j))) (tOp (rIxL K) (tVar 3) (tC (.int 10))) (tVar 2)) tNil))))))) (Ends0 Q) [some (.int c), some (T ls), some (.int sh), some (.ref pr), some (T abc), some (T mn), some (T l), some (T r), x8] H3 := by
    intro H3 l r x8 e3 hl1 hl2 hr1 hr2
    have hpr3 := e3 _ _ hpr
    have key1 := fun l x8 hl => key1 H3 l r x8 e3 hl hr1 hr2
    generalize tSeq (tIfS (tAnd (tTest (tOp _ (tOp (rIxL K) (tVar 3) (tC (.int 1))) (tC (.int 0)))) _) _ _) _ = M at key1 ⊢
    walk_at "rd"
    refine ⟨_, _, _, _, rfl, rfl, SqL.of hpr3, atI_nat g0, ?_⟩
    walk_at "rd"
    refine iteB (fun z => ?_) (fun z => ?_)
    · have z' := of_decide_eq_true z
      walk_at "rd"
      refine ⟨_, _, _, _, rfl, rfl, SqL.of hpr3, atI_nat g8, ?_⟩
      walk_at "rd"
      refine iteB (fun z2 => ?_) (fun z2 => ?_)
      · walk_at "rd"
        rw [cutL_1]
        walk_at "rd"
        exact key1 _ _ (part_dot (by omega) (by omega) hl2)
      · exact key1 _ _ (part_pq (by omega) hl2)
    · exact key1 _ _ (part_pq (by omega) hl2)
  generalize tSeq (tIfS _ _ _) _ = M at key0 ⊢
  walk_at "rn"
  refine ⟨_, _, _, _, rfl, rfl, SqL.of hpr, atI_nat g0, ?_⟩
  walk_at "rn"
  intro D nD
  refine turns walk_range (Sg PQ D H2) (sg_zero nD) (fun _ _ _ _ => trivial) ?_ ?_
  · rintro i x H4 H5 hi s ⟨rfl, rfl⟩
    have hpr5 : H5 pr = some (.lst (rs.map V.int)) := let ⟨_, _, e, _⟩ := s; e _ _ hpr
    obtain ⟨c', k1, k2, k3⟩ := pick H2 i 2 (Same.refl _) (by omega) (.inl rfl)
    dsimp only
    rw [Int.zero_add]
    walk_at "rd"
    refine ⟨_, _, _, _, rfl, rfl, SqL.of hpr5, k1, ?_⟩
    refine ⟨_, _, _, rfl, rfl, line_ok (by omega), atI_nat (List.getElem?_eq_getElem k2), ?_⟩
    exact sg_next nD (by omega) s k3
  · intro H4 s
    obtain ⟨cl, a1, a2, a3, a4⟩ := sg_lst s
    have hpr4 := a2 _ _ hpr
    walk_at "rn"
    refine ⟨D, cl.map fun c => [c], rfl, rfl, SqL.of a1, by rw [flat1]; omega, ?_⟩
    rw [flat1]
    walk_at "rn"
    refine ⟨_, _, _, _, rfl, rfl, SqL.of hpr4, atI_nat g1, ?_⟩
    walk_at "rn"
    intro D2 nD2
    refine turns walk_range (Sg PQ D2 H4) (sg_zero nD2) (fun _ _ _ _ => trivial) ?_ ?_
    · rintro i x H5 H6 hi s ⟨rfl, rfl⟩
      have hpr5 : H6 pr = some (.lst (rs.map V.int)) := let ⟨_, _, e, _⟩ := s; e _ _ hpr4
      obtain ⟨c', k1, k2, k3⟩ := pick H2 i 5 (Same.refl _) (by omega) (.inr rfl)
      dsimp only
      rw [Int.zero_add]
      walk_at "rd"
      refine ⟨_, _, _, _, rfl, rfl, SqL.of hpr5, k1, ?_⟩
      refine ⟨_, _, _, rfl, rfl, line_ok (by omega), atI_nat (List.getElem?_eq_getElem k2), ?_⟩
      exact sg_next nD2 (by omega) s k3
    · intro H5 s
      obtain ⟨cr, z1, z2, z3, z4⟩ := sg_lst s
      walk_at "rn"
      refine ⟨D2, cr.map fun c => [c], rfl, rfl, SqL.of z1, by rw [flat1]; omega, ?_⟩
      rw [flat1]
      exact key0 H5 cl cr _ (a2.trans z2) (by omega) a3 (by omega) z3
def sp_written : Sp := fun vs H Q _ => ∃ (v : V) (r : Row), vs = [v] ∧ RowAt H v r ∧ (r.1.length ≤ 3 ∧ r.2.1.length ≤ 3) ∧ RetV (T (written r)) H Q
theorem rd_written {K : PySem.W.Frag} {vs : List V} {H : Hp} {Q : VK} {E : XK} (h : sp_written vs H Q E) : t_law_written K (Ends0 Q) (start ["_law_row_here"] vs) H := by
  obtain ⟨v, ⟨l, r, f⟩, rfl, ⟨p, rfl, hp⟩, ⟨h1, h2⟩, q⟩ := h
  simp only at h1 h2 hp
  unfold t_law_written
  walk_at "rd"
  refine ⟨_, _, _, _, rfl, rfl, SqT.of hp, at2, ?_⟩
  walk_at "rd"
  cases f with
  | true =>
    walk_at "rd"
    refine ⟨_, _, _, _, rfl, rfl, SqT.of hp, at0, ?_⟩
    walk_at "rd"
    refine ⟨_, _, _, _, rfl, rfl, SqT.of hp, at1, ?_⟩
    walk_at "rd"
    exact q _ (Same.refl _)
  | false =>
    walk_at "rd"
    refine ⟨_, _, _, _, rfl, rfl, SqT.of hp, at0, ?_⟩
    walk_at "rd"
    refine ⟨_, _, _, _, rfl, rfl, SqT.of hp, at1, ?_⟩
    walk_at "rd"
    exact q _ (Same.refl _)
end K33
set_option Elab.async false
set_option linter.all false
set_option maxRecDepth 100000
set_option maxHeartbeats 4000000
/-! readings: the list of rows, words and numbers drawn -/
namespace K33
open PySem PySem.Spec PyProof.Rows L2
local macro_rules | `(tactic| walk_at "sz") => `(tactic| first | exact Nat.zero_le _ | omega | (simp only [sizeLine_eq, cutL_to, cutL_from, cutL_mid, List.length_append, List.length_cons, List.length_nil, List.length_take, List.length_drop, List.length_map, List.length_dropLast]; omega) | decide | (refine Nat.le_trans (cutL_len _ _ _) ?_; simp only [sizeLine_eq, List.length_append, List.length_cons, List.length_nil, List.length_take, List.length_drop]; omega))
local macro_rules | `(tactic| walk_at "rd") => `(tactic| ((try dsimp only); repeat (first
  | refine ⟨_, rfl, ?_⟩
  | refine ⟨rfl, ?_⟩
  | refine ⟨_, _, rfl, rfl, ?_⟩
  | refine ⟨_, _, rfl, ?_⟩
  | refine ⟨_, _, rfl, SqT.of upd_same, rfl, ?_⟩
  | refine And.intro ⟨_, rfl⟩ ?_
  | refine And.intro (by walk_at "sz") ?_)))
local macro_rules | `(tactic| walk_at "rn") => `(tactic| repeat (first
  | refine ⟨_, rfl, ?_⟩
  | refine ⟨rfl, ?_⟩
  | refine ⟨_, _, rfl, rfl, ?_⟩
  | refine ⟨_, _, rfl, ?_⟩
  | refine ⟨_, _, rfl, SqT.of upd_same, rfl, ?_⟩
  | refine And.intro ⟨_, rfl⟩ ?_
  | refine And.intro (by walk_at "sz") ?_))
def sp_list (K : PySem.W.Frag) : Sp := fun vs H Q _ => ∃ (sa : Addr) (ns : List Int) (a : Int) (ls : Word), vs = [.ref sa, .int a, T ls] ∧ SqL K H sa (ns.map V.int) ∧ 0 ≤ a ∧ LsOk ls ∧ ∀ p H' rows, Same H H' → Lst RowAt H' p rows → (∀ r ∈ rows, RowOk r) → rows.length ≤ 8 → Q (.ref p) H'
def LiI (sa : Addr) (a : Int) (ls : Word) (pr p : Addr) (m sh : Int) (H0 : Hp) (i : Nat) (σ : St) (H : Hp) : Prop := ∃ x7 x8 rows, σ = [some (.ref sa), some (.int a), some (T ls), some (.ref pr), some (.int m), some (.int sh), some (.ref p), x7, x8] ∧ Same H0 H ∧ Lst RowAt H p rows ∧ (∀ r ∈ rows, RowOk r) ∧ rows.length = i
theorem rd_list {K : PySem.W.Frag} {vs : List V} {H : Hp} {Q : VK} {E : XK} (h : sp_list K vs H Q E) :
    t_law_list K (sp_cell K) sp_row sp_joint (Ends0 Q) (start ["_law_script", "_law_at", "_law_letters_here", "_law_row_here", "_law_many", "_law_share", "_law_rows", "_law_k", "_law_cell_here"] vs) H := by
  obtain ⟨sa, ns, a, ls, rfl, hs, ha, ok, q⟩ := h
  unfold t_law_list
  walk_at "rd"
  refine ⟨sa, ns, a, rfl, hs, ha, fun c H1 e1 => ?_⟩
  have hs := MoR.mo e1 hs
  walk_at "rd"
  intro p0 np0
  generalize hh_p0 : upd _ p0 _ = H2
  obtain ⟨e2, hp0⟩ := al np0 hh_p0
  clear hh_p0
  have hs := MoR.mo e2 hs
  walk_at "rd"
  refine ⟨_, _, [4, 5, 8, 3], rfl, hp0, ⟨by decide, by decide⟩, fun pr H3 rs e3 hpr hrb => ?_⟩
  have hs := MoR.mo e3 hs
  have e03 := (e1.trans e2).trans e3
  obtain ⟨r0, g0, b0, c0⟩ := row_at hrb (k := 0) rfl
  obtain ⟨r1, g1, b1, c1⟩ := row_at hrb (k := 1) rfl
  obtain ⟨r2, g2, b2, c2⟩ := row_at hrb (k := 2) rfl
  obtain ⟨r3, g3, b3, c3⟩ := row_at hrb (k := 3) rfl
  have key : ∀ (m sh : Int), 0 ≤ m → m ≤ 7 → (tSeq (tAsg (tLst tNil) (gName 6))
    (tSeq (tFor (iRng1 (tCons (tVar 4) tNil)) (gName 7)
    (tSeq (tAsg (tCall (sp_cell K) [] E0 (tCons (tVar 0) (tCons (tOp (rI0 fun i j => .int (i + j)) (tOp (rI0 fun i j => .int (i + j)) (tVar 1) (tC (.int 1))) (tVar 7)) tNil))) (gName 8))
    (tDrop (tBM K "list" rAppend (tVar 6) (tCons (tCall sp_joint [] E0 (tCons (tOp (rI0 fun i j => .int (i + j)) (tVar 8) (tVar 7)) (tCons (tVar 2) (tCons (tVar 5) tNil)))) tNil)))))
    (tSeq (tIfS (tTest (tOp (rI0 fun i j => .bl (decide (j < i))) (tOp (rIxL K) (tVar 3) (tC (.int 3))) (tC (.int 0))))
    (tDrop (tBM K "list" rAppend (tVar 6) (tCons (tTup (tCons (tC (T [])) (tCons (tC (T [])) (tCons (tC (.bl false)) tNil)))) tNil)))
    tNext)
    (tRet (tVar 6))))) (Ends0 Q) [some (.ref sa), some (.int a), some (T ls), some (.ref pr), some (.int m), some (.int sh), none, none, none] H3 := by
    intro m sh m0 m7
    walk_at "rn"
    intro p np
    generalize hh_p : upd _ p _ = H4
    obtain ⟨e4, hp⟩ := al np hh_p
    clear hh_p
    walk_at "rn"
    refine for_range (LiI sa a ls pr p m sh H3) ⟨_, _, [], rfl, e4, ⟨[], hp, .nil⟩, fun r hr => (nomatch hr), rfl⟩ ?_ ?_
    · rintro i σ H5 hi ⟨x7, x8, rows, rfl, f1, ⟨os, o1, o2⟩, o3, o4⟩
      have hs := MoR.mo f1 hs
      have lo := Paired.len o2
      rw [Int.zero_add]
      walk_at "rd"
      refine ⟨sa, ns, _, rfl, hs, by omega, fun c H6 e6 => ?_⟩
      walk_at "rd"
      refine ⟨.inl ⟨rfl, _, SqL.of (e6 _ _ o1)⟩, ?_⟩
      walk_at "rd"
      refine ⟨_, ls, sh, rfl, ok, fun v H7 r e7 hv hr => ?_⟩
      have e67 := e6.trans e7
      walk_at "rd"
      refine ⟨p, os, _, rfl, rfl, e67 _ _ o1, line_lt (by omega), ?_⟩
      refine ⟨_, _, rows ++ [r], rfl, Same.mut (f1.trans e67) np, ⟨_, upd_same, paired_set (e67 _ _ o1) lst_no (Paired.snoc1 hv (paired_tu e67 o2))⟩, fun r' hr' => ?_, by rw [List.length_append, o4]; rfl⟩
      rcases List.mem_append.mp hr' with z | z
      · exact o3 r' z
      · rw [List.mem_singleton.mp z]; exact hr
    · rintro σ H5 ⟨x7, x8, rows, rfl, f1, ⟨os, o1, o2⟩, o3, o4⟩
      have lo := Paired.len o2
      have hpr5 := f1 _ _ hpr
      walk_at "rd"
      refine ⟨_, _, _, _, rfl, rfl, SqL.of hpr5, atI_nat g3, ?_⟩
      walk_at "rd"
      refine iteB (fun z => ?_) (fun z => ?_)
      · walk_at "rd"
        refine ⟨.inl ⟨rfl, _, SqL.of o1⟩, ?_⟩
        walk_at "rd"
        intro pt npt
        generalize hh_pt : upd _ pt _ = H6
        obtain ⟨e6, hpt⟩ := al npt hh_pt
        clear hh_pt
        refine ⟨p, os, _, rfl, rfl, e6 _ _ o1, line_lt (by omega), ?_⟩
        refine ⟨_, rfl, ?_⟩
        refine q _ _ (rows ++ [([], [], false)]) (Same.mut ((e03.trans f1).trans e6) (none_of e03 np)) ⟨_, upd_same, paired_set (e6 _ _ o1) lst_no (Paired.snoc1 ⟨pt, rfl, hpt⟩ (paired_tu e6 o2))⟩ (fun r' hr' => ?_) (by rw [List.length_append, o4, List.length_cons, List.length_nil]; omega)
        rcases List.mem_append.mp hr' with z | z
        · exact o3 r' z
        · rw [List.mem_singleton.mp z]
          exact ⟨part_pq (by decide) fun c hc => (nomatch hc), part_pq (by decide) fun c hc => (nomatch hc)⟩
      · refine ⟨_, rfl, ?_⟩
        exact q _ _ rows (e03.trans f1) ⟨os, o1, o2⟩ o3 (by rw [o4]; omega)
  generalize tSeq (tAsg (tLst tNil) (gName 6)) _ = M at key ⊢
  have key2 : ∀ m : Int, 0 ≤ m → m ≤ 7 → (tSeq (tAsg (tC (.int 1)) (gName 5))
    (tSeq (tIfS (tTest (tOp (rI0 fun i j => .bl (decide (j < i))) (tOp (rIxL K) (tVar 3) (tC (.int 3))) (tC (.int 0))))
    (tAsg (tC (.int 2)) (gName 5))
    tNext) M)) (Ends0 Q) [some (.ref sa), some (.int a), some (T ls), some (.ref pr), some (.int m), none, none, none, none] H3 := by
    intro m m0 m7
    walk_at "rd"
    refine ⟨_, _, _, _, rfl, rfl, SqL.of hpr, atI_nat g3, ?_⟩
    walk_at "rd"
    refine iteB (fun z => ?_) (fun z => ?_)
    · exact key m 2 m0 m7
    · exact key m 1 m0 m7
  generalize tSeq (tAsg (tC (.int 1)) (gName 5)) _ = M at key2 ⊢
  walk_at "rd"
  refine ⟨_, _, _, _, rfl, rfl, SqL.of hpr, atI_nat g1, ?_⟩
  walk_at "rd"
  refine ⟨_, _, _, _, rfl, rfl, SqL.of hpr, atI_nat g0, ?_⟩
  walk_at "rd"
  refine iteB (fun z => ?_) (fun z => ?_)
  · walk_at "rd"
    refine ⟨_, _, _, _, rfl, rfl, SqL.of hpr, atI_nat g2, ?_⟩
    exact key2 r2 (by omega) (by omega)
  · exact key2 r1 (by omega) (by omega)
/-! ### words -/
def sp_word : Sp := fun vs H Q _ => ∃ (c : Int) (ls : Word), vs = [.int c, T ls] ∧ (1 ≤ ls.length ∧ ls.length ≤ 3) ∧ ∀ u H', Same H H' → u ≠ [] → Over ls u → u.length ≤ 40 → Q (T u) H'
def wlims (n : Nat) (i : Nat) : List Int := [3, 8, 40, 6] ++ List.replicate i (n : Int)
theorem wlims_at {n i k : Nat} (hk : k < i) : (wlims n i)[4 + k]? = some (n : Int) := by
  unfold wlims
  rw [List.getElem?_append_right (by simp), List.getElem?_replicate]
  simp [hk]
theorem flat_rep (a : Word) : ∀ n : Nat, (List.replicate n a).flatten.length = n * a.length
  | 0 => by simp
  | n + 1 => by rw [List.replicate_succ, List.flatten_cons, List.length_append, flat_rep a n, Nat.succ_mul, Nat.add_comm]
theorem rd_word {K : PySem.W.Frag} {vs : List V} {H : Hp} {Q : VK} {E : XK} (h : sp_word vs H Q E) : t_law_word K sp_row (Ends0 Q) (start ["_law_cell_here", "_law_letters_here", "_law_limits", "_law_k", "_law_row_here", "_law_size", "_law_drawn"] vs) H := by
  obtain ⟨c, ls, rfl, ⟨l1, l3⟩, q⟩ := h
  unfold t_law_word
  walk_at "rn"
  intro p np
  generalize hh_p : upd _ p _ = H1
  obtain ⟨e1, hp⟩ := al np hh_p
  clear hh_p
  walk_at "rn"
  refine for_range (fun i σ H' => ∃ x3, σ = [some (.int c), some (T ls), some (.ref p), x3, none, none, none] ∧ Same H H' ∧ H' p = some (.lst ((wlims ls.length i).map V.int))) ⟨_, rfl, e1, hp⟩ ?_ ?_
  · rintro i σ H2 hi ⟨x3, rfl, e2, hp2⟩
    have hi2 : i < 40 := hi
    walk_at "rd"
    refine ⟨.inl ⟨rfl, _, SqL.of hp2⟩, ?_⟩
    walk_at "rd"
    refine ⟨p, _, _, rfl, rfl, hp2, line_lt (by unfold wlims; simp; omega), ?_⟩
    refine ⟨_, rfl, Same.mut e2 np, ?_⟩
    rw [upd_same]
    unfold wlims
    rw [List.replicate_succ']
    simp
  · rintro σ H2 ⟨x3, rfl, e2, hp2⟩
    walk_at "rd"
    refine ⟨_, _, wlims ls.length 40, rfl, hp2, ⟨fun l hl => ?_, by unfold wlims; simp⟩, fun pr H3 rs e3 hpr hrb => ?_⟩
    · unfold wlims at hl
      rcases List.mem_append.mp hl with z | z
      · simp only [List.mem_cons, List.not_mem_nil, or_false] at z
        omega
      · rw [List.eq_of_mem_replicate z]
        omega
    obtain ⟨r0, g0, b0, c0⟩ := row_at hrb (k := 0) rfl
    obtain ⟨r1, g1, b1, c1⟩ := row_at hrb (k := 1) rfl
    obtain ⟨r2, g2, b2, c2⟩ := row_at hrb (k := 2) rfl
    obtain ⟨r3, g3, b3, c3⟩ := row_at hrb (k := 3) rfl
    have key : ∀ (m : Int), 1 ≤ m → m ≤ 40 → (tSeq (tAsg (tM1 (rJoinE K) (tC (T [])) (tLc (iRng1 (tCons (tC (.int 40)) tNil)) (gName 3) tYes (tOp rIxTx (tVar 1) (tOp (rIxL K) (tVar 4) (tOp (rI0 fun i j => .int (i + j)) (tC (.int 4)) (tVar 3)))) [3])) (gName 6))
    (tSeq (tIfS (tTest (tOp rEq (tOp (rIxL K) (tVar 4) (tC (.int 0))) (tC (.int 1))))
    (tAsg (tOp rMulT (tSl rSlTx (tVar 6) tNoPart (tPart (tOp (rI0 fun i j => .int (i + j)) (tC (.int 1)) (tOp (rIxL K) (tVar 4) (tC (.int 3)))))) (tC (.int 40))) (gName 6))
    tNext)
    (tRet (tSl rSlTx (tVar 6) tNoPart (tPart (tVar 5)))))) (Ends0 Q) [some (.int c), some (T ls), some (.ref p), x3, some (.ref pr), some (.int m), none] H3 := by
      intro m m1 m2
      obtain ⟨n, rfl⟩ : ∃ n : Nat, m = (n : Int) := ⟨m.toNat, by omega⟩
      walk_at "rn"
      intro D nD
      refine turns walk_range (Sg (· ∈ ls) D H3) (sg_zero nD) (fun _ _ _ _ => trivial) ?_ ?_
      · rintro i x H4 H5 hi s ⟨rfl, rfl⟩
        have hi2 : i < 40 := hi
        have hpr5 : H5 pr = some (.lst (rs.map V.int)) := let ⟨_, _, e, _⟩ := s; e _ _ hpr
        obtain ⟨r, gr, br, cr⟩ := row_at hrb (k := 4 + i) (wlims_at hi2)
        obtain ⟨r', rfl⟩ : ∃ r' : Nat, r = (r' : Int) := ⟨r.toNat, by omega⟩
        have hr' : r' < ls.length := by omega
        dsimp only
        rw [Int.zero_add]
        walk_at "rd"
        refine ⟨_, _, _, _, rfl, rfl, SqL.of hpr5, (atI_nat gr : atI _ ((4 + i : Nat) : Int) = _), ?_⟩
        refine ⟨_, _, _, rfl, rfl, line_ok (by omega), atI_nat (List.getElem?_eq_getElem hr'), ?_⟩
        exact sg_next nD (by omega) s (List.getElem_mem hr')
      · intro H4 s
        obtain ⟨cs, a1, a2, a3, a4⟩ := sg_lst s
        have a4 : cs.length = 40 := a4
        have hpr4 := a2 _ _ hpr
        walk_at "rn"
        refine ⟨D, cs.map fun c => [c], rfl, rfl, SqL.of a1, by rw [flat1]; omega, ?_⟩
        rw [flat1]
        have fin : ∀ (dr : Word) (x3 : Option V), 1 ≤ dr.length → dr.length ≤ 1000000 → (∀ c ∈ dr, c ∈ ls) → (tRet (tSl rSlTx (tVar 6) tNoPart (tPart (tVar 5)))) (Ends0 Q) [some (.int c), some (T ls), some (.ref p), x3, some (.ref pr), some (.int (n : Int)), some (T dr)] H4 := by
          intro dr x3 d1 d2 d3
          walk_at "rd"
          rw [cutL_to]
          refine q _ _ (((e2.trans e3).trans a2)) (fun z => ?_) (fun c hc => d3 c (List.mem_of_mem_take hc)) (by rw [List.length_take]; omega)
          have : (dr.take n).length = 0 := by rw [z]; rfl
          rw [List.length_take] at this
          omega
        generalize tRet _ = M at fin ⊢
        walk_at "rd"
        refine ⟨_, _, _, _, rfl, rfl, SqL.of hpr4, atI_nat g0, ?_⟩
        walk_at "rd"
        refine iteB (fun z => ?_) (fun z => ?_)
        · obtain ⟨n3, rfl⟩ : ∃ n3 : Nat, r3 = (n3 : Int) := ⟨r3.toNat, by omega⟩
          walk_at "rd"
          refine ⟨_, _, _, _, rfl, rfl, SqL.of hpr4, atI_nat g3, ?_⟩
          walk_at "rd"
          dsimp only
          rw [show (1 : Int) + (n3 : Nat) = ((n3 + 1 : Nat) : Int) by omega, cutL_to]
          walk_at "rd"
          have lt : (cs.take (n3 + 1)).length = n3 + 1 := by rw [List.length_take]; omega
          have lf : (List.replicate 40 (cs.take (n3 + 1))).flatten.length = 40 * (n3 + 1) := by
            rw [flat_rep, lt]
          refine fin _ _ (by omega) (by omega) fun c hc => ?_
          obtain ⟨l, hl, hcl⟩ := List.mem_flatten.mp hc
          rw [List.eq_of_mem_replicate hl] at hcl
          exact a3 c (List.mem_of_mem_take hcl)
        · exact fin cs _ (by omega) (by omega) a3
    generalize tSeq (tAsg (tM1 _ _ _) _) _ = M at key ⊢
    walk_at "rd"
    refine ⟨_, _, _, _, rfl, rfl, SqL.of hpr, atI_nat g2, ?_⟩
    walk_at "rd"
    refine ⟨_, _, _, _, rfl, rfl, SqL.of hpr, atI_nat g0, ?_⟩
    walk_at "rd"
    refine iteB (fun z => ?_) (fun z => ?_)
    · walk_at "rd"
      refine ⟨_, _, _, _, rfl, rfl, SqL.of hpr, atI_nat g1, ?_⟩
      walk_at "rd"
      exact key (1 + r1) (by omega) (by omega)
    · exact key (1 + r2) (by omega) (by omega)
end K33
set_option Elab.async false
set_option linter.all false
set_option maxRecDepth 100000
set_option maxHeartbeats 4000000
/-! readings: the numbers drawn, the call -/
namespace K33
open PySem PySem.Spec PyProof.Rows L2
local macro_rules | `(tactic| walk_at "sz") => `(tactic| first | exact Nat.zero_le _ | omega | (simp only [sizeLine_eq, cutL_to, cutL_from, cutL_mid, List.length_append, List.length_cons, List.length_nil, List.length_take, List.length_drop, List.length_map, List.length_dropLast]; omega) | decide | (refine Nat.le_trans (cutL_len _ _ _) ?_; simp only [sizeLine_eq, List.length_append, List.length_cons, List.length_nil, List.length_take, List.length_drop]; omega))
local macro_rules | `(tactic| walk_at "rd") => `(tactic| ((try dsimp only); repeat (first
  | refine ⟨_, rfl, ?_⟩
  | refine ⟨rfl, ?_⟩
  | refine ⟨_, _, rfl, rfl, ?_⟩
  | refine ⟨_, _, rfl, ?_⟩
  | refine ⟨_, _, rfl, SqT.of upd_same, rfl, ?_⟩
  | refine And.intro ⟨_, rfl⟩ ?_
  | refine And.intro (by walk_at "sz") ?_)))
local macro_rules | `(tactic| walk_at "rn") => `(tactic| repeat (first
  | refine ⟨_, rfl, ?_⟩
  | refine ⟨rfl, ?_⟩
  | refine ⟨_, _, rfl, rfl, ?_⟩
  | refine ⟨_, _, rfl, ?_⟩
  | refine ⟨_, _, rfl, SqT.of upd_same, rfl, ?_⟩
  | refine And.intro ⟨_, rfl⟩ ?_
  | refine And.intro (by walk_at "sz") ?_))
def WtE (e : Key × V) (c : Nat) : Prop := e.1 = kt [c] ∧ ∃ n : Int, e.2 = .int n ∧ 1 ≤ n ∧ n ≤ 30
def WtK (kvs : List (Key × V)) (ls : Word) : Prop := Paired WtE kvs ls
structure NbO (h R F : Int) : Prop where
  h0 : 0 ≤ h
  h1 : h ≤ 30
  r1 : R ≤ 30
  f1 : F ≤ 30
def sp_numbers : Sp := fun vs H Q _ => ∃ (c : Int) (ls : Word), vs = [.int c, T ls] ∧ LsOk ls ∧ ∀ v H' wa na kvs h R F, Same H H' → TupOf H' v [.ref wa, .ref na] → H' wa = some (.dK kvs) → WtK kvs ls → H' na = some (.lst [.int h, .int R, .int F]) → NbO h R F → Q v H'
theorem wt_no {kvs : List (Key × V)} {pre : Word} {c : Nat} (h : WtK kvs pre) (hc : c ∉ pre) : valV kvs (kt [c]) = none := by
  unfold valV
  rw [List.find?_eq_none.mpr fun kv hkv => ?_]
  · rfl
  · obtain ⟨i, hi, rfl⟩ := List.getElem_of_mem hkv
    obtain ⟨b, hb, h1, _⟩ := Paired.at h (List.getElem?_eq_getElem hi)
    simp only [decide_eq_true_eq]
    intro e
    rw [h1] at e
    have := kt_inj e
    simp at this
    exact hc (this ▸ List.mem_of_getElem? hb)
theorem put_last {kvs : List (Key × V)} {k : Key} {v w : V} (h : valV kvs k = none) : putK (kvs ++ [(k, v)]) k w = kvs ++ [(k, w)] := by
  unfold putK
  rw [if_pos (List.any_eq_true.mpr ⟨(k, v), List.mem_append_right _ (List.mem_singleton.mpr rfl), by simp⟩), List.map_append]
  congr 1
  · have hn : ∀ kv ∈ kvs, kv.1 ≠ k := fun kv hkv e => by
      have h2 := valV_any k kvs
      rw [h] at h2
      have : (kvs.any fun kv => decide (kv.1 = k)) = true := List.any_eq_true.mpr ⟨kv, hkv, decide_eq_true e⟩
      rw [h2] at this
      cases this
    conv => rhs; rw [← List.map_id kvs]
    refine List.map_congr_left fun kv hkv => ?_
    rw [if_neg (hn kv hkv)]
    rfl
  · simp
def NuI (c : Int) (ls : Word) (pr wa : Addr) (H0 : Hp) (i : Nat) (σ : St) (H : Hp) : Prop := ∃ x4 kvs, σ = [some (.int c), some (T ls), some (.ref pr), some (.ref wa), x4, none] ∧ Same H0 H ∧ H wa = some (.dK kvs) ∧ WtK kvs (ls.take i)
theorem rd_numbers {K : PySem.W.Frag} {vs : List V} {H : Hp} {Q : VK} {E : XK} (hh : sp_numbers vs H Q E) : t_law_numbers K sp_row (Ends0 Q) (start ["_law_cell_here", "_law_letters_here", "_law_row_here", "_law_weight", "_law_k", "_law_numbers_here"] vs) H := by
  obtain ⟨c, ls, rfl, ok, q⟩ := hh
  obtain ⟨ok1, ok2, ok3, ok4⟩ := id ok
  have hnd : ls.Nodup := ok1.imp fun h e => by omega
  unfold t_law_numbers
  walk_at "rd"
  intro p0 np0
  generalize hh_p0 : upd _ p0 _ = H1
  obtain ⟨e1, hp0⟩ := al np0 hh_p0
  clear hh_p0
  walk_at "rd"
  refine ⟨_, _, [8, 3, 3, 3, 3, 9, 10, 9, 9, 9, 7, 16, 16, 30, 31, 31, 31, 1000, 2], rfl, hp0, ⟨by decide, by decide⟩, fun pr H2 rs e2 hpr hrb => ?_⟩
  obtain ⟨r0, g0, b0, c0⟩ := row_at hrb (k := 0) rfl
  obtain ⟨r4, g4, b4, c4⟩ := row_at hrb (k := 4) rfl
  obtain ⟨r5, g5, b5, c5⟩ := row_at hrb (k := 5) rfl
  obtain ⟨r6, g6, b6, c6⟩ := row_at hrb (k := 6) rfl
  obtain ⟨r10, g10, b10, c10⟩ := row_at hrb (k := 10) rfl
  obtain ⟨r11, g11, b11, c11⟩ := row_at hrb (k := 11) rfl
  obtain ⟨r12, g12, b12, c12⟩ := row_at hrb (k := 12) rfl
  obtain ⟨r13, g13, b13, c13⟩ := row_at hrb (k := 13) rfl
  obtain ⟨r14, g14, b14, c14⟩ := row_at hrb (k := 14) rfl
  obtain ⟨r15, g15, b15, c15⟩ := row_at hrb (k := 15) rfl
  obtain ⟨r16, g16, b16, c16⟩ := row_at hrb (k := 16) rfl
  obtain ⟨r17, g17, b17, c17⟩ := row_at hrb (k := 17) rfl
  obtain ⟨r18, g18, b18, c18⟩ := row_at hrb (k := 18) rfl
  walk_at "rn"
  intro wa nwa
  generalize hh_wa : upd _ wa _ = H3
  obtain ⟨e3, hwa⟩ := al nwa hh_wa
  clear hh_wa
  have hpr3 := e3 _ _ hpr
  walk_at "rn"
  refine for_range (NuI c ls pr wa H2) ⟨_, [], rfl, e3, hwa, by rw [List.take_zero]; exact .nil⟩ ?_ ?_
  · rintro i σ H4 hi ⟨x4, kvs, rfl, e4, hkv, hwk⟩
    have hi2 : i < ls.length := by simpa using hi
    have hpr4 := e4 _ _ hpr
    have lk := Paired.len hwk
    rw [List.length_take] at lk
    have hc : ls[i] ∉ ls.take i := fun hm => by
      obtain ⟨j, hj, e⟩ := List.getElem_of_mem hm
      rw [List.getElem_take] at e
      rw [List.length_take] at hj
      have := (List.nodup_iff_pairwise_ne.mp hnd)
      have := List.pairwise_iff_getElem.mp this j i (by omega) hi2 (by omega)
      exact this e
    have hno := wt_no hwk hc
    have nwa4 : pr ≠ wa := ne_at hpr4 hkv fun e => by cases e
    have done : ∀ (x : Option V) (n : Int), 1 ≤ n → n ≤ 30 → NuI c ls pr wa H2 (i + 1) [some (.int c), some (T ls), some (.ref pr), some (.ref wa), x, none] (upd H4 wa (.dK (kvs ++ [(kt [ls[i]], .int n)]))) := by
      intro x n n1 n2
      refine ⟨x, _, rfl, Same.mut e4 nwa, upd_same, ?_⟩
      rw [List.take_succ_eq_append_getElem hi2]
      exact Paired.snoc1 ⟨rfl, n, rfl, n1, n2⟩ hwk
    obtain ⟨ra, ga, ba, ca⟩ := row_at hrb (k := 1 + i) (l := 3) (by rcases (show i = 0 ∨ i = 1 ∨ i = 2 by omega) with z | z | z <;> rw [z] <;> rfl)
    obtain ⟨rb, gb, bb, cb⟩ := row_at hrb (k := 7 + i) (l := 9) (by rcases (show i = 0 ∨ i = 1 ∨ i = 2 by omega) with z | z | z <;> rw [z] <;> rfl)
    rw [Int.zero_add]
    walk_at "rd"
    refine ⟨_, _, _, _, rfl, rfl, SqL.of hpr4, (atI_nat ga : atI _ ((1 + i : Nat) : Int) = _), ?_⟩
    walk_at "rd"
    refine ⟨_, _, _, rfl, rfl, line_ok (by omega), atI_nat (List.getElem?_eq_getElem hi2), ?_⟩
    refine ⟨wa, _, rfl, DPut.k (k := kt [ls[i]]) hkv (line_lt (by omega)), ?_⟩
    rw [putK_new _ hno]
    have hp5 : upd H4 wa (.dK (kvs ++ [(kt [ls[i]], .int (1 + ra))])) pr = some (.lst (rs.map V.int)) := by rw [upd_ne nwa4]; exact hpr4
    have put2 : ∀ n : Int, 1 ≤ n → n ≤ 30 → ∀ x, NuI c ls pr wa H2 (i + 1) [some (.int c), some (T ls), some (.ref pr), some (.ref wa), x, none] (upd (upd H4 wa (.dK (kvs ++ [(kt [ls[i]], .int (1 + ra))]))) wa (.dK (putK (kvs ++ [(kt [ls[i]], .int (1 + ra))]) (kt [ls[i]]) (.int n)))) := fun n n1 n2 x => by
      rw [put_last hno]
      have e : ∀ (a b : HO), upd (upd H4 wa a) wa b = upd H4 wa b := fun a b => funext fun z => by
        by_cases y : z = wa
        · subst y; rw [upd_same, upd_same]
        · rw [upd_ne y, upd_ne y, upd_ne y]
      rw [e]
      exact done x n n1 n2
    have hk5 : upd H4 wa (.dK (kvs ++ [(kt [ls[i]], .int (1 + ra))])) wa = some (.dK (kvs ++ [(kt [ls[i]], .int (1 + ra))])) := upd_same
    have one := fun x => done x (1 + ra) (by omega) (by omega)
    generalize upd H4 wa (.dK (kvs ++ [(kt [ls[i]], .int (1 + ra))])) = H5 at hp5 put2 hk5 one ⊢
    have lk2 : (kvs ++ [(kt [ls[i]], V.int (1 + ra))]).length < sizeLine := line_lt (by rw [List.length_append, List.length_cons, List.length_nil]; omega)
    walk_at "rd"
    refine ⟨_, _, _, _, rfl, rfl, SqL.of hp5, atI_nat g0, ?_⟩
    walk_at "rd"
    refine iteB (fun z => ?_) (fun z => ?_)
    · walk_at "rd"
      refine ⟨_, _, _, _, rfl, rfl, SqL.of hp5, (atI_nat gb : atI _ ((7 + i : Nat) : Int) = _), ?_⟩
      walk_at "rd"
      refine ⟨_, _, _, rfl, rfl, line_ok (by omega), atI_nat (List.getElem?_eq_getElem hi2), ?_⟩
      refine ⟨wa, _, rfl, DPut.k (k := kt [ls[i]]) hk5 lk2, ?_⟩
      exact put2 _ (by omega) (by omega) _
    · walk_at "rd"
      refine ⟨_, _, _, _, rfl, rfl, SqL.of hp5, atI_nat g0, ?_⟩
      walk_at "rd"
      refine iteB (fun z1 => ?_) (fun z1 => ?_)
      · walk_at "rd"
        refine iteB (fun z2 => ?_) (fun z2 => ?_)
        · walk_at "rd"
          refine ⟨_, _, _, _, rfl, rfl, SqL.of hp5, atI_nat g13, ?_⟩
          walk_at "rd"
          refine ⟨_, _, _, rfl, rfl, line_ok (by omega), atI_nat (List.getElem?_eq_getElem hi2), ?_⟩
          refine ⟨wa, _, rfl, DPut.k (k := kt [ls[i]]) hk5 lk2, ?_⟩
          exact put2 _ (by omega) (by omega) _
        · exact one _
      · exact one _
  · rintro σ H4 ⟨x4, kvs, rfl, e4, hkv, hwk⟩
    have hpr4 := e4 _ _ hpr
    rw [Int.toNat_natCast, List.take_length] at hwk
    have fin : ∀ (H5 : Hp) (na : Addr) (h R F : Int), Same H4 H5 → H5 na = some (.lst [.int h, .int R, .int F]) → NbO h R F → tRet (tTup (tCons (tVar 3) (tCons (tVar 5) tNil))) (Ends0 Q) [some (.int c), some (T ls), some (.ref pr), some (.ref wa), x4, some (.ref na)] H5 := by
      intro H5 na h R F e5 hna nb
      walk_at "rd"
      intro pt npt
      generalize hh_pt : upd _ pt _ = H6
      obtain ⟨e6, hpt⟩ := al npt hh_pt
      clear hh_pt
      exact q _ _ wa na kvs h R F ((((e1.trans e2).trans e4).trans e5).trans e6) ⟨pt, rfl, hpt⟩ (e6 _ _ (e5 _ _ hkv)) hwk (e6 _ _ hna) nb
    generalize tRet _ = M at fin ⊢
    walk_at "rd"
    refine ⟨_, _, _, _, rfl, rfl, SqL.of hpr4, atI_nat g4, ?_⟩
    walk_at "rd"
    refine ⟨_, _, _, _, rfl, rfl, SqL.of hpr4, atI_nat g5, ?_⟩
    walk_at "rd"
    refine ⟨_, _, _, _, rfl, rfl, SqL.of hpr4, atI_nat g6, ?_⟩
    walk_at "rd"
    intro na nna
    generalize hh_na : upd _ na _ = H5
    obtain ⟨e5, hna⟩ := al nna hh_na
    clear hh_na
    have hpr5 := e5 _ _ hpr4
    walk_at "rd"
    refine ⟨_, _, _, _, rfl, rfl, SqL.of hpr5, atI_nat g0, ?_⟩
    walk_at "rd"
    refine iteB (fun z => ?_) (fun z => ?_)
    · walk_at "rd"
      refine ⟨_, _, _, _, rfl, rfl, SqL.of hpr5, atI_nat g10, ?_⟩
      walk_at "rd"
      refine ⟨_, _, _, _, rfl, rfl, SqL.of hpr5, atI_nat g11, ?_⟩
      walk_at "rd"
      refine ⟨_, _, _, _, rfl, rfl, SqL.of hpr5, atI_nat g12, ?_⟩
      walk_at "rd"
      intro nb nnb
      generalize hh_nb : upd _ nb _ = H6
      obtain ⟨e6, hnb⟩ := al nnb hh_nb
      clear hh_nb
      exact fin H6 nb _ _ _ (e5.trans e6) hnb ⟨by omega, by omega, by omega, by omega⟩
    · walk_at "rd"
      refine ⟨_, _, _, _, rfl, rfl, SqL.of hpr5, atI_nat g0, ?_⟩
      have base := fin H5 na _ _ _ e5 hna ⟨by omega, by omega, by omega, by omega⟩
      have third : (tIfS (tTest (tOp rEq (tOp (rIxL K) (tVar 2) (tC (.int 0))) (tC (.int 2))))
    (tAsg (tOp (rI0 fun i j => .int (i - j)) (tC (.int 0)) (tOp (rIxL K) (tVar 2) (tC (.int 17)))) (gSub (tVar 5) (tOp (rI0 fun i j => .int (i + j)) (tC (.int 1)) (tOp (rIxL K) (tVar 2) (tC (.int 18)))) rSetL))
    tNext) { nx := M (Ends0 Q), rt := Q } [some (.int c), some (T ls), some (.ref pr), some (.ref wa), x4, some (.ref na)] H5 := by
        walk_at "rd"
        refine ⟨_, _, _, _, rfl, rfl, SqL.of hpr5, atI_nat g0, ?_⟩
        walk_at "rd"
        refine iteB (fun z3 => ?_) (fun z3 => ?_)
        · walk_at "rd"
          refine ⟨_, _, _, _, rfl, rfl, SqL.of hpr5, atI_nat g17, ?_⟩
          walk_at "rd"
          refine ⟨_, _, _, _, rfl, rfl, SqL.of hpr5, atI_nat g18, ?_⟩
          walk_at "rd"
          rcases (show r18 = 0 ∨ r18 = 1 by omega) with y | y
          · subst y
            refine ⟨na, _, _, 1, rfl, rfl, hna, rfl, ?_⟩
            exact fin _ na _ _ _ (Same.mut e5 nna) upd_same ⟨by omega, by omega, by omega, by omega⟩
          · subst y
            refine ⟨na, _, _, 2, rfl, rfl, hna, rfl, ?_⟩
            exact fin _ na _ _ _ (Same.mut e5 nna) upd_same ⟨by omega, by omega, by omega, by omega⟩
        · exact base
      generalize tIfS (tTest (tOp rEq (tOp (rIxL K) (tVar 2) (tC (.int 0))) (tC (.int 2)))) _ _ = M3 at third ⊢
      walk_at "rd"
      refine iteB (fun z1 => ?_) (fun z1 => ?_)
      · walk_at "rd"
        refine iteB (fun z2 => ?_) (fun z2 => ?_)
        · walk_at "rd"
          refine ⟨_, _, _, _, rfl, rfl, SqL.of hpr5, atI_nat g14, ?_⟩
          walk_at "rd"
          refine ⟨_, _, _, _, rfl, rfl, SqL.of hpr5, atI_nat g15, ?_⟩
          walk_at "rd"
          refine ⟨_, _, _, _, rfl, rfl, SqL.of hpr5, atI_nat g16, ?_⟩
          walk_at "rd"
          intro nb nnb
          generalize hh_nb : upd _ nb _ = H6
          obtain ⟨e6, hnb⟩ := al nnb hh_nb
          clear hh_nb
          exact fin H6 nb _ _ _ (e5.trans e6) hnb ⟨by omega, by omega, by omega, by omega⟩
        · exact third
      · exact third
def sp_law_overflow (C : Addr) : Sp := fun vs H Q _ => ∃ (a : Addr) (ls : Word) (wa na : Addr) (h R F : Int) (rows : List Row) (wt : Nat → Int), vs = [.ref a, T ls, .ref wa, .ref na] ∧ H na = some (.lst [.int h, .int R, .int F]) ∧ JO C rows H a ∧ WtAt wt ls H wa ∧ (Short rows ∧ ls.length ≤ 3 ∧ ls.Pairwise (· < ·) ∧ Nums wt h R F ls) ∧
  (∀ H', Same H H' → (∀ u, u ≠ [] → Over ls u → okW rows wt h R F u) → Q .non H') ∧ ∀ H' v, Same H H' → MinBad ls (okW rows wt h R F) v → v.length ≤ 400000 → Q (T v) H'
theorem rd_law_overflow {K : PySem.W.Frag} {C : Addr} {vs : List V} {H : Hp} {Q : VK} {E : XK} (hh : sp_law_overflow C vs H Q E) : t_law_overflow K (sp_overflow C) (Ends0 Q) (start ["_law_joints", "_law_letters_here", "_law_weight", "_law_numbers_here", "_law_short", "_law_wide", "_law_head"] vs) H := by
  obtain ⟨a, ls, wa, na, h, R, F, rows, wt, rfl, hna, hJ, hwa, hc, q1, q2⟩ := hh
  unfold t_law_overflow
  refine ⟨_, rfl, na, _, rfl, SqL.of hna, rfl, ?_⟩
  walk_at "rd"
  exact ⟨a, ls, wa, h, R, F, rows, wt, rfl, hJ, hwa, hc, q1, q2⟩
end K33
set_option Elab.async false
set_option linter.all false
set_option maxRecDepth 100000
set_option maxHeartbeats 4000000
/-! reading: the law -/
namespace K33
open PySem PySem.Spec PyProof.Rows L2
local macro_rules | `(tactic| walk_at "sz") => `(tactic| first | exact Nat.zero_le _ | omega | (simp only [sizeLine_eq, cutL_to, cutL_from, cutL_mid, List.length_append, List.length_cons, List.length_nil, List.length_take, List.length_drop, List.length_map, List.length_dropLast]; omega) | decide | (refine Nat.le_trans (cutL_len _ _ _) ?_; simp only [sizeLine_eq, List.length_append, List.length_cons, List.length_nil, List.length_take, List.length_drop]; omega))
local macro_rules | `(tactic| walk_at "rd") => `(tactic| ((try dsimp only); repeat (first
  | refine ⟨_, rfl, ?_⟩
  | refine ⟨rfl, ?_⟩
  | refine ⟨_, _, rfl, rfl, ?_⟩
  | refine ⟨_, _, rfl, ?_⟩
  | refine ⟨_, _, rfl, SqT.of upd_same, rfl, ?_⟩
  | refine And.intro ⟨_, rfl⟩ ?_
  | refine And.intro (by walk_at "sz") ?_)))
local macro_rules | `(tactic| walk_at "rn") => `(tactic| repeat (first
  | refine ⟨_, rfl, ?_⟩
  | refine ⟨rfl, ?_⟩
  | refine ⟨_, _, rfl, rfl, ?_⟩
  | refine ⟨_, _, rfl, ?_⟩
  | refine ⟨_, _, rfl, SqT.of upd_same, rfl, ?_⟩
  | refine And.intro ⟨_, rfl⟩ ?_
  | refine And.intro (by walk_at "sz") ?_))
def law_r3 (K : PySem.W.Frag) : L2.TS := (tSeq (tIfS (tTest (tOp rNeDA (tVar 7) (tVar 4)))
    (tRet (tC (.bl false)))
    tNext)
    (tRet (tCall sp_holds [] E0 (tCons (tVar 8) (tCons (tVar 2) (tCons (tVar 1) (tCons (tVar 4) (tCons (tVar 14) (tCons (tVar 6) tNil)))))))))
def law_r2 (K : PySem.W.Frag) (C : Addr) : L2.TS := (tSeq (tAsg (tCall sp_row [] E0 (tCons (tCall (sp_cell K) [] E0 (tCons (tVar 0) (tCons (tC (.int 13)) tNil))) (tCons (tLst (tCons (tC (.int 10)) (tCons (tC (.int 31)) tNil))) tNil))) (gName 13))
    (tSeq (tAsg (tLst (tCons (tOp (rIxL K) (tVar 5) (tC (.int 0))) (tCons (tOp (rIxL K) (tVar 5) (tC (.int 1))) (tCons (tOp (rI0 fun i j => .int (i - j)) (tOp (rIxL K) (tVar 13) (tC (.int 0))) (tC (.int 1))) tNil)))) (gName 14))
    (tSeq (tIfS (tOr (tTest (tOp rEq (tCB rLenT (tCons (tVar 1) tNil)) (tC (.int 1)))) (tTest (tOp (rI0 fun i j => .bl (decide (j < i))) (tCB (rMin K) (tCons (tLc (iStr (tVar 1)) (gName 17) tYes (tDGet (tVar 4) (tVar 17)) [17]) tNil)) (tC (.int 3)))))
    (tAsg (tOp (rIxL K) (tVar 13) (tC (.int 1))) (gSub (tVar 14) (tC (.int 2)) rSetL))
    tNext)
    (tSeq (tAsg (tCall (sp_law_overflow C) [] E0 (tCons (tVar 3) (tCons (tVar 1) (tCons (tVar 7) (tCons (tVar 14) tNil))))) (gName 8))
    (law_r3 K)))))
def law_r1 (K : PySem.W.Frag) (C : Addr) : L2.TS := (tSeq (tAsg (tCall sp_short_words [] E0 (tCons (tVar 1) tNil)) (gName 9))
    (tSeq (tIfS (tNot (tB (tCall sp_holds [] E0 (tCons (tVar 8) (tCons (tVar 2) (tCons (tVar 1) (tCons (tVar 4) (tCons (tVar 5) (tCons (tOp rCat (tVar 9) (tVar 6)) tNil)))))))))
    (tRet (tC (.bl false)))
    tNext)
    (tSeq (tAsg (tCB (fun xs H Q => ∃ i j, xs = [V.int i, V.int j] ∧ Q (V.int (if j < i then j else i)) H) (tCons (tOp (rIxL K) (tVar 5) (tC (.int 1))) (tCons (tOp (rIxL K) (tVar 5) (tC (.int 2))) tNil))) (gName 10))
    (tSeq (tAsg (tCB (fun xs H Q => ∃ i j, xs = [V.int i, V.int j] ∧ Q (V.int (if j > i then j else i)) H) (tCons (tOp (rIxL K) (tVar 5) (tC (.int 1))) (tCons (tOp (rIxL K) (tVar 5) (tC (.int 2))) tNil))) (gName 11))
    (tSeq (tAsg (tCall (sp_heaviest C) [] E0 (tCons (tVar 3) (tCons (tVar 1) (tCons (tCB rCopyD (tCons (tVar 4) tNil)) tNil)))) (gName 12))
    (tSeq (tIfS (tOr (tTest (tOp (fun x y H Q => y = V.non ∧ Q (V.bl (decide (x = V.non))) H) (tVar 12) (tC .non))) (tTest (tOp (rI0 fun i j => .bl (decide (j < i))) (tOp (rIxT K) (tVar 12) (tC (.int 0))) (tVar 11))))
    (tIfS (tTest (tOp (fun x y H Q => y = V.non ∧ Q (V.bl (decide (x = V.non))) H) (tVar 8) (tC .non)))
    (tRet (tC (.bl false)))
    tNext)
    (tIfS (tAnd (tTest (tOp (rI0 fun i j => .bl (decide (i ≤ j))) (tOp (rI0 fun i j => .int (i + j)) (tOp (rIxT K) (tVar 12) (tC (.int 0))) (tOp (rIxL K) (tVar 5) (tC (.int 0)))) (tVar 10))) (tTest (tOp (fun x y H Q => y = V.non ∧ Q (V.bl (!decide (x = V.non))) H) (tVar 8) (tC .non))))
    (tRet (tC (.bl false)))
    tNext))
    (law_r2 K C)))))))
def wtOf (kvs : List (Key × V)) (c : Nat) : Int := match valV kvs (kt [c]) with
  | some (.int n) => n
  | _ => 1
theorem kvs_self {kvs : List (Key × V)} {ls : Word} (hn : ls.Nodup) (h : WtK kvs ls) : ∀ p ∈ kvs, valV kvs p.1 = some p.2 := by
  have keys : kvs.map (·.1) = ls.map fun c => kt [c] := by
    unfold WtK at h
    induction h with
    | nil => rfl
    | cons r t ih => rw [List.map_cons, List.map_cons, r.1, ih (List.nodup_cons.mp hn).2]
  have nd : (kvs.map (·.1)).Nodup := by
    rw [keys]
    refine List.Pairwise.map _ (fun a b n e => n ?_) hn
    have := kt_inj e
    simpa using this
  intro p hp
  unfold valV
  cases e : kvs.find? fun kv => decide (kv.1 = p.1) with
  | none =>
    have := List.find?_eq_none.mp e p hp
    simp at this
  | some kv =>
    have h0 := List.find?_some e
    have h1 := of_decide_eq_true h0
    rw [nodup_key nd (List.mem_of_find?_eq_some e) hp h1]
    rfl
theorem wt_get {kvs : List (Key × V)} {ls : Word} (hn : ls.Nodup) (h : WtK kvs ls) {c : Nat} (hc : c ∈ ls) : valV kvs (kt [c]) = some (.int (wtOf kvs c)) ∧ 1 ≤ wtOf kvs c ∧ wtOf kvs c ≤ 30 := by
  obtain ⟨i, hi, rfl⟩ := List.getElem_of_mem hc
  have hl := Paired.len h
  obtain ⟨b, hb, h1, n, h2, h3, h4⟩ := Paired.at h (List.getElem?_eq_getElem (show i < kvs.length by omega))
  rw [List.getElem?_eq_getElem hi] at hb
  cases hb
  have hv := kvs_self hn h _ (List.getElem_mem (show i < kvs.length by omega))
  rw [h1, h2] at hv
  unfold wtOf
  rw [hv]
  exact ⟨rfl, h3, h4⟩
structure LC (K : PySem.W.Frag) (C : Addr) (ns : List Int) (rows : List Row) (kvs : List (Key × V)) (h R F : Int) (sa ra ja wa na pw ha : Addr) (us : List Word) (H : Hp) : Prop where
  s : SqL K H sa (ns.map V.int)
  j : JO C rows H ja
  r : Lst RowAt H ra rows
  w : H wa = some (.dK kvs)
  hd : H ha = some (.dK kvs)
  n : H na = some (.lst [.int h, .int R, .int F])
  ws : Lst TxAt H pw us
theorem LC.mo {K : PySem.W.Frag} {C : Addr} {ns : List Int} {rows : List Row} {kvs : List (Key × V)} {h R F : Int} {sa ra ja wa na pw ha : Addr} {us : List Word} {H H' : Hp} (l : LC K C ns rows kvs h R F sa ra ja wa na pw ha us H) (e : Same H H') : LC K C ns rows kvs h R F sa ra ja wa na pw ha us H' :=
  ⟨MoR.mo e l.s, MoR.mo e l.j, MoR.mo e l.r, e _ _ l.w, e _ _ l.hd, e _ _ l.n, let ⟨vs, a, b⟩ := l.ws; ⟨vs, e _ _ a, paired_tu e b⟩⟩
instance {K : PySem.W.Frag} {C : Addr} {ns : List Int} {rows : List Row} {kvs : List (Key × V)} {h R F : Int} {sa ra ja wa na pw ha : Addr} {us : List Word} {H H' : Hp} : MoR H H' (LC K C ns rows kvs h R F sa ra ja wa na pw ha us H) (LC K C ns rows kvs h R F sa ra ja wa na pw ha us H') := ⟨fun e l => l.mo e⟩
structure LP (ls : Word) (rows : List Row) (kvs : List (Key × V)) (h R F : Int) (us : List Word) : Prop where
  ok : LsOk ls
  sh : Short rows
  wk : WtK kvs ls
  nb : NbO h R F
  wd : Wds ls 400001 us
  ul : us.length ≤ 3
section
variable {K : PySem.W.Frag} {C : Addr} {ns : List Int} {ls : Word} {rows : List Row} {kvs : List (Key × V)} {h R F : Int} {sa ra ja wa na pw ha : Addr} {us : List Word} {H : Hp} {Q : VK}
theorem LP.nd (p : LP ls rows kvs h R F us) : ls.Nodup := p.ok.1.imp fun h e => by omega
theorem LP.nums (p : LP ls rows kvs h R F us) {F2 : Int} (hF : F2 ≤ 30) : Nums (wtOf kvs) h R F2 ls := ⟨fun c hc => (wt_get p.nd p.wk hc).2, p.nb.h0, p.nb.h1, p.nb.r1, hF⟩
theorem LP.wt (p : LP ls rows kvs h R F us) {a : Addr} (e : H a = some (.dK kvs)) : WtAt (wtOf kvs) ls H a := ⟨kvs, e, fun c hc => (wt_get p.nd p.wk hc).1⟩
/-- what overflow may answer -/
def Tl (rows : List Row) (kvs : List (Key × V)) (h R F : Int) (ls : Word) (told : V) : Prop := (told = .non ∧ ∀ u, u ≠ [] → Over ls u → okW rows (wtOf kvs) h R F u) ∨ ∃ v, told = T v ∧ MinBad ls (okW rows (wtOf kvs) h R F) v ∧ v.length ≤ 400000
theorem r3_ok {oa : Addr} {F2 : Int} {told : V} {x9 x10 x11 x12 x13 : Option V} (l : LC K C ns rows kvs h R F sa ra ja wa na pw ha us H) (p : LP ls rows kvs h R F us) (ho : H oa = some (.lst [.int h, .int R, .int F2])) (hF : F2 ≤ 30) (ht : Tl rows kvs h R F2 ls told) (q : RetV (.bl true) H Q) :
    law_r3 K (Ends0 Q) [some (.ref sa), some (T ls), some (.ref ra), some (.ref ja), some (.ref wa), some (.ref na), some (.ref pw), some (.ref ha), some told, x9, x10, x11, x12, x13, some (.ref oa), none, none, none] H := by
  unfold law_r3
  walk_at "rd"
  refine ⟨ha, wa, kvs, kvs, rfl, rfl, l.hd, l.w, rfl, fun x hx => ⟨kvs_self p.nd p.wk x hx, ?_⟩, ?_⟩
  · obtain ⟨i, hi, rfl⟩ := List.getElem_of_mem hx
    obtain ⟨b, hb, _, n, h2, _⟩ := Paired.at p.wk (List.getElem?_eq_getElem hi)
    rw [h2]
    rfl
  walk_at "rd"
  exact ⟨told, ra, ls, wa, oa, pw, rows, wtOf kvs, h, R, F2, us, rfl, l.r, p.wt l.w, ho, l.ws, ⟨p.wd, by have := p.ul; omega, p.sh, p.ok.2.2.1, p.nums hF⟩, ht, q⟩
theorem over_ok {oa : Addr} {F2 : Int} {Q2 : VK} {E : XK} (l : LC K C ns rows kvs h R F sa ra ja wa na pw ha us H) (p : LP ls rows kvs h R F us) (ho : H oa = some (.lst [.int h, .int R, .int F2])) (hF : F2 ≤ 30) (q : ∀ told H', Same H H' → Tl rows kvs h R F2 ls told → Q2 told H') :
    sp_law_overflow C [.ref ja, T ls, .ref ha, .ref oa] H Q2 E :=
  ⟨ja, ls, ha, oa, h, R, F2, rows, wtOf kvs, rfl, ho, l.j, p.wt l.hd, ⟨p.sh, p.ok.2.2.1, p.ok.1, p.nums hF⟩, fun H' e ha => q _ H' e (.inl ⟨rfl, ha⟩), fun H' v e m lv => q _ H' e (.inr ⟨v, rfl, m, lv⟩)⟩
theorem r2_ok {told : V} {x9 x10 x11 x12 : Option V} (l : LC K C ns rows kvs h R F sa ra ja wa na pw ha us H) (p : LP ls rows kvs h R F us) (q : RetV (.bl true) H Q) :
    law_r2 K C (Ends0 Q) [some (.ref sa), some (T ls), some (.ref ra), some (.ref ja), some (.ref wa), some (.ref na), some (.ref pw), some (.ref ha), some told, x9, x10, x11, x12, none, none, none, none, none] H := by
  have nbr := p.nb.r1
  have nbf := p.nb.f1
  obtain ⟨ok1, ok2, ok3, ok4⟩ := p.ok
  unfold law_r2
  walk_at "rd"
  refine ⟨sa, ns, _, rfl, l.s, by decide, fun c H1 e1 => ?_⟩
  have l := MoR.mo e1 l
  walk_at "rd"
  intro p0 np0
  generalize hh_p0 : upd _ p0 _ = H2
  obtain ⟨e2, hp0⟩ := al np0 hh_p0
  clear hh_p0
  have l := MoR.mo e2 l
  walk_at "rd"
  refine ⟨_, _, [10, 31], rfl, hp0, ⟨by decide, by decide⟩, fun pr H3 rs e3 hpr hrb => ?_⟩
  have l := MoR.mo e3 l
  have e03 := (e1.trans e2).trans e3
  obtain ⟨r0, g0, b0, c0⟩ := row_at hrb (k := 0) rfl
  obtain ⟨r1, g1, b1, c1⟩ := row_at hrb (k := 1) rfl
  walk_at "rd"
  refine ⟨_, _, _, _, rfl, rfl, SqL.of l.n, at0, ?_⟩
  walk_at "rd"
  refine ⟨_, _, _, _, rfl, rfl, SqL.of l.n, at1, ?_⟩
  walk_at "rd"
  refine ⟨_, _, _, _, rfl, rfl, SqL.of hpr, atI_nat g0, ?_⟩
  walk_at "rd"
  intro oa noa
  generalize hh_oa : upd _ oa _ = H4
  obtain ⟨e4, hoa⟩ := al noa hh_oa
  clear hh_oa
  have l3 := l
  have l := MoR.mo e4 l
  have e03 := MoR.mo e4 e03
  have hpr4 := e4 _ _ hpr
  have key : ∀ (H5 : Hp) (F2 : Int), Same H H5 → LC K C ns rows kvs h R F sa ra ja wa na pw ha us H5 → H5 oa = some (.lst [.int h, .int R, .int F2]) → F2 ≤ 30 → (tSeq (tAsg (tCall (sp_law_overflow C) [] E0 (tCons (tVar 3) (tCons (tVar 1) (tCons (tVar 7) (tCons (tVar 14) tNil))))) (gName 8))
    (law_r3 K)) (Ends0 Q) [some (.ref sa), some (T ls), some (.ref ra), some (.ref ja), some (.ref wa), some (.ref na), some (.ref pw), some (.ref ha), some told, x9, x10, x11, x12, some (.ref pr), some (.ref oa), none, none, none] H5 := by
    intro H5 F2 e5 l5 ho hF
    refine ⟨_, rfl, _, rfl, _, rfl, _, rfl, ?_⟩
    dsimp only [tNil]
    refine over_ok (oa := oa) l5 p ho hF fun told2 H6 e6 ht => ?_
    exact r3_ok (oa := oa) (l5.mo e6) p (e6 _ _ ho) hF ht fun H7 e7 => q _ ((e5.trans e6).trans e7)
  generalize tSeq (tAsg (tCall (sp_law_overflow C) _ _ _) _) _ = M at key ⊢
  have other : ∀ (H5 : Hp), Same H4 H5 → (tAsg (tOp (rIxL K) (tVar 13) (tC (.int 1))) (gSub (tVar 14) (tC (.int 2)) rSetL)) { nx := M (Ends0 Q), rt := Q } [some (.ref sa), some (T ls), some (.ref ra), some (.ref ja), some (.ref wa), some (.ref na), some (.ref pw), some (.ref ha), some told, x9, x10, x11, x12, some (.ref pr), some (.ref oa), none, none, none] H5 := by
    intro H5 e5
    have l5 := l.mo e5
    have ho5 := e5 _ _ hoa
    walk_at "rd"
    refine ⟨_, _, _, _, rfl, rfl, SqL.of (e5 _ _ hpr4), atI_nat g1, ?_⟩
    walk_at "rd"
    refine ⟨oa, _, _, 2, rfl, rfl, ho5, rfl, ?_⟩
    have e35 : Same H3 H5 := e4.trans e5
    have e36 : Same H3 (upd H5 oa (.lst [.int h, .int R, .int r1])) := Same.mut e35 noa
    exact key _ r1 (((e1.trans e2).trans e3).trans e36) (l3.mo e36) upd_same (by omega)
  have same : ∀ (H5 : Hp), Same H4 H5 → M (Ends0 Q) [some (.ref sa), some (T ls), some (.ref ra), some (.ref ja), some (.ref wa), some (.ref na), some (.ref pw), some (.ref ha), some told, x9, x10, x11, x12, some (.ref pr), some (.ref oa), none, none, none] H5 := fun H5 e5 => key H5 (r0 - 1) (e03.trans e5) (l.mo e5) (e5 _ _ hoa) (by omega)
  generalize tAsg (tOp (rIxL K) (tVar 13) (tC (.int 1))) _ = M2 at other ⊢
  walk_at "rd"
  refine iteB (fun z => ?_) (fun z => ?_)
  · exact other H4 (Same.refl _)
  · walk_at "rn"
    intro D nD
    have hz : (⟨ls.toArray⟩ : Str).cps.size = ls.length := by simp
    refine turns walk_str (fun i H' => ∃ ns : List Int, H' D = some (.lst (ns.map V.int)) ∧ Same H4 H' ∧ ns.length = i) ⟨[], upd_same, Same.new nD, rfl⟩ (fun _ _ _ _ => trivial) ?_ ?_
    · rintro k y H5 H6 hk ⟨ns, a1, a2, a3⟩ ⟨rfl, d, hd, rfl⟩
      have hd2 : ls[k]? = some d := by simpa using hd
      have hk2 : k < ls.length := by simpa using hk
      walk_at "rd"
      refine ⟨wa, _, rfl, dget_k (a2 _ _ l.w) (wt_get p.nd p.wk (List.mem_of_getElem? hd2)).1, ?_⟩
      exact ⟨_, a1, line_lt (by rw [List.length_map]; omega), ns ++ [wtOf kvs d], by rw [upd_same, List.map_append]; rfl, Same.mut a2 nD, by rw [List.length_append, a3]; rfl⟩
    · rintro H5 ⟨ns, a1, a2, a3⟩
      rw [hz] at a3
      walk_at "rn"
      refine ⟨D, ns, rfl, SqL.of a1, by omega, fun m hm hmin => ?_⟩
      walk_at "rd"
      refine iteB (fun z => ?_) (fun z => ?_)
      · exact other H5 a2
      · exact same H5 a2
theorem Wds.mono {n m : Nat} {us : List Word} (w : Wds ls n us) (h : n ≤ m) : Wds ls m us := fun u hu => ⟨(w u hu).1, (w u hu).2.1, Nat.le_trans (w u hu).2.2 h⟩
theorem r1_ok {told : V} (l : LC K C ns rows kvs h R F sa ra ja wa na pw ha us H) (p : LP ls rows kvs h R F us) (ht : Tl rows kvs h R F ls told) (q : RetV (.bl true) H Q) :
    law_r1 K C (Ends0 Q) [some (.ref sa), some (T ls), some (.ref ra), some (.ref ja), some (.ref wa), some (.ref na), some (.ref pw), some (.ref ha), some told, none, none, none, none, none, none, none, none, none] H := by
  obtain ⟨ok1, ok2, ok3, ok4⟩ := p.ok
  have N := p.nums p.nb.f1
  have hne : ls ≠ [] := fun z => by rw [z] at ok2; cases ok2
  unfold law_r1
  have rest : ∀ (H' : Hp) (x9 x10 x11 x12 : Option V), Same H H' → law_r2 K C (Ends0 Q) [some (.ref sa), some (T ls), some (.ref ra), some (.ref ja), some (.ref wa), some (.ref na), some (.ref pw), some (.ref ha), some told, x9, x10, x11, x12, none, none, none, none, none] H' := fun H' x9 x10 x11 x12 e => r2_ok (l.mo e) p fun H2 e2 => q _ (e.trans e2)
  generalize law_r2 K C = M at rest ⊢
  walk_at "rd"
  intro ps H1 us2 e1 hps wd2 l2
  obtain ⟨os, o1, o2⟩ := hps
  have lo := Paired.len o2
  have l1 := l.mo e1
  obtain ⟨zs, z1, z2⟩ := l1.ws
  have lz := Paired.len z2
  have pul := p.ul
  walk_at "rd"
  refine ⟨ps, pw, os, zs, rfl, rfl, o1, z1, by rw [sizeLine_eq]; omega, ?_⟩
  intro pc npc
  generalize hh_pc : upd _ pc _ = H2
  obtain ⟨e2, hpc⟩ := al npc hh_pc
  clear hh_pc
  have lc2 := l1.mo e2
  have e02 := e1.trans e2
  walk_at "rd"
  refine ⟨told, ra, ls, wa, na, pc, rows, wtOf kvs, h, R, F, us2 ++ us, rfl, lc2.r, p.wt lc2.w, lc2.n, ⟨_, hpc, paired_tu e2 (paired_app o2 z2)⟩, ⟨(wd2.mono (by decide)).app p.wd, by rw [List.length_append]; omega, p.sh, ok3, N⟩, ht, fun H3 e3 => ?_⟩
  have lc3 := lc2.mo e3
  have e03 := e02.trans e3
  walk_at "rd"
  refine ⟨_, _, _, _, rfl, rfl, SqL.of lc3.n, at1, ?_⟩
  walk_at "rd"
  refine ⟨_, _, _, _, rfl, rfl, SqL.of lc3.n, at2, ?_⟩
  walk_at "rd"
  refine ⟨_, _, _, _, rfl, rfl, SqL.of lc3.n, at1, ?_⟩
  walk_at "rd"
  refine ⟨_, _, _, _, rfl, rfl, SqL.of lc3.n, at2, ?_⟩
  walk_at "rd"
  refine ⟨wa, kvs, rfl, .inl lc3.w, ?_⟩
  intro pd npd
  generalize hh_pd : upd _ pd _ = H4
  obtain ⟨e4, hpd⟩ := al npd hh_pd
  clear hh_pd
  have lc4 := lc3.mo e4
  have e04 := e03.trans e4
  walk_at "rd"
  refine ⟨ja, ls, pd, rows, wtOf kvs, rfl, lc4.j, p.sh, p.wt hpd, ⟨ok3, hne, fun c hc => (wt_get p.nd p.wk hc).2.1⟩, fun H5 e5 hring => ?_, fun v H5 W x1 x2 e5 hv hpath hmax => ?_⟩
  · obtain ⟨M0, m1, m2, pp, m3⟩ := hring
    obtain ⟨w, w1, w2, w3⟩ := ring_bad p.sh N m1 m2 m3
    walk_at "rd"
    rcases ht with ⟨rfl, hall⟩ | ⟨v, rfl, mb, lv⟩
    · exact absurd (hall w w1 w2) w3
    · walk_at "rd"
      exact rest H5 _ _ _ _ (e04.trans e5)
  · obtain ⟨pv, rfl, hpv⟩ := hv
    have lc5 := lc4.mo e5
    walk_at "rd"
    refine ⟨_, _, _, _, rfl, rfl, SqT.of hpv, at0, ?_⟩
    walk_at "rd"
    refine iteB (fun z => ?_) (fun z => ?_)
    · have z' := of_decide_eq_true z
      obtain ⟨pp, hst, hp⟩ := hpath
      obtain ⟨s1, s2, s3⟩ := start_ok hst
      obtain ⟨w, w1, w2, w3⟩ := path_bad p.sh N hp ⟨s1, s2⟩ s3 (by split at z' <;> omega) (by split at z' <;> omega)
      rcases ht with ⟨rfl, hall⟩ | ⟨v, rfl, mb, lv⟩
      · exact absurd (hall w w1 w2) w3
      · walk_at "rd"
        exact rest H5 _ _ _ _ (e04.trans e5)
    · walk_at "rd"
      refine ⟨_, _, _, _, rfl, rfl, SqT.of hpv, at0, ?_⟩
      walk_at "rd"
      refine ⟨_, _, _, _, rfl, rfl, SqL.of lc5.n, at0, ?_⟩
      walk_at "rd"
      refine iteB (fun z2 => ?_) (fun z2 => ?_)
      · have z2' := of_decide_eq_true z2
        rcases ht with ⟨rfl, hall⟩ | ⟨v, rfl, mb, lv⟩
        · walk_at "rd"
          exact rest H5 _ _ _ _ (e04.trans e5)
        · exact absurd (light_ok p.sh N hmax (by split at z2' <;> omega) (by split at z2' <;> omega) mb.1.1 mb.1.2.1) mb.1.2.2
      · exact rest H5 _ _ _ _ (e04.trans e5)
end
end K33
set_option Elab.async false
set_option linter.all false
set_option maxRecDepth 100000
set_option maxHeartbeats 4000000
/-! reading: the law -/
namespace K33
open PySem PySem.Spec PyProof.Rows L2
local macro_rules | `(tactic| walk_at "sz") => `(tactic| first | exact Nat.zero_le _ | omega | (simp only [sizeLine_eq, cutL_to, cutL_from, cutL_mid, List.length_append, List.length_cons, List.length_nil, List.length_take, List.length_drop, List.length_map, List.length_dropLast]; omega) | decide | (refine Nat.le_trans (cutL_len _ _ _) ?_; simp only [sizeLine_eq, List.length_append, List.length_cons, List.length_nil, List.length_take, List.length_drop]; omega))
local macro_rules | `(tactic| walk_at "rd") => `(tactic| ((try dsimp only); repeat (first
  | refine ⟨_, rfl, ?_⟩
  | refine ⟨rfl, ?_⟩
  | refine ⟨_, _, rfl, rfl, ?_⟩
  | refine ⟨_, _, rfl, ?_⟩
  | refine ⟨_, _, rfl, SqT.of upd_same, rfl, ?_⟩
  | refine And.intro ⟨_, rfl⟩ ?_
  | refine And.intro (by walk_at "sz") ?_)))
local macro_rules | `(tactic| walk_at "rn") => `(tactic| repeat (first
  | refine ⟨_, rfl, ?_⟩
  | refine ⟨rfl, ?_⟩
  | refine ⟨_, _, rfl, rfl, ?_⟩
  | refine ⟨_, _, rfl, ?_⟩
  | refine ⟨_, _, rfl, SqT.of upd_same, rfl, ?_⟩
  | refine And.intro ⟨_, rfl⟩ ?_
  | refine And.intro (by walk_at "sz") ?_))
def sp_law (K : PySem.W.Frag) : Sp := fun vs H Q _ => ∃ (sa : Addr) (ns : List Int), vs = [.ref sa] ∧ SqL K H sa (ns.map V.int) ∧ RetV (.bl true) H Q
theorem rd_law {K : PySem.W.Frag} {C : Addr} {vs : List V} {H : Hp} {Q : VK} {E : XK} (hh : sp_law K vs H Q E) :
    t_law K C (sp_cell K) sp_letters (sp_list K) sp_written sp_numbers sp_word (sp_law_overflow C) sp_short_words sp_holds (sp_heaviest C) sp_row (sp_init C) (Ends0 Q)
      (start ["_law_script", "_law_letters_here", "_law_rows", "_law_joints", "_law_weight", "_law_numbers_here", "_law_words", "_law_handed", "_law_told", "_law_short", "_law_least", "_law_most", "_law_heavy", "_law_more", "_law_others", "_law_k", "_law_row_here", "_law_letter"] vs) H := by
  obtain ⟨sa, ns, rfl, hs, q⟩ := hh
  have hbt : t_law K C (sp_cell K) sp_letters (sp_list K) sp_written sp_numbers sp_word (sp_law_overflow C) sp_short_words sp_holds (sp_heaviest C) sp_row (sp_init C) = (tSeq (tAsg (tCall sp_letters [] E0 (tCons (tCall (sp_cell K) [] E0 (tCons (tVar 0) (tCons (tC (.int 0)) tNil))) tNil)) (gName 1))
    (tSeq (tAsg (tCall (sp_list K) [] E0 (tCons (tVar 0) (tCons (tC (.int 1)) (tCons (tVar 1) tNil)))) (gName 2))
    (tSeq (tAsg (tMake C (sp_init C) [] E0 (tCons (tLc (iList K (tVar 2)) (gName 16) tYes (tCall sp_written [] E0 (tCons (tVar 16) tNil)) [16]) tNil)) (gName 3))
    (tSeq (tAsg (tCall sp_numbers [] E0 (tCons (tCall (sp_cell K) [] E0 (tCons (tVar 0) (tCons (tC (.int 9)) tNil))) (tCons (tVar 1) tNil))) (gTup K 2 (gCons (gName 4) (gCons (gName 5) gNil))))
    (tSeq (tAsg (tLc (iRng1 (tCons (tC (.int 3)) tNil)) (gName 15) tYes (tCall sp_word [] E0 (tCons (tOp (rI0 fun i j => .int (i + j)) (tCall (sp_cell K) [] E0 (tCons (tVar 0) (tCons (tOp (rI0 fun i j => .int (i + j)) (tC (.int 10)) (tVar 15)) tNil))) (tVar 15)) (tCons (tVar 1) tNil))) [15]) (gName 6))
    (tSeq (tAsg (tCB rCopyD (tCons (tVar 4) tNil)) (gName 7))
    (tSeq (tAsg (tCall (sp_law_overflow C) [] E0 (tCons (tVar 3) (tCons (tVar 1) (tCons (tVar 7) (tCons (tVar 5) tNil))))) (gName 8))
    (law_r1 K C)))))))) := rfl
  rw [hbt]
  have rest : ∀ (H1 : Hp) (ls : Word) (rows : List Row) (kvs : List (Key × V)) (h R F : Int) (ra ja wa na pw ha : Addr) (us : List Word) (told : V), Same H H1 → LC K C ns rows kvs h R F sa ra ja wa na pw ha us H1 → LP ls rows kvs h R F us → Tl rows kvs h R F ls told →
      law_r1 K C (Ends0 Q) [some (.ref sa), some (T ls), some (.ref ra), some (.ref ja), some (.ref wa), some (.ref na), some (.ref pw), some (.ref ha), some told, none, none, none, none, none, none, none, none, none] H1 :=
    fun H1 ls rows kvs h R F ra ja wa na pw ha us told e l p t => r1_ok l p t fun H2 e2 => q _ (e.trans e2)
  generalize law_r1 K C = M at rest ⊢
  walk_at "rd"
  refine ⟨sa, ns, _, rfl, hs, by decide, fun c H1 e1 => ?_⟩
  have hs := MoR.mo e1 hs
  walk_at "rd"
  intro ls H2 e2 ok
  have hs := MoR.mo e2 hs
  have e1 := MoR.mo e2 e1
  walk_at "rd"
  refine ⟨sa, ns, 1, ls, rfl, hs, by decide, ok, fun ra H3 rows e3 hra hro l8 => ?_⟩
  obtain ⟨ok1, ok2, ok3, ok4⟩ := id ok
  have sh : Short rows := fun r hr => ⟨(hro r hr).l.len, (hro r hr).r.len⟩
  have hs := MoR.mo e3 hs
  have e1 := MoR.mo e3 e1
  obtain ⟨vs, v1, v2⟩ := id hra
  have lv := Paired.len v2
  walk_at "rn"
  refine ⟨⟨_, SqL.of v1⟩, fun D nD => ?_⟩
  refine turns walk_list (Lcp TxAt D H3 (rows.map written)) (lcp_zero nD) (fun i H' _ ⟨_, _, e, _⟩ => SqL.of (e _ _ v1)) ?_ ?_
  · rintro i x H4 H5 hi cc ⟨rfl, hx⟩
    obtain ⟨r, hr, hxr⟩ := Paired.at v2 hx
    have hxr5 : RowAt H5 x r := let ⟨_, _, e, _⟩ := cc; MoR.mo e hxr
    have hsr := sh r (List.mem_of_getElem? hr)
    walk_at "rd"
    refine ⟨x, r, rfl, hxr5, hsr, fun H6 e6 => ?_⟩
    exact lcp_next nD (by rw [List.length_map]; omega) cc e6 (by rw [List.getElem?_map, hr]; rfl) rfl
  · intro H4 cc
    obtain ⟨e4, hD⟩ := lcp_end (by rw [List.length_map, lv]) cc
    obtain ⟨ts, t1, t2⟩ := hD
    have hs := MoR.mo e4 hs
    have e1 := MoR.mo e4 e1
    have hra := MoR.mo e4 hra
    walk_at "rn"
    intro ja dx nja ndx hne
    have nl1 : D ≠ ja := ne_of_none t1 nja
    have nl2 : D ≠ dx := ne_of_none t1 ndx
    refine ⟨ja, dx, D, rows, rfl, upd_same, ⟨ts, by rw [upd_ne nl1, upd_ne nl2]; exact t1, ?_⟩, hro, l8, fun H5 keep hJ => ⟨rfl, ?_⟩⟩
    · rw [tx_vs t2]
      exact vs_tx _
    have e5 : Same H4 H5 := fun b o hb => keep b o (ne_of_none hb nja) (by rw [upd_ne (ne_of_none hb nja), upd_ne (ne_of_none hb ndx)]; exact hb)
    have hs := MoR.mo e5 hs
    have e1 := MoR.mo e5 e1
    have hra := MoR.mo e5 hra
    walk_at "rd"
    refine ⟨sa, ns, _, rfl, hs, by decide, fun c H6 e6 => ?_⟩
    have hs := MoR.mo e6 hs
    have e1 := MoR.mo e6 e1
    have hra := MoR.mo e6 hra
    have hJ := MoR.mo e6 hJ
    walk_at "rd"
    intro v H7 wa na kvs h R F e7 hv hwa hwk hna nb
    have hs := MoR.mo e7 hs
    have e1 := MoR.mo e7 e1
    have hra := MoR.mo e7 hra
    have hJ := MoR.mo e7 hJ
    obtain ⟨pv, rfl, hpv⟩ := hv
    refine ⟨pv, _, rfl, SqT.of hpv, rfl, ?_⟩
    walk_at "rn"
    intro D2 nD2
    refine turns walk_range (fun i H' => ∃ us, H' D2 = some (.lst (us.map T)) ∧ Same H7 H' ∧ Wds ls 40 us ∧ us.length = i) ⟨[], upd_same, Same.new nD2, fun u hu => (nomatch hu), rfl⟩ (fun _ _ _ _ => trivial) ?_ ?_
    · rintro i x H8 H9 hi ⟨us, u1, u2, u3, u4⟩ ⟨rfl, rfl⟩
      have hi2 : i < 3 := hi
      dsimp only
      rw [Int.zero_add]
      walk_at "rd"
      refine ⟨sa, ns, _, rfl, MoR.mo u2 hs, by omega, fun c H10 e10 => ?_⟩
      walk_at "rd"
      intro u H11 e11 un uo ul
      have e1011 := e10.trans e11
      refine ⟨_, e1011 _ _ u1, line_lt (by rw [List.length_map]; omega), us ++ [u], by rw [upd_same, List.map_append]; rfl, Same.mut (u2.trans e1011) nD2, fun z hz => ?_, by rw [List.length_append, u4]; rfl⟩
      rcases List.mem_append.mp hz with y | y
      · exact u3 z y
      · rw [List.mem_singleton.mp y]; exact ⟨un, uo, ul⟩
    · rintro H8 ⟨us, u1, u2, u3, u4⟩
      have hs := MoR.mo u2 hs
      have e1 := MoR.mo u2 e1
      have hra := MoR.mo u2 hra
      have hJ := MoR.mo u2 hJ
      have hwa := MoR.mo u2 hwa
      have hna := MoR.mo u2 hna
      walk_at "rn"
      refine ⟨wa, kvs, rfl, .inl hwa, ?_⟩
      intro ha nha
      generalize hh_ha : upd _ ha _ = H9
      obtain ⟨e9, hha⟩ := al nha hh_ha
      clear hh_ha
      have hs := MoR.mo e9 hs
      have e1 := MoR.mo e9 e1
      have hra := MoR.mo e9 hra
      have hJ := MoR.mo e9 hJ
      have hwa := MoR.mo e9 hwa
      have hna := MoR.mo e9 hna
      have u1 := MoR.mo e9 u1
      have lp : LP ls rows kvs h R F us := ⟨ok, sh, hwk, nb, u3.mono (by decide), Nat.le_of_eq u4⟩
      have lc : LC K C ns rows kvs h R F sa ra ja wa na D2 ha us H9 := ⟨hs, hJ, hra, hwa, hha, hna, ⟨_, u1, vs_tx _⟩⟩
      refine ⟨_, rfl, _, rfl, _, rfl, _, rfl, ?_⟩
      dsimp only [tNil]
      refine over_ok (oa := na) lc lp lc.n nb.f1 fun told H10 e10 ht => ?_
      exact rest H10 ls rows kvs h R F ra ja wa na D2 ha us told (e1.trans e10) (lc.mo e10) lp ht
end K33
set_option Elab.async false
set_option linter.all false
set_option maxRecDepth 100000
set_option maxHeartbeats 4000000
/-! each def keeps its promise -/
namespace K33
open PySem PySem.Spec PyProof.Rows L2
section
variable {P : Program} {w : World} {K : PySem.W.Frag} {mg : Str → Option Value} {base : Heap} {tN tL : Tok} {C : Addr}
theorem vals_app : ∀ {vs : List V} {us : List Value} {zs : List V} {ws : List Value}, Vals vs us → Vals zs ws → Vals (vs ++ zs) (us ++ ws)
  | _, _, _, _, .nil, h => h
  | _, _, _, _, .cons r t, h => .cons r (vals_app t h)
/-- what the class is -/
structure ClJ (K : PySem.W.Frag) (C : Addr) : Prop where
  cl : Cls K C
  nr : NoAttr K C "readings"
  nl : NoAttr K C "lines"
  mo : ∃ mc u, ClX.CRead K C mc ∧ ClX.CVal K C mc "MOST" (.int 8) u
theorem k_sides (B : Bl mg) (G : Gb mg tN tL) (J : ClJ K C)  {f : Addr} {fd : FuncData} (F : Fun K "sides" "sides" s_sides f fd) : FnOk P w K mg base CX0 1 f fd ["letters"] sp_sides :=
  F.ok sc_sides (fun vs H Q E h => by
    obtain ⟨_, rfl, _⟩ := h
    rfl) fun cdv A outer s H vs Q E hr h => ⟨_, w_sides hr B G , rd_sides h⟩
theorem b_sides {f : Addr} {fd : FuncData} (F : Fun K "sides" "sides" s_sides f fd) : Binds K fd ["letters"] [] := F.binds (ps := ["letters"]) fun _ _ _ _ _ _ us hl => match us, hl with | [_], _ => rfl
theorem k_is_part (B : Bl mg) (G : Gb mg tN tL) (J : ClJ K C)  {f : Addr} {fd : FuncData} (F : Fun K "is_part" "is_part" s_is_part f fd) : FnOk P w K mg base CX0 1 f fd ["text", "dot"] sp_is_part :=
  F.ok sc_is_part (fun vs H Q E h => by
    obtain ⟨_, _, rfl, _⟩ := h
    rfl) fun cdv A outer s H vs Q E hr h => ⟨_, w_is_part hr B G , rd_is_part h⟩
theorem b_is_part {f : Addr} {fd : FuncData} (F : Fun K "is_part" "is_part" s_is_part f fd) : Binds K fd ["text", "dot"] [] := F.binds (ps := ["text", "dot"]) fun _ _ _ _ _ _ us hl => match us, hl with | [_, _], _ => rfl
theorem k_read_joint (B : Bl mg) (G : Gb mg tN tL) (J : ClJ K C) (C_is_part : Cal P w K mg base "is_part" 1 ["text", "dot"] sp_is_part) {f : Addr} {fd : FuncData} (F : Fun K "read_joint" "read_joint" s_read_joint f fd) : FnOk P w K mg base CX0 2 f fd ["line"] sp_read_joint :=
  F.ok sc_read_joint (fun vs H Q E h => by
    obtain ⟨_, rfl, _⟩ := h
    rfl) fun cdv A outer s H vs Q E hr h => ⟨_, w_read_joint hr B G C_is_part, rd_read_joint h⟩
theorem b_read_joint {f : Addr} {fd : FuncData} (F : Fun K "read_joint" "read_joint" s_read_joint f fd) : Binds K fd ["line"] [] := F.binds (ps := ["line"]) fun _ _ _ _ _ _ us hl => match us, hl with | [_], _ => rfl
theorem k_stands_for (B : Bl mg) (G : Gb mg tN tL) (J : ClJ K C)  {f : Addr} {fd : FuncData} (F : Fun K "stands_for" "stands_for" s_stands_for f fd) : FnOk P w K mg base CX0 1 f fd ["part", "text"] sp_stands_for :=
  F.ok sc_stands_for (fun vs H Q E h => by
    obtain ⟨_, _, rfl, _⟩ := h
    rfl) fun cdv A outer s H vs Q E hr h => ⟨_, w_stands_for hr B G , rd_stands_for h⟩
theorem b_stands_for {f : Addr} {fd : FuncData} (F : Fun K "stands_for" "stands_for" s_stands_for f fd) : Binds K fd ["part", "text"] [] := F.binds (ps := ["part", "text"]) fun _ _ _ _ _ _ us hl => match us, hl with | [_, _], _ => rfl
theorem k_Joints_decider (B : Bl mg) (G : Gb mg tN tL) (J : ClJ K C) (C_stands_for : Cal P w K mg base "stands_for" 1 ["part", "text"] sp_stands_for) {f : Addr} {fd : FuncData} (F : Fun K "decider" "Joints.decider" s_Joints_decider f fd) : FnOk P w K mg base CX0 2 f fd ["self", "word", "gap"] (sp_decider C) :=
  F.ok sc_Joints_decider (fun vs H Q E h => by
    obtain ⟨_, _, _, _, rfl, _⟩ := h
    rfl) fun cdv A outer s H vs Q E hr h => ⟨_, w_Joints_decider hr B G C_stands_for, rd_decider J.cl J.nr h⟩
theorem b_Joints_decider {f : Addr} {fd : FuncData} (F : Fun K "decider" "Joints.decider" s_Joints_decider f fd) : Binds K fd ["self", "word", "gap"] [] := F.binds (ps := ["self", "word", "gap"]) fun _ _ _ _ _ _ us hl => match us, hl with | [_, _, _], _ => rfl
theorem k_Joints_is_joint (B : Bl mg) (G : Gb mg tN tL) (J : ClJ K C) (CM : CalM P w K mg base C "decider" 2 ["self", "word", "gap"] (sp_decider C)) {f : Addr} {fd : FuncData} (F : Fun K "is_joint" "Joints.is_joint" s_Joints_is_joint f fd) : FnOk P w K mg base CX0 3 f fd ["self", "word", "gap"] (sp_is_joint C) :=
  F.ok sc_Joints_is_joint (fun vs H Q E h => by
    obtain ⟨_, _, _, _, rfl, _⟩ := h
    rfl) fun cdv A outer s H vs Q E hr h => ⟨_, w_Joints_is_joint hr B G J.cl CM, rd_is_joint J.cl J.nr h⟩
theorem b_Joints_is_joint {f : Addr} {fd : FuncData} (F : Fun K "is_joint" "Joints.is_joint" s_Joints_is_joint f fd) : Binds K fd ["self", "word", "gap"] [] := F.binds (ps := ["self", "word", "gap"]) fun _ _ _ _ _ _ us hl => match us, hl with | [_, _, _], _ => rfl
theorem k_Joints_init (B : Bl mg) (G : Gb mg tN tL) (J : ClJ K C) (C_read_joint : Cal P w K mg base "read_joint" 2 ["line"] sp_read_joint) (gJ : mg "Joints" = some (.ref C)) {f : Addr} {fd : FuncData} (F : Fun K "__init__" "Joints.__init__" s_Joints_init f fd) : FnOk P w K mg base CX0 3 f fd ["self", "lines"] (sp_init C) :=
  F.ok sc_Joints_init (fun vs H Q E h => by
    obtain ⟨_, _, _, _, rfl, _⟩ := h
    rfl) fun cdv A outer s H vs Q E hr h => ⟨_, w_Joints_init hr B G C_read_joint gJ, rd_init J.cl J.nr J.nl J.mo h⟩
theorem b_Joints_init {f : Addr} {fd : FuncData} (F : Fun K "__init__" "Joints.__init__" s_Joints_init f fd) : Binds K fd ["self", "lines"] [] := F.binds (ps := ["self", "lines"]) fun _ _ _ _ _ _ us hl => match us, hl with | [_, _], _ => rfl
theorem k_joint_table (B : Bl mg) (G : Gb mg tN tL) (J : ClJ K C) (C_sides : Cal P w K mg base "sides" 1 ["letters"] sp_sides) (CM : CalM P w K mg base C "is_joint" 3 ["self", "word", "gap"] (sp_is_joint C)) {f : Addr} {fd : FuncData} (F : Fun K "joint_table" "joint_table" s_joint_table f fd) : FnOk P w K mg base CX0 4 f fd ["joints", "letters"] (sp_joint_table C) :=
  F.ok sc_joint_table (fun vs H Q E h => by
    obtain ⟨_, _, _, rfl, _⟩ := h
    rfl) fun cdv A outer s H vs Q E hr h => ⟨_, w_joint_table hr B G C_sides J.cl CM, rd_joint_table h⟩
theorem b_joint_table {f : Addr} {fd : FuncData} (F : Fun K "joint_table" "joint_table" s_joint_table f fd) : Binds K fd ["joints", "letters"] [] := F.binds (ps := ["joints", "letters"]) fun _ _ _ _ _ _ us hl => match us, hl with | [_, _], _ => rfl
theorem k_next_gaps (B : Bl mg) (G : Gb mg tN tL) (J : ClJ K C)  {f : Addr} {fd : FuncData} (F : Fun K "next_gaps" "next_gaps" s_next_gaps f fd) : FnOk P w K mg base CX0 1 f fd ["pair", "letters"] sp_next_gaps :=
  F.ok sc_next_gaps (fun vs H Q E h => by
    obtain ⟨_, _, _, rfl, _⟩ := h
    rfl) fun cdv A outer s H vs Q E hr h => ⟨_, w_next_gaps hr B G , rd_next_gaps h⟩
theorem b_next_gaps {f : Addr} {fd : FuncData} (F : Fun K "next_gaps" "next_gaps" s_next_gaps f fd) : Binds K fd ["pair", "letters"] [] := F.binds (ps := ["pair", "letters"]) fun _ _ _ _ _ _ us hl => match us, hl with | [_, _], _ => rfl
theorem k_best_tail (B : Bl mg) (G : Gb mg tN tL) (J : ClJ K C) (C_next_gaps : Cal P w K mg base "next_gaps" 1 ["pair", "letters"] sp_next_gaps) {f : Addr} {fd : FuncData} (F : Fun K "best_tail" "best_tail" s_best_tail f fd) : FnOk P w K mg base CX0 2 f fd ["pair", "table", "tails", "letters", "weight"] sp_best_tail :=
  F.ok sc_best_tail (fun vs H Q E h => by
    obtain ⟨_, _, _, _, _, _, _, _, _, rfl, _⟩ := h
    rfl) fun cdv A outer s H vs Q E hr h => ⟨_, w_best_tail hr B G C_next_gaps, rd_best_tail h⟩
theorem b_best_tail {f : Addr} {fd : FuncData} (F : Fun K "best_tail" "best_tail" s_best_tail f fd) : Binds K fd ["pair", "table", "tails", "letters", "weight"] [] := F.binds (ps := ["pair", "table", "tails", "letters", "weight"]) fun _ _ _ _ _ _ us hl => match us, hl with | [_, _, _, _, _], _ => rfl
theorem k_heaviest_tails (B : Bl mg) (G : Gb mg tN tL) (J : ClJ K C) (C_best_tail : Cal P w K mg base "best_tail" 2 ["pair", "table", "tails", "letters", "weight"] sp_best_tail) {f : Addr} {fd : FuncData} (F : Fun K "heaviest_tails" "heaviest_tails" s_heaviest_tails f fd) : FnOk P w K mg base CX0 3 f fd ["table", "letters", "weight"] sp_heaviest_tails :=
  F.ok sc_heaviest_tails (fun vs H Q E h => by
    obtain ⟨_, _, _, _, _, rfl, _⟩ := h
    rfl) fun cdv A outer s H vs Q E hr h => ⟨_, w_heaviest_tails hr B G C_best_tail, rd_heaviest_tails h⟩
theorem b_heaviest_tails {f : Addr} {fd : FuncData} (F : Fun K "heaviest_tails" "heaviest_tails" s_heaviest_tails f fd) : Binds K fd ["table", "letters", "weight"] [] := F.binds (ps := ["table", "letters", "weight"]) fun _ _ _ _ _ _ us hl => match us, hl with | [_, _, _], _ => rfl
theorem k_heaviest_syllable (B : Bl mg) (G : Gb mg tN tL) (J : ClJ K C) (C_joint_table : Cal P w K mg base "joint_table" 4 ["joints", "letters"] (sp_joint_table C)) (C_heaviest_tails : Cal P w K mg base "heaviest_tails" 3 ["table", "letters", "weight"] sp_heaviest_tails) (C_sides : Cal P w K mg base "sides" 1 ["letters"] sp_sides) (C_best_tail : Cal P w K mg base "best_tail" 2 ["pair", "table", "tails", "letters", "weight"] sp_best_tail) {f : Addr} {fd : FuncData} (F : Fun K "heaviest_syllable" "heaviest_syllable" s_heaviest_syllable f fd) : FnOk P w K mg base CX0 5 f fd ["joints", "letters", "weight"] (sp_heaviest C) :=
  F.ok sc_heaviest_syllable (fun vs H Q E h => by
    obtain ⟨_, _, _, _, _, rfl, _⟩ := h
    rfl) fun cdv A outer s H vs Q E hr h => ⟨_, w_heaviest_syllable hr B G C_joint_table C_heaviest_tails C_sides C_best_tail, rd_heaviest h⟩
theorem b_heaviest_syllable {f : Addr} {fd : FuncData} (F : Fun K "heaviest_syllable" "heaviest_syllable" s_heaviest_syllable f fd) : Binds K fd ["joints", "letters", "weight"] [] := F.binds (ps := ["joints", "letters", "weight"]) fun _ _ _ _ _ _ us hl => match us, hl with | [_, _, _], _ => rfl
theorem k_letter_on (B : Bl mg) (G : Gb mg tN tL) (J : ClJ K C)  {f : Addr} {fd : FuncData} (F : Fun K "letter_on" "letter_on" s_letter_on f fd) : FnOk P w K mg base CX0 1 f fd ["word", "at", "state", "table", "weight", "limits"] sp_letter_on :=
  F.ok sc_letter_on (fun vs H Q E h => by
    obtain ⟨_, _, _, _, _, _, _, _, _, _, _, _, _, rfl, _⟩ := h
    rfl) fun cdv A outer s H vs Q E hr h => ⟨_, w_letter_on hr B G , rd_letter_on h⟩
theorem b_letter_on {f : Addr} {fd : FuncData} (F : Fun K "letter_on" "letter_on" s_letter_on f fd) : Binds K fd ["word", "at", "state", "table", "weight", "limits"] [] := F.binds (ps := ["word", "at", "state", "table", "weight", "limits"]) fun _ _ _ _ _ _ us hl => match us, hl with | [_, _, _, _, _, _], _ => rfl
theorem k_can_end (B : Bl mg) (G : Gb mg tN tL) (J : ClJ K C) (C_letter_on : Cal P w K mg base "letter_on" 1 ["word", "at", "state", "table", "weight", "limits"] sp_letter_on) {f : Addr} {fd : FuncData} (F : Fun K "can_end" "can_end" s_can_end f fd) : FnOk P w K mg base CX0 2 f fd ["word", "state", "table", "weight", "limits"] sp_can_end :=
  F.ok sc_can_end (fun vs H Q E h => by
    obtain ⟨_, _, _, _, _, _, _, _, _, _, _, rfl, _⟩ := h
    rfl) fun cdv A outer s H vs Q E hr h => ⟨_, w_can_end hr B G C_letter_on, rd_can_end h⟩
theorem b_can_end {f : Addr} {fd : FuncData} (F : Fun K "can_end" "can_end" s_can_end f fd) : Binds K fd ["word", "state", "table", "weight", "limits"] [] := F.binds (ps := ["word", "state", "table", "weight", "limits"]) fun _ _ _ _ _ _ us hl => match us, hl with | [_, _, _, _, _], _ => rfl
theorem k_is_new (B : Bl mg) (G : Gb mg tN tL) (J : ClJ K C)  {f : Addr} {fd : FuncData} (F : Fun K "is_new" "is_new" s_is_new f fd) : FnOk P w K mg base CX0 1 f fd ["kept", "tail", "state"] sp_is_new :=
  F.ok sc_is_new (fun vs H Q E h => by
    obtain ⟨_, _, _, _, _, rfl, _⟩ := h
    rfl) fun cdv A outer s H vs Q E hr h => ⟨_, w_is_new hr B G , rd_is_new h⟩
theorem b_is_new {f : Addr} {fd : FuncData} (F : Fun K "is_new" "is_new" s_is_new f fd) : Binds K fd ["kept", "tail", "state"] [] := F.binds (ps := ["kept", "tail", "state"]) fun _ _ _ _ _ _ us hl => match us, hl with | [_, _, _], _ => rfl
theorem k_overflow (B : Bl mg) (G : Gb mg tN tL) (J : ClJ K C) (C_joint_table : Cal P w K mg base "joint_table" 4 ["joints", "letters"] (sp_joint_table C)) (C_letter_on : Cal P w K mg base "letter_on" 1 ["word", "at", "state", "table", "weight", "limits"] sp_letter_on) (C_is_new : Cal P w K mg base "is_new" 1 ["kept", "tail", "state"] sp_is_new) (C_can_end : Cal P w K mg base "can_end" 2 ["word", "state", "table", "weight", "limits"] sp_can_end) {f : Addr} {fd : FuncData} (F : Fun K "overflow" "overflow" s_overflow f fd) : FnOk P w K mg base CX0 5 f fd ["joints", "letters", "weight", "hyphen", "room", "first"] (sp_overflow C) :=
  F.ok sc_overflow (fun vs H Q E h => by
    obtain ⟨_, _, _, _, _, _, _, _, rfl, _⟩ := h
    rfl) fun cdv A outer s H vs Q E hr h => ⟨_, w_overflow hr B G C_joint_table C_letter_on C_is_new C_can_end, rd_overflow h⟩
theorem b_overflow {f : Addr} {fd : FuncData} (F : Fun K "overflow" "overflow" s_overflow f fd) : KBinds K fd ["joints", "letters", "weight", "hyphen", "room", "first"] ["hyphen", "room", "first"] gK gK := by
  obtain ⟨oc, od, kV, doc, pm, an, cdv, ct, osl, rfl, lk, hcd⟩ := F.ex
  refine ⟨fun s us ws _ hl => ?_, fun {vs us zs ws} h1 h2 => ?_⟩
  · unfold gK at hl ⊢
    by_cases c : us.length = 3 ∧ ws.length = 3
    · rw [if_pos c]
      obtain ⟨c1, c2⟩ := c
      match us, ws, c1, c2 with
      | [_, _, _], [_, _, _], _, _ => exact .of_eq rfl
    · rw [if_neg c] at hl
      cases hl
  · have l1 := h1.length
    have l2 := h2.length
    unfold gK
    by_cases c : vs.length = 3 ∧ zs.length = 3
    · rw [if_pos c, if_pos ⟨by omega, by omega⟩]
      exact vals_app h1 h2
    · rw [if_neg c, if_neg fun z => c ⟨by omega, by omega⟩]
      exact .nil
theorem k_law_cell (B : Bl mg) (G : Gb mg tN tL) (J : ClJ K C)  {f : Addr} {fd : FuncData} (F : Fun K "_law_cell" "_law_cell" s_law_cell f fd) : FnOk P w K mg base CX0 1 f fd ["_law_script", "_law_k"] (sp_cell K) :=
  F.ok sc_law_cell (fun vs H Q E h => by
    obtain ⟨_, _, _, rfl, _⟩ := h
    rfl) fun cdv A outer s H vs Q E hr h => ⟨_, w_law_cell hr B G , rd_cell h⟩
theorem b_law_cell {f : Addr} {fd : FuncData} (F : Fun K "_law_cell" "_law_cell" s_law_cell f fd) : Binds K fd ["_law_script", "_law_k"] [] := F.binds (ps := ["_law_script", "_law_k"]) fun _ _ _ _ _ _ us hl => match us, hl with | [_, _], _ => rfl
theorem k_law_row (B : Bl mg) (G : Gb mg tN tL) (J : ClJ K C)  {f : Addr} {fd : FuncData} (F : Fun K "_law_row" "_law_row" s_law_row f fd) : FnOk P w K mg base CX0 1 f fd ["_law_cell_here", "_law_limits"] sp_row :=
  F.ok sc_law_row (fun vs H Q E h => by
    obtain ⟨_, _, _, rfl, _⟩ := h
    rfl) fun cdv A outer s H vs Q E hr h => ⟨_, w_law_row hr B G , rd_row h⟩
theorem b_law_row {f : Addr} {fd : FuncData} (F : Fun K "_law_row" "_law_row" s_law_row f fd) : Binds K fd ["_law_cell_here", "_law_limits"] [] := F.binds (ps := ["_law_cell_here", "_law_limits"]) fun _ _ _ _ _ _ us hl => match us, hl with | [_, _], _ => rfl
theorem k_law_letters (B : Bl mg) (G : Gb mg tN tL) (J : ClJ K C) (C_law_row : Cal P w K mg base "_law_row" 1 ["_law_cell_here", "_law_limits"] sp_row) {f : Addr} {fd : FuncData} (F : Fun K "_law_letters" "_law_letters" s_law_letters f fd) : FnOk P w K mg base CX0 2 f fd ["_law_cell_here"] sp_letters :=
  F.ok sc_law_letters (fun vs H Q E h => by
    obtain ⟨_, rfl, _⟩ := h
    rfl) fun cdv A outer s H vs Q E hr h => ⟨_, w_law_letters hr B G C_law_row, rd_letters h⟩
theorem b_law_letters {f : Addr} {fd : FuncData} (F : Fun K "_law_letters" "_law_letters" s_law_letters f fd) : Binds K fd ["_law_cell_here"] [] := F.binds (ps := ["_law_cell_here"]) fun _ _ _ _ _ _ us hl => match us, hl with | [_], _ => rfl
theorem k_law_joint (B : Bl mg) (G : Gb mg tN tL) (J : ClJ K C) (C_law_row : Cal P w K mg base "_law_row" 1 ["_law_cell_here", "_law_limits"] sp_row) {f : Addr} {fd : FuncData} (F : Fun K "_law_joint" "_law_joint" s_law_joint f fd) : FnOk P w K mg base CX0 2 f fd ["_law_cell_here", "_law_letters_here", "_law_share"] sp_joint :=
  F.ok sc_law_joint (fun vs H Q E h => by
    obtain ⟨_, _, _, rfl, _⟩ := h
    rfl) fun cdv A outer s H vs Q E hr h => ⟨_, w_law_joint hr B G C_law_row, rd_joint h⟩
theorem b_law_joint {f : Addr} {fd : FuncData} (F : Fun K "_law_joint" "_law_joint" s_law_joint f fd) : Binds K fd ["_law_cell_here", "_law_letters_here", "_law_share"] [] := F.binds (ps := ["_law_cell_here", "_law_letters_here", "_law_share"]) fun _ _ _ _ _ _ us hl => match us, hl with | [_, _, _], _ => rfl
theorem k_law_written (B : Bl mg) (G : Gb mg tN tL) (J : ClJ K C)  {f : Addr} {fd : FuncData} (F : Fun K "_law_written" "_law_written" s_law_written f fd) : FnOk P w K mg base CX0 1 f fd ["_law_row_here"] sp_written :=
  F.ok sc_law_written (fun vs H Q E h => by
    obtain ⟨_, _, rfl, _⟩ := h
    rfl) fun cdv A outer s H vs Q E hr h => ⟨_, w_law_written hr B G , rd_written h⟩
theorem b_law_written {f : Addr} {fd : FuncData} (F : Fun K "_law_written" "_law_written" s_law_written f fd) : Binds K fd ["_law_row_here"] [] := F.binds (ps := ["_law_row_here"]) fun _ _ _ _ _ _ us hl => match us, hl with | [_], _ => rfl
theorem k_law_list (B : Bl mg) (G : Gb mg tN tL) (J : ClJ K C) (C_law_cell : Cal P w K mg base "_law_cell" 1 ["_law_script", "_law_k"] (sp_cell K)) (C_law_row : Cal P w K mg base "_law_row" 1 ["_law_cell_here", "_law_limits"] sp_row) (C_law_joint : Cal P w K mg base "_law_joint" 2 ["_law_cell_here", "_law_letters_here", "_law_share"] sp_joint) {f : Addr} {fd : FuncData} (F : Fun K "_law_list" "_law_list" s_law_list f fd) : FnOk P w K mg base CX0 3 f fd ["_law_script", "_law_at", "_law_letters_here"] (sp_list K) :=
  F.ok sc_law_list (fun vs H Q E h => by
    obtain ⟨_, _, _, _, rfl, _⟩ := h
    rfl) fun cdv A outer s H vs Q E hr h => ⟨_, w_law_list hr B G C_law_cell C_law_row C_law_joint, rd_list h⟩
theorem b_law_list {f : Addr} {fd : FuncData} (F : Fun K "_law_list" "_law_list" s_law_list f fd) : Binds K fd ["_law_script", "_law_at", "_law_letters_here"] [] := F.binds (ps := ["_law_script", "_law_at", "_law_letters_here"]) fun _ _ _ _ _ _ us hl => match us, hl with | [_, _, _], _ => rfl
theorem k_law_says (B : Bl mg) (G : Gb mg tN tL) (J : ClJ K C)  {f : Addr} {fd : FuncData} (F : Fun K "_law_says" "_law_says" s_law_says f fd) : FnOk P w K mg base CX0 1 f fd ["_law_part", "_law_text"] sp_law_says :=
  F.ok sc_law_says (fun vs H Q E h => by
    obtain ⟨_, _, rfl, _⟩ := h
    rfl) fun cdv A outer s H vs Q E hr h => ⟨_, w_law_says hr B G , rd_law_says h⟩
theorem b_law_says {f : Addr} {fd : FuncData} (F : Fun K "_law_says" "_law_says" s_law_says f fd) : Binds K fd ["_law_part", "_law_text"] [] := F.binds (ps := ["_law_part", "_law_text"]) fun _ _ _ _ _ _ us hl => match us, hl with | [_, _], _ => rfl
theorem k_law_fits (B : Bl mg) (G : Gb mg tN tL) (J : ClJ K C) (C_law_says : Cal P w K mg base "_law_says" 1 ["_law_part", "_law_text"] sp_law_says) {f : Addr} {fd : FuncData} (F : Fun K "_law_fits" "_law_fits" s_law_fits f fd) : FnOk P w K mg base CX0 2 f fd ["_law_row_here", "_law_word_here", "_law_gap"] sp_law_fits :=
  F.ok sc_law_fits (fun vs H Q E h => by
    obtain ⟨_, _, _, _, rfl, _⟩ := h
    rfl) fun cdv A outer s H vs Q E hr h => ⟨_, w_law_fits hr B G C_law_says, rd_law_fits h⟩
theorem b_law_fits {f : Addr} {fd : FuncData} (F : Fun K "_law_fits" "_law_fits" s_law_fits f fd) : Binds K fd ["_law_row_here", "_law_word_here", "_law_gap"] [] := F.binds (ps := ["_law_row_here", "_law_word_here", "_law_gap"]) fun _ _ _ _ _ _ us hl => match us, hl with | [_, _, _], _ => rfl
theorem k_law_is_joint (B : Bl mg) (G : Gb mg tN tL) (J : ClJ K C) (C_law_fits : Cal P w K mg base "_law_fits" 2 ["_law_row_here", "_law_word_here", "_law_gap"] sp_law_fits) {f : Addr} {fd : FuncData} (F : Fun K "_law_is_joint" "_law_is_joint" s_law_is_joint f fd) : FnOk P w K mg base CX0 3 f fd ["_law_rows", "_law_word_here", "_law_gap"] sp_law_is_joint :=
  F.ok sc_law_is_joint (fun vs H Q E h => by
    obtain ⟨_, _, _, _, rfl, _⟩ := h
    rfl) fun cdv A outer s H vs Q E hr h => ⟨_, w_law_is_joint hr B G C_law_fits, rd_law_is_joint h⟩
theorem b_law_is_joint {f : Addr} {fd : FuncData} (F : Fun K "_law_is_joint" "_law_is_joint" s_law_is_joint f fd) : Binds K fd ["_law_rows", "_law_word_here", "_law_gap"] [] := F.binds (ps := ["_law_rows", "_law_word_here", "_law_gap"]) fun _ _ _ _ _ _ us hl => match us, hl with | [_, _, _], _ => rfl
theorem k_law_word (B : Bl mg) (G : Gb mg tN tL) (J : ClJ K C) (C_law_row : Cal P w K mg base "_law_row" 1 ["_law_cell_here", "_law_limits"] sp_row) {f : Addr} {fd : FuncData} (F : Fun K "_law_word" "_law_word" s_law_word f fd) : FnOk P w K mg base CX0 2 f fd ["_law_cell_here", "_law_letters_here"] sp_word :=
  F.ok sc_law_word (fun vs H Q E h => by
    obtain ⟨_, _, rfl, _⟩ := h
    rfl) fun cdv A outer s H vs Q E hr h => ⟨_, w_law_word hr B G C_law_row, rd_word h⟩
theorem b_law_word {f : Addr} {fd : FuncData} (F : Fun K "_law_word" "_law_word" s_law_word f fd) : Binds K fd ["_law_cell_here", "_law_letters_here"] [] := F.binds (ps := ["_law_cell_here", "_law_letters_here"]) fun _ _ _ _ _ _ us hl => match us, hl with | [_, _], _ => rfl
theorem k_law_numbers (B : Bl mg) (G : Gb mg tN tL) (J : ClJ K C) (C_law_row : Cal P w K mg base "_law_row" 1 ["_law_cell_here", "_law_limits"] sp_row) {f : Addr} {fd : FuncData} (F : Fun K "_law_numbers" "_law_numbers" s_law_numbers f fd) : FnOk P w K mg base CX0 2 f fd ["_law_cell_here", "_law_letters_here"] sp_numbers :=
  F.ok sc_law_numbers (fun vs H Q E h => by
    obtain ⟨_, _, rfl, _⟩ := h
    rfl) fun cdv A outer s H vs Q E hr h => ⟨_, w_law_numbers hr B G C_law_row, rd_numbers h⟩
theorem b_law_numbers {f : Addr} {fd : FuncData} (F : Fun K "_law_numbers" "_law_numbers" s_law_numbers f fd) : Binds K fd ["_law_cell_here", "_law_letters_here"] [] := F.binds (ps := ["_law_cell_here", "_law_letters_here"]) fun _ _ _ _ _ _ us hl => match us, hl with | [_, _], _ => rfl
theorem k_law_can_be_set (B : Bl mg) (G : Gb mg tN tL) (J : ClJ K C) (C_law_is_joint : Cal P w K mg base "_law_is_joint" 3 ["_law_rows", "_law_word_here", "_law_gap"] sp_law_is_joint) {f : Addr} {fd : FuncData} (F : Fun K "_law_can_be_set" "_law_can_be_set" s_law_can_be_set f fd) : FnOk P w K mg base CX0 4 f fd ["_law_rows", "_law_word_here", "_law_weight", "_law_numbers_here"] sp_can_be_set :=
  F.ok sc_law_can_be_set (fun vs H Q E h => by
    obtain ⟨_, _, _, _, _, _, _, _, _, _, rfl, _⟩ := h
    rfl) fun cdv A outer s H vs Q E hr h => ⟨_, w_law_can_be_set hr B G C_law_is_joint, rd_can_be_set h⟩
theorem b_law_can_be_set {f : Addr} {fd : FuncData} (F : Fun K "_law_can_be_set" "_law_can_be_set" s_law_can_be_set f fd) : Binds K fd ["_law_rows", "_law_word_here", "_law_weight", "_law_numbers_here"] [] := F.binds (ps := ["_law_rows", "_law_word_here", "_law_weight", "_law_numbers_here"]) fun _ _ _ _ _ _ us hl => match us, hl with | [_, _, _, _], _ => rfl
theorem k_law_short_words (B : Bl mg) (G : Gb mg tN tL) (J : ClJ K C)  {f : Addr} {fd : FuncData} (F : Fun K "_law_short_words" "_law_short_words" s_law_short_words f fd) : FnOk P w K mg base CX0 1 f fd ["_law_letters_here"] sp_short_words :=
  F.ok sc_law_short_words (fun vs H Q E h => by
    obtain ⟨_, rfl, _⟩ := h
    rfl) fun cdv A outer s H vs Q E hr h => ⟨_, w_law_short_words hr B G , rd_short_words h⟩
theorem b_law_short_words {f : Addr} {fd : FuncData} (F : Fun K "_law_short_words" "_law_short_words" s_law_short_words f fd) : Binds K fd ["_law_letters_here"] [] := F.binds (ps := ["_law_letters_here"]) fun _ _ _ _ _ _ us hl => match us, hl with | [_], _ => rfl
theorem k_law_is_ahead (B : Bl mg) (G : Gb mg tN tL) (J : ClJ K C)  {f : Addr} {fd : FuncData} (F : Fun K "_law_is_ahead" "_law_is_ahead" s_law_is_ahead f fd) : FnOk P w K mg base CX0 1 f fd ["_law_one", "_law_two"] sp_is_ahead :=
  F.ok sc_law_is_ahead (fun vs H Q E h => by
    obtain ⟨_, _, rfl, _⟩ := h
    rfl) fun cdv A outer s H vs Q E hr h => ⟨_, w_law_is_ahead hr B G , rd_is_ahead h⟩
theorem b_law_is_ahead {f : Addr} {fd : FuncData} (F : Fun K "_law_is_ahead" "_law_is_ahead" s_law_is_ahead f fd) : Binds K fd ["_law_one", "_law_two"] [] := F.binds (ps := ["_law_one", "_law_two"]) fun _ _ _ _ _ _ us hl => match us, hl with | [_, _], _ => rfl
theorem k_law_near (B : Bl mg) (G : Gb mg tN tL) (J : ClJ K C)  {f : Addr} {fd : FuncData} (F : Fun K "_law_near" "_law_near" s_law_near f fd) : FnOk P w K mg base CX0 1 f fd ["_law_word_here", "_law_letters_here"] sp_near :=
  F.ok sc_law_near (fun vs H Q E h => by
    obtain ⟨_, _, rfl, _⟩ := h
    rfl) fun cdv A outer s H vs Q E hr h => ⟨_, w_law_near hr B G , rd_near h⟩
theorem b_law_near {f : Addr} {fd : FuncData} (F : Fun K "_law_near" "_law_near" s_law_near f fd) : Binds K fd ["_law_word_here", "_law_letters_here"] [] := F.binds (ps := ["_law_word_here", "_law_letters_here"]) fun _ _ _ _ _ _ us hl => match us, hl with | [_, _], _ => rfl
theorem k_law_is_word (B : Bl mg) (G : Gb mg tN tL) (J : ClJ K C)  {f : Addr} {fd : FuncData} (F : Fun K "_law_is_word" "_law_is_word" s_law_is_word f fd) : FnOk P w K mg base CX0 1 f fd ["_law_told", "_law_letters_here"] sp_is_word :=
  F.ok sc_law_is_word (fun vs H Q E h => by
    obtain ⟨_, _, rfl, _⟩ := h
    rfl) fun cdv A outer s H vs Q E hr h => ⟨_, w_law_is_word hr B G , rd_is_word h⟩
theorem b_law_is_word {f : Addr} {fd : FuncData} (F : Fun K "_law_is_word" "_law_is_word" s_law_is_word f fd) : Binds K fd ["_law_told", "_law_letters_here"] [] := F.binds (ps := ["_law_told", "_law_letters_here"]) fun _ _ _ _ _ _ us hl => match us, hl with | [_, _], _ => rfl
theorem k_law_holds (B : Bl mg) (G : Gb mg tN tL) (J : ClJ K C) (C_law_is_word : Cal P w K mg base "_law_is_word" 1 ["_law_told", "_law_letters_here"] sp_is_word) (C_law_can_be_set : Cal P w K mg base "_law_can_be_set" 4 ["_law_rows", "_law_word_here", "_law_weight", "_law_numbers_here"] sp_can_be_set) (C_law_near : Cal P w K mg base "_law_near" 1 ["_law_word_here", "_law_letters_here"] sp_near) (C_law_is_ahead : Cal P w K mg base "_law_is_ahead" 1 ["_law_one", "_law_two"] sp_is_ahead) {f : Addr} {fd : FuncData} (F : Fun K "_law_holds" "_law_holds" s_law_holds f fd) : FnOk P w K mg base CX0 5 f fd ["_law_told", "_law_rows", "_law_letters_here", "_law_weight", "_law_numbers_here", "_law_words"] sp_holds :=
  F.ok sc_law_holds (fun vs H Q E h => by
    obtain ⟨_, _, _, _, _, _, _, _, _, _, _, _, rfl, _⟩ := h
    rfl) fun cdv A outer s H vs Q E hr h => ⟨_, w_law_holds hr B G C_law_is_word C_law_can_be_set C_law_near C_law_is_ahead, rd_holds h⟩
theorem b_law_holds {f : Addr} {fd : FuncData} (F : Fun K "_law_holds" "_law_holds" s_law_holds f fd) : Binds K fd ["_law_told", "_law_rows", "_law_letters_here", "_law_weight", "_law_numbers_here", "_law_words"] [] := F.binds (ps := ["_law_told", "_law_rows", "_law_letters_here", "_law_weight", "_law_numbers_here", "_law_words"]) fun _ _ _ _ _ _ us hl => match us, hl with | [_, _, _, _, _, _], _ => rfl
theorem k_law_overflow (B : Bl mg) (G : Gb mg tN tL) (J : ClJ K C) (C_overflow : CalK P w K mg base "overflow" 5 ["joints", "letters", "weight", "hyphen", "room", "first"] ["hyphen", "room", "first"] (sp_overflow C)) {f : Addr} {fd : FuncData} (F : Fun K "_law_overflow" "_law_overflow" s_law_overflow f fd) : FnOk P w K mg base CX0 6 f fd ["_law_joints", "_law_letters_here", "_law_weight", "_law_numbers_here"] (sp_law_overflow C) :=
  F.ok sc_law_overflow (fun vs H Q E h => by
    obtain ⟨_, _, _, _, _, _, _, _, _, rfl, _⟩ := h
    rfl) fun cdv A outer s H vs Q E hr h => ⟨_, w_law_overflow hr B G C_overflow, rd_law_overflow h⟩
theorem b_law_overflow {f : Addr} {fd : FuncData} (F : Fun K "_law_overflow" "_law_overflow" s_law_overflow f fd) : Binds K fd ["_law_joints", "_law_letters_here", "_law_weight", "_law_numbers_here"] [] := F.binds (ps := ["_law_joints", "_law_letters_here", "_law_weight", "_law_numbers_here"]) fun _ _ _ _ _ _ us hl => match us, hl with | [_, _, _, _], _ => rfl
theorem k_law (B : Bl mg) (G : Gb mg tN tL) (J : ClJ K C) (C_law_cell : Cal P w K mg base "_law_cell" 1 ["_law_script", "_law_k"] (sp_cell K)) (C_law_letters : Cal P w K mg base "_law_letters" 2 ["_law_cell_here"] sp_letters) (C_law_list : Cal P w K mg base "_law_list" 3 ["_law_script", "_law_at", "_law_letters_here"] (sp_list K)) (C_law_written : Cal P w K mg base "_law_written" 1 ["_law_row_here"] sp_written) (C_law_numbers : Cal P w K mg base "_law_numbers" 2 ["_law_cell_here", "_law_letters_here"] sp_numbers) (C_law_word : Cal P w K mg base "_law_word" 2 ["_law_cell_here", "_law_letters_here"] sp_word) (C_law_overflow : Cal P w K mg base "_law_overflow" 6 ["_law_joints", "_law_letters_here", "_law_weight", "_law_numbers_here"] (sp_law_overflow C)) (C_law_short_words : Cal P w K mg base "_law_short_words" 1 ["_law_letters_here"] sp_short_words) (C_law_holds : Cal P w K mg base "_law_holds" 5 ["_law_told", "_law_rows", "_law_letters_here", "_law_weight", "_law_numbers_here", "_law_words"] sp_holds) (C_heaviest_syllable : Cal P w K mg base "heaviest_syllable" 5 ["joints", "letters", "weight"] (sp_heaviest C)) (C_law_row : Cal P w K mg base "_law_row" 1 ["_law_cell_here", "_law_limits"] sp_row) (ZJ : CalC P w K mg base C "Joints" 3 ["self", "lines"] (sp_init C)) {f : Addr} {fd : FuncData} (F : Fun K "law" "law" s_law f fd) : FnOk P w K mg base CX0 7 f fd ["_law_script"] (sp_law K) :=
  F.ok sc_law (fun vs H Q E h => by
    obtain ⟨_, _, rfl, _⟩ := h
    rfl) fun cdv A outer s H vs Q E hr h => ⟨_, w_law hr B G C_law_cell C_law_letters C_law_list C_law_written C_law_numbers C_law_word C_law_overflow C_law_short_words C_law_holds C_heaviest_syllable C_law_row ZJ, rd_law h⟩
theorem b_law {f : Addr} {fd : FuncData} (F : Fun K "law" "law" s_law f fd) : Binds K fd ["_law_script"] [] := F.binds (ps := ["_law_script"]) fun _ _ _ _ _ _ us hl => match us, hl with | [_], _ => rfl
theorem k_all (B : Bl mg) (G : Gb mg tN tL) (J : ClJ K C) (gJ : mg "Joints" = some (.ref C))
    {f_sides : Addr} {d_sides : FuncData} (F_sides : Fun K "sides" "sides" s_sides f_sides d_sides) (m_sides : mg "sides" = some (.ref f_sides))
    {f_is_part : Addr} {d_is_part : FuncData} (F_is_part : Fun K "is_part" "is_part" s_is_part f_is_part d_is_part) (m_is_part : mg "is_part" = some (.ref f_is_part))
    {f_read_joint : Addr} {d_read_joint : FuncData} (F_read_joint : Fun K "read_joint" "read_joint" s_read_joint f_read_joint d_read_joint) (m_read_joint : mg "read_joint" = some (.ref f_read_joint))
    {f_stands_for : Addr} {d_stands_for : FuncData} (F_stands_for : Fun K "stands_for" "stands_for" s_stands_for f_stands_for d_stands_for) (m_stands_for : mg "stands_for" = some (.ref f_stands_for))
    {f_Joints_decider : Addr} {d_Joints_decider : FuncData} (F_Joints_decider : Fun K "decider" "Joints.decider" s_Joints_decider f_Joints_decider d_Joints_decider)
    {f_Joints_is_joint : Addr} {d_Joints_is_joint : FuncData} (F_Joints_is_joint : Fun K "is_joint" "Joints.is_joint" s_Joints_is_joint f_Joints_is_joint d_Joints_is_joint)
    {f_Joints_init : Addr} {d_Joints_init : FuncData} (F_Joints_init : Fun K "__init__" "Joints.__init__" s_Joints_init f_Joints_init d_Joints_init)
    {f_joint_table : Addr} {d_joint_table : FuncData} (F_joint_table : Fun K "joint_table" "joint_table" s_joint_table f_joint_table d_joint_table) (m_joint_table : mg "joint_table" = some (.ref f_joint_table))
    {f_next_gaps : Addr} {d_next_gaps : FuncData} (F_next_gaps : Fun K "next_gaps" "next_gaps" s_next_gaps f_next_gaps d_next_gaps) (m_next_gaps : mg "next_gaps" = some (.ref f_next_gaps))
    {f_best_tail : Addr} {d_best_tail : FuncData} (F_best_tail : Fun K "best_tail" "best_tail" s_best_tail f_best_tail d_best_tail) (m_best_tail : mg "best_tail" = some (.ref f_best_tail))
    {f_heaviest_tails : Addr} {d_heaviest_tails : FuncData} (F_heaviest_tails : Fun K "heaviest_tails" "heaviest_tails" s_heaviest_tails f_heaviest_tails d_heaviest_tails) (m_heaviest_tails : mg "heaviest_tails" = some (.ref f_heaviest_tails))
    {f_heaviest_syllable : Addr} {d_heaviest_syllable : FuncData} (F_heaviest_syllable : Fun K "heaviest_syllable" "heaviest_syllable" s_heaviest_syllable f_heaviest_syllable d_heaviest_syllable) (m_heaviest_syllable : mg "heaviest_syllable" = some (.ref f_heaviest_syllable))
    {f_letter_on : Addr} {d_letter_on : FuncData} (F_letter_on : Fun K "letter_on" "letter_on" s_letter_on f_letter_on d_letter_on) (m_letter_on : mg "letter_on" = some (.ref f_letter_on))
    {f_can_end : Addr} {d_can_end : FuncData} (F_can_end : Fun K "can_end" "can_end" s_can_end f_can_end d_can_end) (m_can_end : mg "can_end" = some (.ref f_can_end))
    {f_is_new : Addr} {d_is_new : FuncData} (F_is_new : Fun K "is_new" "is_new" s_is_new f_is_new d_is_new) (m_is_new : mg "is_new" = some (.ref f_is_new))
    {f_overflow : Addr} {d_overflow : FuncData} (F_overflow : Fun K "overflow" "overflow" s_overflow f_overflow d_overflow) (m_overflow : mg "overflow" = some (.ref f_overflow))
    {f_law_cell : Addr} {d_law_cell : FuncData} (F_law_cell : Fun K "_law_cell" "_law_cell" s_law_cell f_law_cell d_law_cell) (m_law_cell : mg "_law_cell" = some (.ref f_law_cell))
    {f_law_row : Addr} {d_law_row : FuncData} (F_law_row : Fun K "_law_row" "_law_row" s_law_row f_law_row d_law_row) (m_law_row : mg "_law_row" = some (.ref f_law_row))
    {f_law_letters : Addr} {d_law_letters : FuncData} (F_law_letters : Fun K "_law_letters" "_law_letters" s_law_letters f_law_letters d_law_letters) (m_law_letters : mg "_law_letters" = some (.ref f_law_letters))
    {f_law_joint : Addr} {d_law_joint : FuncData} (F_law_joint : Fun K "_law_joint" "_law_joint" s_law_joint f_law_joint d_law_joint) (m_law_joint : mg "_law_joint" = some (.ref f_law_joint))
    {f_law_written : Addr} {d_law_written : FuncData} (F_law_written : Fun K "_law_written" "_law_written" s_law_written f_law_written d_law_written) (m_law_written : mg "_law_written" = some (.ref f_law_written))
    {f_law_list : Addr} {d_law_list : FuncData} (F_law_list : Fun K "_law_list" "_law_list" s_law_list f_law_list d_law_list) (m_law_list : mg "_law_list" = some (.ref f_law_list))
    {f_law_says : Addr} {d_law_says : FuncData} (F_law_says : Fun K "_law_says" "_law_says" s_law_says f_law_says d_law_says) (m_law_says : mg "_law_says" = some (.ref f_law_says))
    {f_law_fits : Addr} {d_law_fits : FuncData} (F_law_fits : Fun K "_law_fits" "_law_fits" s_law_fits f_law_fits d_law_fits) (m_law_fits : mg "_law_fits" = some (.ref f_law_fits))
    {f_law_is_joint : Addr} {d_law_is_joint : FuncData} (F_law_is_joint : Fun K "_law_is_joint" "_law_is_joint" s_law_is_joint f_law_is_joint d_law_is_joint) (m_law_is_joint : mg "_law_is_joint" = some (.ref f_law_is_joint))
    {f_law_word : Addr} {d_law_word : FuncData} (F_law_word : Fun K "_law_word" "_law_word" s_law_word f_law_word d_law_word) (m_law_word : mg "_law_word" = some (.ref f_law_word))
    {f_law_numbers : Addr} {d_law_numbers : FuncData} (F_law_numbers : Fun K "_law_numbers" "_law_numbers" s_law_numbers f_law_numbers d_law_numbers) (m_law_numbers : mg "_law_numbers" = some (.ref f_law_numbers))
    {f_law_can_be_set : Addr} {d_law_can_be_set : FuncData} (F_law_can_be_set : Fun K "_law_can_be_set" "_law_can_be_set" s_law_can_be_set f_law_can_be_set d_law_can_be_set) (m_law_can_be_set : mg "_law_can_be_set" = some (.ref f_law_can_be_set))
    {f_law_short_words : Addr} {d_law_short_words : FuncData} (F_law_short_words : Fun K "_law_short_words" "_law_short_words" s_law_short_words f_law_short_words d_law_short_words) (m_law_short_words : mg "_law_short_words" = some (.ref f_law_short_words))
    {f_law_is_ahead : Addr} {d_law_is_ahead : FuncData} (F_law_is_ahead : Fun K "_law_is_ahead" "_law_is_ahead" s_law_is_ahead f_law_is_ahead d_law_is_ahead) (m_law_is_ahead : mg "_law_is_ahead" = some (.ref f_law_is_ahead))
    {f_law_near : Addr} {d_law_near : FuncData} (F_law_near : Fun K "_law_near" "_law_near" s_law_near f_law_near d_law_near) (m_law_near : mg "_law_near" = some (.ref f_law_near))
    {f_law_is_word : Addr} {d_law_is_word : FuncData} (F_law_is_word : Fun K "_law_is_word" "_law_is_word" s_law_is_word f_law_is_word d_law_is_word) (m_law_is_word : mg "_law_is_word" = some (.ref f_law_is_word))
    {f_law_holds : Addr} {d_law_holds : FuncData} (F_law_holds : Fun K "_law_holds" "_law_holds" s_law_holds f_law_holds d_law_holds) (m_law_holds : mg "_law_holds" = some (.ref f_law_holds))
    {f_law_overflow : Addr} {d_law_overflow : FuncData} (F_law_overflow : Fun K "_law_overflow" "_law_overflow" s_law_overflow f_law_overflow d_law_overflow) (m_law_overflow : mg "_law_overflow" = some (.ref f_law_overflow))
    {f_law : Addr} {d_law : FuncData} (F_law : Fun K "law" "law" s_law f_law d_law)
    (M_decider : Meth K C "decider" f_Joints_decider) (M_is_joint : Meth K C "is_joint" f_Joints_is_joint) (MK : Mk K C f_Joints_init) :
    FnOk P w K mg base CX0 7 f_law d_law ["_law_script"] (sp_law K) := by
  have C_sides : Cal P w K mg base "sides" 1 ["letters"] sp_sides := ⟨_, _, k_sides (P := P) (w := w) (base := base) B G J  F_sides, m_sides, F_sides.kp, b_sides F_sides⟩
  have C_is_part : Cal P w K mg base "is_part" 1 ["text", "dot"] sp_is_part := ⟨_, _, k_is_part (P := P) (w := w) (base := base) B G J  F_is_part, m_is_part, F_is_part.kp, b_is_part F_is_part⟩
  have C_read_joint : Cal P w K mg base "read_joint" 2 ["line"] sp_read_joint := ⟨_, _, k_read_joint (P := P) (w := w) (base := base) B G J C_is_part F_read_joint, m_read_joint, F_read_joint.kp, b_read_joint F_read_joint⟩
  have C_stands_for : Cal P w K mg base "stands_for" 1 ["part", "text"] sp_stands_for := ⟨_, _, k_stands_for (P := P) (w := w) (base := base) B G J  F_stands_for, m_stands_for, F_stands_for.kp, b_stands_for F_stands_for⟩
  have C_Joints_decider : CalM P w K mg base C "decider" 2 ["self", "word", "gap"] (sp_decider C) := ⟨_, _, k_Joints_decider (P := P) (w := w) (base := base) B G J C_stands_for F_Joints_decider, M_decider, b_Joints_decider F_Joints_decider⟩
  have C_Joints_is_joint : CalM P w K mg base C "is_joint" 3 ["self", "word", "gap"] (sp_is_joint C) := ⟨_, _, k_Joints_is_joint (P := P) (w := w) (base := base) B G J  C_Joints_decider F_Joints_is_joint, M_is_joint, b_Joints_is_joint F_Joints_is_joint⟩
  have C_Joints_init : CalC P w K mg base C "Joints" 3 ["self", "lines"] (sp_init C) := ⟨_, _, k_Joints_init (P := P) (w := w) (base := base) B G J C_read_joint gJ F_Joints_init, gJ, MK, b_Joints_init F_Joints_init⟩
  have C_joint_table : Cal P w K mg base "joint_table" 4 ["joints", "letters"] (sp_joint_table C) := ⟨_, _, k_joint_table (P := P) (w := w) (base := base) B G J C_sides  C_Joints_is_joint F_joint_table, m_joint_table, F_joint_table.kp, b_joint_table F_joint_table⟩
  have C_next_gaps : Cal P w K mg base "next_gaps" 1 ["pair", "letters"] sp_next_gaps := ⟨_, _, k_next_gaps (P := P) (w := w) (base := base) B G J  F_next_gaps, m_next_gaps, F_next_gaps.kp, b_next_gaps F_next_gaps⟩
  have C_best_tail : Cal P w K mg base "best_tail" 2 ["pair", "table", "tails", "letters", "weight"] sp_best_tail := ⟨_, _, k_best_tail (P := P) (w := w) (base := base) B G J C_next_gaps F_best_tail, m_best_tail, F_best_tail.kp, b_best_tail F_best_tail⟩
  have C_heaviest_tails : Cal P w K mg base "heaviest_tails" 3 ["table", "letters", "weight"] sp_heaviest_tails := ⟨_, _, k_heaviest_tails (P := P) (w := w) (base := base) B G J C_best_tail F_heaviest_tails, m_heaviest_tails, F_heaviest_tails.kp, b_heaviest_tails F_heaviest_tails⟩
  have C_heaviest_syllable : Cal P w K mg base "heaviest_syllable" 5 ["joints", "letters", "weight"] (sp_heaviest C) := ⟨_, _, k_heaviest_syllable (P := P) (w := w) (base := base) B G J C_joint_table C_heaviest_tails C_sides C_best_tail F_heaviest_syllable, m_heaviest_syllable, F_heaviest_syllable.kp, b_heaviest_syllable F_heaviest_syllable⟩
  have C_letter_on : Cal P w K mg base "letter_on" 1 ["word", "at", "state", "table", "weight", "limits"] sp_letter_on := ⟨_, _, k_letter_on (P := P) (w := w) (base := base) B G J  F_letter_on, m_letter_on, F_letter_on.kp, b_letter_on F_letter_on⟩
  have C_can_end : Cal P w K mg base "can_end" 2 ["word", "state", "table", "weight", "limits"] sp_can_end := ⟨_, _, k_can_end (P := P) (w := w) (base := base) B G J C_letter_on F_can_end, m_can_end, F_can_end.kp, b_can_end F_can_end⟩
  have C_is_new : Cal P w K mg base "is_new" 1 ["kept", "tail", "state"] sp_is_new := ⟨_, _, k_is_new (P := P) (w := w) (base := base) B G J  F_is_new, m_is_new, F_is_new.kp, b_is_new F_is_new⟩
  have C_overflow : CalK P w K mg base "overflow" 5 ["joints", "letters", "weight", "hyphen", "room", "first"] ["hyphen", "room", "first"] (sp_overflow C) := ⟨_, _, k_overflow (P := P) (w := w) (base := base) B G J C_joint_table C_letter_on C_is_new C_can_end F_overflow, m_overflow, F_overflow.kp, b_overflow F_overflow⟩
  have C_law_cell : Cal P w K mg base "_law_cell" 1 ["_law_script", "_law_k"] (sp_cell K) := ⟨_, _, k_law_cell (P := P) (w := w) (base := base) B G J  F_law_cell, m_law_cell, F_law_cell.kp, b_law_cell F_law_cell⟩
  have C_law_row : Cal P w K mg base "_law_row" 1 ["_law_cell_here", "_law_limits"] sp_row := ⟨_, _, k_law_row (P := P) (w := w) (base := base) B G J  F_law_row, m_law_row, F_law_row.kp, b_law_row F_law_row⟩
  have C_law_letters : Cal P w K mg base "_law_letters" 2 ["_law_cell_here"] sp_letters := ⟨_, _, k_law_letters (P := P) (w := w) (base := base) B G J C_law_row F_law_letters, m_law_letters, F_law_letters.kp, b_law_letters F_law_letters⟩
  have C_law_joint : Cal P w K mg base "_law_joint" 2 ["_law_cell_here", "_law_letters_here", "_law_share"] sp_joint := ⟨_, _, k_law_joint (P := P) (w := w) (base := base) B G J C_law_row F_law_joint, m_law_joint, F_law_joint.kp, b_law_joint F_law_joint⟩
  have C_law_written : Cal P w K mg base "_law_written" 1 ["_law_row_here"] sp_written := ⟨_, _, k_law_written (P := P) (w := w) (base := base) B G J  F_law_written, m_law_written, F_law_written.kp, b_law_written F_law_written⟩
  have C_law_list : Cal P w K mg base "_law_list" 3 ["_law_script", "_law_at", "_law_letters_here"] (sp_list K) := ⟨_, _, k_law_list (P := P) (w := w) (base := base) B G J C_law_cell C_law_row C_law_joint F_law_list, m_law_list, F_law_list.kp, b_law_list F_law_list⟩
  have C_law_says : Cal P w K mg base "_law_says" 1 ["_law_part", "_law_text"] sp_law_says := ⟨_, _, k_law_says (P := P) (w := w) (base := base) B G J  F_law_says, m_law_says, F_law_says.kp, b_law_says F_law_says⟩
  have C_law_fits : Cal P w K mg base "_law_fits" 2 ["_law_row_here", "_law_word_here", "_law_gap"] sp_law_fits := ⟨_, _, k_law_fits (P := P) (w := w) (base := base) B G J C_law_says F_law_fits, m_law_fits, F_law_fits.kp, b_law_fits F_law_fits⟩
  have C_law_is_joint : Cal P w K mg base "_law_is_joint" 3 ["_law_rows", "_law_word_here", "_law_gap"] sp_law_is_joint := ⟨_, _, k_law_is_joint (P := P) (w := w) (base := base) B G J C_law_fits F_law_is_joint, m_law_is_joint, F_law_is_joint.kp, b_law_is_joint F_law_is_joint⟩
  have C_law_word : Cal P w K mg base "_law_word" 2 ["_law_cell_here", "_law_letters_here"] sp_word := ⟨_, _, k_law_word (P := P) (w := w) (base := base) B G J C_law_row F_law_word, m_law_word, F_law_word.kp, b_law_word F_law_word⟩
  have C_law_numbers : Cal P w K mg base "_law_numbers" 2 ["_law_cell_here", "_law_letters_here"] sp_numbers := ⟨_, _, k_law_numbers (P := P) (w := w) (base := base) B G J C_law_row F_law_numbers, m_law_numbers, F_law_numbers.kp, b_law_numbers F_law_numbers⟩
  have C_law_can_be_set : Cal P w K mg base "_law_can_be_set" 4 ["_law_rows", "_law_word_here", "_law_weight", "_law_numbers_here"] sp_can_be_set := ⟨_, _, k_law_can_be_set (P := P) (w := w) (base := base) B G J C_law_is_joint F_law_can_be_set, m_law_can_be_set, F_law_can_be_set.kp, b_law_can_be_set F_law_can_be_set⟩
  have C_law_short_words : Cal P w K mg base "_law_short_words" 1 ["_law_letters_here"] sp_short_words := ⟨_, _, k_law_short_words (P := P) (w := w) (base := base) B G J  F_law_short_words, m_law_short_words, F_law_short_words.kp, b_law_short_words F_law_short_words⟩
  have C_law_is_ahead : Cal P w K mg base "_law_is_ahead" 1 ["_law_one", "_law_two"] sp_is_ahead := ⟨_, _, k_law_is_ahead (P := P) (w := w) (base := base) B G J  F_law_is_ahead, m_law_is_ahead, F_law_is_ahead.kp, b_law_is_ahead F_law_is_ahead⟩
  have C_law_near : Cal P w K mg base "_law_near" 1 ["_law_word_here", "_law_letters_here"] sp_near := ⟨_, _, k_law_near (P := P) (w := w) (base := base) B G J  F_law_near, m_law_near, F_law_near.kp, b_law_near F_law_near⟩
  have C_law_is_word : Cal P w K mg base "_law_is_word" 1 ["_law_told", "_law_letters_here"] sp_is_word := ⟨_, _, k_law_is_word (P := P) (w := w) (base := base) B G J  F_law_is_word, m_law_is_word, F_law_is_word.kp, b_law_is_word F_law_is_word⟩
  have C_law_holds : Cal P w K mg base "_law_holds" 5 ["_law_told", "_law_rows", "_law_letters_here", "_law_weight", "_law_numbers_here", "_law_words"] sp_holds := ⟨_, _, k_law_holds (P := P) (w := w) (base := base) B G J C_law_is_word C_law_can_be_set C_law_near C_law_is_ahead F_law_holds, m_law_holds, F_law_holds.kp, b_law_holds F_law_holds⟩
  have C_law_overflow : Cal P w K mg base "_law_overflow" 6 ["_law_joints", "_law_letters_here", "_law_weight", "_law_numbers_here"] (sp_law_overflow C) := ⟨_, _, k_law_overflow (P := P) (w := w) (base := base) B G J C_overflow F_law_overflow, m_law_overflow, F_law_overflow.kp, b_law_overflow F_law_overflow⟩
  exact k_law B G J C_law_cell C_law_letters C_law_list C_law_written C_law_numbers C_law_word C_law_overflow C_law_short_words C_law_holds C_heaviest_syllable C_law_row C_Joints_init F_law
end
end K33
set_option Elab.async false
set_option linter.all false
set_option maxRecDepth 100000
set_option maxHeartbeats 4000000
/-! what the top has written -/
namespace K33
open PySem PySem.Spec PyProof.Rows L2
theorem all_mk {l : PySem.W.OpenLaw} {w : World} {K : PySem.W.Frag} {h : Heap} {mg : Str → Option Value} {fa C : Addr} {tN tL tM : Tok} (X : K.In h) (G : h.Ns mainGlobals mg) (hfa : mg "law" = some (.ref fa))
    (aC : PySem.W.nsIn K mainGlobals "Joints" = some (some (.ref C)))
    {f_sides : Addr} {od_sides an_sides : Option Addr} {sl_sides : Array (Option Value)} {oc_sides kV_sides dc_sides pm_sides cd_sides ct_sides : Value} (a_sides : PySem.W.nsIn K mainGlobals "sides" = some (some (.ref f_sides))) (l_sides : K.lookup f_sides = some ⟨oc_sides, od_sides, .func (PySem.W.fnOf "sides" "sides" (defArgs s_sides) (defBody s_sides) (defScope s_sides) .none kV_sides dc_sides pm_sides an_sides cd_sides ct_sides), sl_sides⟩) (c_sides : PySem.W.codeIn K cd_sides "sides" = true) (k_sides : PySem.W.keepIn K (.ref f_sides) = true)
    {f_is_part : Addr} {od_is_part an_is_part : Option Addr} {sl_is_part : Array (Option Value)} {oc_is_part kV_is_part dc_is_part pm_is_part cd_is_part ct_is_part : Value} (a_is_part : PySem.W.nsIn K mainGlobals "is_part" = some (some (.ref f_is_part))) (l_is_part : K.lookup f_is_part = some ⟨oc_is_part, od_is_part, .func (PySem.W.fnOf "is_part" "is_part" (defArgs s_is_part) (defBody s_is_part) (defScope s_is_part) .none kV_is_part dc_is_part pm_is_part an_is_part cd_is_part ct_is_part), sl_is_part⟩) (c_is_part : PySem.W.codeIn K cd_is_part "is_part" = true) (k_is_part : PySem.W.keepIn K (.ref f_is_part) = true)
    {f_read_joint : Addr} {od_read_joint an_read_joint : Option Addr} {sl_read_joint : Array (Option Value)} {oc_read_joint kV_read_joint dc_read_joint pm_read_joint cd_read_joint ct_read_joint : Value} (a_read_joint : PySem.W.nsIn K mainGlobals "read_joint" = some (some (.ref f_read_joint))) (l_read_joint : K.lookup f_read_joint = some ⟨oc_read_joint, od_read_joint, .func (PySem.W.fnOf "read_joint" "read_joint" (defArgs s_read_joint) (defBody s_read_joint) (defScope s_read_joint) .none kV_read_joint dc_read_joint pm_read_joint an_read_joint cd_read_joint ct_read_joint), sl_read_joint⟩) (c_read_joint : PySem.W.codeIn K cd_read_joint "read_joint" = true) (k_read_joint : PySem.W.keepIn K (.ref f_read_joint) = true)
    {f_stands_for : Addr} {od_stands_for an_stands_for : Option Addr} {sl_stands_for : Array (Option Value)} {oc_stands_for kV_stands_for dc_stands_for pm_stands_for cd_stands_for ct_stands_for : Value} (a_stands_for : PySem.W.nsIn K mainGlobals "stands_for" = some (some (.ref f_stands_for))) (l_stands_for : K.lookup f_stands_for = some ⟨oc_stands_for, od_stands_for, .func (PySem.W.fnOf "stands_for" "stands_for" (defArgs s_stands_for) (defBody s_stands_for) (defScope s_stands_for) .none kV_stands_for dc_stands_for pm_stands_for an_stands_for cd_stands_for ct_stands_for), sl_stands_for⟩) (c_stands_for : PySem.W.codeIn K cd_stands_for "stands_for" = true) (k_stands_for : PySem.W.keepIn K (.ref f_stands_for) = true)
    {f_Joints_decider : Addr} {od_Joints_decider an_Joints_decider : Option Addr} {sl_Joints_decider : Array (Option Value)} {oc_Joints_decider kV_Joints_decider dc_Joints_decider pm_Joints_decider cd_Joints_decider ct_Joints_decider : Value} (a_Joints_decider : PySem.W.findIn K (.ref C) "decider" = some (some (.ref f_Joints_decider))) (i_Joints_decider : PySem.W.isFn K (.ref f_Joints_decider) = true) (l_Joints_decider : K.lookup f_Joints_decider = some ⟨oc_Joints_decider, od_Joints_decider, .func (PySem.W.fnOf "decider" "Joints.decider" (defArgs s_Joints_decider) (defBody s_Joints_decider) (defScope s_Joints_decider) .none kV_Joints_decider dc_Joints_decider pm_Joints_decider an_Joints_decider cd_Joints_decider ct_Joints_decider), sl_Joints_decider⟩) (c_Joints_decider : PySem.W.codeIn K cd_Joints_decider "Joints.decider" = true) (k_Joints_decider : PySem.W.keepIn K (.ref f_Joints_decider) = true)
    {f_Joints_is_joint : Addr} {od_Joints_is_joint an_Joints_is_joint : Option Addr} {sl_Joints_is_joint : Array (Option Value)} {oc_Joints_is_joint kV_Joints_is_joint dc_Joints_is_joint pm_Joints_is_joint cd_Joints_is_joint ct_Joints_is_joint : Value} (a_Joints_is_joint : PySem.W.findIn K (.ref C) "is_joint" = some (some (.ref f_Joints_is_joint))) (i_Joints_is_joint : PySem.W.isFn K (.ref f_Joints_is_joint) = true) (l_Joints_is_joint : K.lookup f_Joints_is_joint = some ⟨oc_Joints_is_joint, od_Joints_is_joint, .func (PySem.W.fnOf "is_joint" "Joints.is_joint" (defArgs s_Joints_is_joint) (defBody s_Joints_is_joint) (defScope s_Joints_is_joint) .none kV_Joints_is_joint dc_Joints_is_joint pm_Joints_is_joint an_Joints_is_joint cd_Joints_is_joint ct_Joints_is_joint), sl_Joints_is_joint⟩) (c_Joints_is_joint : PySem.W.codeIn K cd_Joints_is_joint "Joints.is_joint" = true) (k_Joints_is_joint : PySem.W.keepIn K (.ref f_Joints_is_joint) = true)
    {f_Joints_init : Addr} {od_Joints_init an_Joints_init : Option Addr} {sl_Joints_init : Array (Option Value)} {oc_Joints_init kV_Joints_init dc_Joints_init pm_Joints_init cd_Joints_init ct_Joints_init : Value} (a_Joints_init : PySem.W.findIn K (.ref C) "__init__" = some (some (.ref f_Joints_init))) (i_Joints_init : PySem.W.isFn K (.ref f_Joints_init) = true) (l_Joints_init : K.lookup f_Joints_init = some ⟨oc_Joints_init, od_Joints_init, .func (PySem.W.fnOf "__init__" "Joints.__init__" (defArgs s_Joints_init) (defBody s_Joints_init) (defScope s_Joints_init) .none kV_Joints_init dc_Joints_init pm_Joints_init an_Joints_init cd_Joints_init ct_Joints_init), sl_Joints_init⟩) (c_Joints_init : PySem.W.codeIn K cd_Joints_init "Joints.__init__" = true) (k_Joints_init : PySem.W.keepIn K (.ref f_Joints_init) = true)
    {f_joint_table : Addr} {od_joint_table an_joint_table : Option Addr} {sl_joint_table : Array (Option Value)} {oc_joint_table kV_joint_table dc_joint_table pm_joint_table cd_joint_table ct_joint_table : Value} (a_joint_table : PySem.W.nsIn K mainGlobals "joint_table" = some (some (.ref f_joint_table))) (l_joint_table : K.lookup f_joint_table = some ⟨oc_joint_table, od_joint_table, .func (PySem.W.fnOf "joint_table" "joint_table" (defArgs s_joint_table) (defBody s_joint_table) (defScope s_joint_table) .none kV_joint_table dc_joint_table pm_joint_table an_joint_table cd_joint_table ct_joint_table), sl_joint_table⟩) (c_joint_table : PySem.W.codeIn K cd_joint_table "joint_table" = true) (k_joint_table : PySem.W.keepIn K (.ref f_joint_table) = true)
    {f_next_gaps : Addr} {od_next_gaps an_next_gaps : Option Addr} {sl_next_gaps : Array (Option Value)} {oc_next_gaps kV_next_gaps dc_next_gaps pm_next_gaps cd_next_gaps ct_next_gaps : Value} (a_next_gaps : PySem.W.nsIn K mainGlobals "next_gaps" = some (some (.ref f_next_gaps))) (l_next_gaps : K.lookup f_next_gaps = some ⟨oc_next_gaps, od_next_gaps, .func (PySem.W.fnOf "next_gaps" "next_gaps" (defArgs s_next_gaps) (defBody s_next_gaps) (defScope s_next_gaps) .none kV_next_gaps dc_next_gaps pm_next_gaps an_next_gaps cd_next_gaps ct_next_gaps), sl_next_gaps⟩) (c_next_gaps : PySem.W.codeIn K cd_next_gaps "next_gaps" = true) (k_next_gaps : PySem.W.keepIn K (.ref f_next_gaps) = true)
    {f_best_tail : Addr} {od_best_tail an_best_tail : Option Addr} {sl_best_tail : Array (Option Value)} {oc_best_tail kV_best_tail dc_best_tail pm_best_tail cd_best_tail ct_best_tail : Value} (a_best_tail : PySem.W.nsIn K mainGlobals "best_tail" = some (some (.ref f_best_tail))) (l_best_tail : K.lookup f_best_tail = some ⟨oc_best_tail, od_best_tail, .func (PySem.W.fnOf "best_tail" "best_tail" (defArgs s_best_tail) (defBody s_best_tail) (defScope s_best_tail) .none kV_best_tail dc_best_tail pm_best_tail an_best_tail cd_best_tail ct_best_tail), sl_best_tail⟩) (c_best_tail : PySem.W.codeIn K cd_best_tail "best_tail" = true) (k_best_tail : PySem.W.keepIn K (.ref f_best_tail) = true)
    {f_heaviest_tails : Addr} {od_heaviest_tails an_heaviest_tails : Option Addr} {sl_heaviest_tails : Array (Option Value)} {oc_heaviest_tails kV_heaviest_tails dc_heaviest_tails pm_heaviest_tails cd_heaviest_tails ct_heaviest_tails : Value} (a_heaviest_tails : PySem.W.nsIn K mainGlobals "heaviest_tails" = some (some (.ref f_heaviest_tails))) (l_heaviest_tails : K.lookup f_heaviest_tails = some ⟨oc_heaviest_tails, od_heaviest_tails, .func (PySem.W.fnOf "heaviest_tails" "heaviest_tails" (defArgs s_heaviest_tails) (defBody s_heaviest_tails) (defScope s_heaviest_tails) .none kV_heaviest_tails dc_heaviest_tails pm_heaviest_tails an_heaviest_tails cd_heaviest_tails ct_heaviest_tails), sl_heaviest_tails⟩) (c_heaviest_tails : PySem.W.codeIn K cd_heaviest_tails "heaviest_tails" = true) (k_heaviest_tails : PySem.W.keepIn K (.ref f_heaviest_tails) = true)
    {f_heaviest_syllable : Addr} {od_heaviest_syllable an_heaviest_syllable : Option Addr} {sl_heaviest_syllable : Array (Option Value)} {oc_heaviest_syllable kV_heaviest_syllable dc_heaviest_syllable pm_heaviest_syllable cd_heaviest_syllable ct_heaviest_syllable : Value} (a_heaviest_syllable : PySem.W.nsIn K mainGlobals "heaviest_syllable" = some (some (.ref f_heaviest_syllable))) (l_heaviest_syllable : K.lookup f_heaviest_syllable = some ⟨oc_heaviest_syllable, od_heaviest_syllable, .func (PySem.W.fnOf "heaviest_syllable" "heaviest_syllable" (defArgs s_heaviest_syllable) (defBody s_heaviest_syllable) (defScope s_heaviest_syllable) .none kV_heaviest_syllable dc_heaviest_syllable pm_heaviest_syllable an_heaviest_syllable cd_heaviest_syllable ct_heaviest_syllable), sl_heaviest_syllable⟩) (c_heaviest_syllable : PySem.W.codeIn K cd_heaviest_syllable "heaviest_syllable" = true) (k_heaviest_syllable : PySem.W.keepIn K (.ref f_heaviest_syllable) = true)
    {f_letter_on : Addr} {od_letter_on an_letter_on : Option Addr} {sl_letter_on : Array (Option Value)} {oc_letter_on kV_letter_on dc_letter_on pm_letter_on cd_letter_on ct_letter_on : Value} (a_letter_on : PySem.W.nsIn K mainGlobals "letter_on" = some (some (.ref f_letter_on))) (l_letter_on : K.lookup f_letter_on = some ⟨oc_letter_on, od_letter_on, .func (PySem.W.fnOf "letter_on" "letter_on" (defArgs s_letter_on) (defBody s_letter_on) (defScope s_letter_on) .none kV_letter_on dc_letter_on pm_letter_on an_letter_on cd_letter_on ct_letter_on), sl_letter_on⟩) (c_letter_on : PySem.W.codeIn K cd_letter_on "letter_on" = true) (k_letter_on : PySem.W.keepIn K (.ref f_letter_on) = true)
    {f_can_end : Addr} {od_can_end an_can_end : Option Addr} {sl_can_end : Array (Option Value)} {oc_can_end kV_can_end dc_can_end pm_can_end cd_can_end ct_can_end : Value} (a_can_end : PySem.W.nsIn K mainGlobals "can_end" = some (some (.ref f_can_end))) (l_can_end : K.lookup f_can_end = some ⟨oc_can_end, od_can_end, .func (PySem.W.fnOf "can_end" "can_end" (defArgs s_can_end) (defBody s_can_end) (defScope s_can_end) .none kV_can_end dc_can_end pm_can_end an_can_end cd_can_end ct_can_end), sl_can_end⟩) (c_can_end : PySem.W.codeIn K cd_can_end "can_end" = true) (k_can_end : PySem.W.keepIn K (.ref f_can_end) = true)
    {f_is_new : Addr} {od_is_new an_is_new : Option Addr} {sl_is_new : Array (Option Value)} {oc_is_new kV_is_new dc_is_new pm_is_new cd_is_new ct_is_new : Value} (a_is_new : PySem.W.nsIn K mainGlobals "is_new" = some (some (.ref f_is_new))) (l_is_new : K.lookup f_is_new = some ⟨oc_is_new, od_is_new, .func (PySem.W.fnOf "is_new" "is_new" (defArgs s_is_new) (defBody s_is_new) (defScope s_is_new) .none kV_is_new dc_is_new pm_is_new an_is_new cd_is_new ct_is_new), sl_is_new⟩) (c_is_new : PySem.W.codeIn K cd_is_new "is_new" = true) (k_is_new : PySem.W.keepIn K (.ref f_is_new) = true)
    {f_overflow : Addr} {od_overflow an_overflow : Option Addr} {sl_overflow : Array (Option Value)} {oc_overflow kV_overflow dc_overflow pm_overflow cd_overflow ct_overflow : Value} (a_overflow : PySem.W.nsIn K mainGlobals "overflow" = some (some (.ref f_overflow))) (l_overflow : K.lookup f_overflow = some ⟨oc_overflow, od_overflow, .func (PySem.W.fnOf "overflow" "overflow" (defArgs s_overflow) (defBody s_overflow) (defScope s_overflow) .none kV_overflow dc_overflow pm_overflow an_overflow cd_overflow ct_overflow), sl_overflow⟩) (c_overflow : PySem.W.codeIn K cd_overflow "overflow" = true) (k_overflow : PySem.W.keepIn K (.ref f_overflow) = true)
    {f_law_cell : Addr} {od_law_cell an_law_cell : Option Addr} {sl_law_cell : Array (Option Value)} {oc_law_cell kV_law_cell dc_law_cell pm_law_cell cd_law_cell ct_law_cell : Value} (a_law_cell : PySem.W.nsIn K mainGlobals "_law_cell" = some (some (.ref f_law_cell))) (l_law_cell : K.lookup f_law_cell = some ⟨oc_law_cell, od_law_cell, .func (PySem.W.fnOf "_law_cell" "_law_cell" (defArgs s_law_cell) (defBody s_law_cell) (defScope s_law_cell) .none kV_law_cell dc_law_cell pm_law_cell an_law_cell cd_law_cell ct_law_cell), sl_law_cell⟩) (c_law_cell : PySem.W.codeIn K cd_law_cell "_law_cell" = true) (k_law_cell : PySem.W.keepIn K (.ref f_law_cell) = true)
    {f_law_row : Addr} {od_law_row an_law_row : Option Addr} {sl_law_row : Array (Option Value)} {oc_law_row kV_law_row dc_law_row pm_law_row cd_law_row ct_law_row : Value} (a_law_row : PySem.W.nsIn K mainGlobals "_law_row" = some (some (.ref f_law_row))) (l_law_row : K.lookup f_law_row = some ⟨oc_law_row, od_law_row, .func (PySem.W.fnOf "_law_row" "_law_row" (defArgs s_law_row) (defBody s_law_row) (defScope s_law_row) .none kV_law_row dc_law_row pm_law_row an_law_row cd_law_row ct_law_row), sl_law_row⟩) (c_law_row : PySem.W.codeIn K cd_law_row "_law_row" = true) (k_law_row : PySem.W.keepIn K (.ref f_law_row) = true)
    {f_law_letters : Addr} {od_law_letters an_law_letters : Option Addr} {sl_law_letters : Array (Option Value)} {oc_law_letters kV_law_letters dc_law_letters pm_law_letters cd_law_letters ct_law_letters : Value} (a_law_letters : PySem.W.nsIn K mainGlobals "_law_letters" = some (some (.ref f_law_letters))) (l_law_letters : K.lookup f_law_letters = some ⟨oc_law_letters, od_law_letters, .func (PySem.W.fnOf "_law_letters" "_law_letters" (defArgs s_law_letters) (defBody s_law_letters) (defScope s_law_letters) .none kV_law_letters dc_law_letters pm_law_letters an_law_letters cd_law_letters ct_law_letters), sl_law_letters⟩) (c_law_letters : PySem.W.codeIn K cd_law_letters "_law_letters" = true) (k_law_letters : PySem.W.keepIn K (.ref f_law_letters) = true)
    {f_law_joint : Addr} {od_law_joint an_law_joint : Option Addr} {sl_law_joint : Array (Option Value)} {oc_law_joint kV_law_joint dc_law_joint pm_law_joint cd_law_joint ct_law_joint : Value} (a_law_joint : PySem.W.nsIn K mainGlobals "_law_joint" = some (some (.ref f_law_joint))) (l_law_joint : K.lookup f_law_joint = some ⟨oc_law_joint, od_law_joint, .func (PySem.W.fnOf "_law_joint" "_law_joint" (defArgs s_law_joint) (defBody s_law_joint) (defScope s_law_joint) .none kV_law_joint dc_law_joint pm_law_joint an_law_joint cd_law_joint ct_law_joint), sl_law_joint⟩) (c_law_joint : PySem.W.codeIn K cd_law_joint "_law_joint" = true) (k_law_joint : PySem.W.keepIn K (.ref f_law_joint) = true)
    {f_law_written : Addr} {od_law_written an_law_written : Option Addr} {sl_law_written : Array (Option Value)} {oc_law_written kV_law_written dc_law_written pm_law_written cd_law_written ct_law_written : Value} (a_law_written : PySem.W.nsIn K mainGlobals "_law_written" = some (some (.ref f_law_written))) (l_law_written : K.lookup f_law_written = some ⟨oc_law_written, od_law_written, .func (PySem.W.fnOf "_law_written" "_law_written" (defArgs s_law_written) (defBody s_law_written) (defScope s_law_written) .none kV_law_written dc_law_written pm_law_written an_law_written cd_law_written ct_law_written), sl_law_written⟩) (c_law_written : PySem.W.codeIn K cd_law_written "_law_written" = true) (k_law_written : PySem.W.keepIn K (.ref f_law_written) = true)
    {f_law_list : Addr} {od_law_list an_law_list : Option Addr} {sl_law_list : Array (Option Value)} {oc_law_list kV_law_list dc_law_list pm_law_list cd_law_list ct_law_list : Value} (a_law_list : PySem.W.nsIn K mainGlobals "_law_list" = some (some (.ref f_law_list))) (l_law_list : K.lookup f_law_list = some ⟨oc_law_list, od_law_list, .func (PySem.W.fnOf "_law_list" "_law_list" (defArgs s_law_list) (defBody s_law_list) (defScope s_law_list) .none kV_law_list dc_law_list pm_law_list an_law_list cd_law_list ct_law_list), sl_law_list⟩) (c_law_list : PySem.W.codeIn K cd_law_list "_law_list" = true) (k_law_list : PySem.W.keepIn K (.ref f_law_list) = true)
    {f_law_says : Addr} {od_law_says an_law_says : Option Addr} {sl_law_says : Array (Option Value)} {oc_law_says kV_law_says dc_law_says pm_law_says cd_law_says ct_law_says : Value} (a_law_says : PySem.W.nsIn K mainGlobals "_law_says" = some (some (.ref f_law_says))) (l_law_says : K.lookup f_law_says = some ⟨oc_law_says, od_law_says, .func (PySem.W.fnOf "_law_says" "_law_says" (defArgs s_law_says) (defBody s_law_says) (defScope s_law_says) .none kV_law_says dc_law_says pm_law_says an_law_says cd_law_says ct_law_says), sl_law_says⟩) (c_law_says : PySem.W.codeIn K cd_law_says "_law_says" = true) (k_law_says : PySem.W.keepIn K (.ref f_law_says) = true)
    {f_law_fits : Addr} {od_law_fits an_law_fits : Option Addr} {sl_law_fits : Array (Option Value)} {oc_law_fits kV_law_fits dc_law_fits pm_law_fits cd_law_fits ct_law_fits : Value} (a_law_fits : PySem.W.nsIn K mainGlobals "_law_fits" = some (some (.ref f_law_fits))) (l_law_fits : K.lookup f_law_fits = some ⟨oc_law_fits, od_law_fits, .func (PySem.W.fnOf "_law_fits" "_law_fits" (defArgs s_law_fits) (defBody s_law_fits) (defScope s_law_fits) .none kV_law_fits dc_law_fits pm_law_fits an_law_fits cd_law_fits ct_law_fits), sl_law_fits⟩) (c_law_fits : PySem.W.codeIn K cd_law_fits "_law_fits" = true) (k_law_fits : PySem.W.keepIn K (.ref f_law_fits) = true)
    {f_law_is_joint : Addr} {od_law_is_joint an_law_is_joint : Option Addr} {sl_law_is_joint : Array (Option Value)} {oc_law_is_joint kV_law_is_joint dc_law_is_joint pm_law_is_joint cd_law_is_joint ct_law_is_joint : Value} (a_law_is_joint : PySem.W.nsIn K mainGlobals "_law_is_joint" = some (some (.ref f_law_is_joint))) (l_law_is_joint : K.lookup f_law_is_joint = some ⟨oc_law_is_joint, od_law_is_joint, .func (PySem.W.fnOf "_law_is_joint" "_law_is_joint" (defArgs s_law_is_joint) (defBody s_law_is_joint) (defScope s_law_is_joint) .none kV_law_is_joint dc_law_is_joint pm_law_is_joint an_law_is_joint cd_law_is_joint ct_law_is_joint), sl_law_is_joint⟩) (c_law_is_joint : PySem.W.codeIn K cd_law_is_joint "_law_is_joint" = true) (k_law_is_joint : PySem.W.keepIn K (.ref f_law_is_joint) = true)
    {f_law_word : Addr} {od_law_word an_law_word : Option Addr} {sl_law_word : Array (Option Value)} {oc_law_word kV_law_word dc_law_word pm_law_word cd_law_word ct_law_word : Value} (a_law_word : PySem.W.nsIn K mainGlobals "_law_word" = some (some (.ref f_law_word))) (l_law_word : K.lookup f_law_word = some ⟨oc_law_word, od_law_word, .func (PySem.W.fnOf "_law_word" "_law_word" (defArgs s_law_word) (defBody s_law_word) (defScope s_law_word) .none kV_law_word dc_law_word pm_law_word an_law_word cd_law_word ct_law_word), sl_law_word⟩) (c_law_word : PySem.W.codeIn K cd_law_word "_law_word" = true) (k_law_word : PySem.W.keepIn K (.ref f_law_word) = true)
    {f_law_numbers : Addr} {od_law_numbers an_law_numbers : Option Addr} {sl_law_numbers : Array (Option Value)} {oc_law_numbers kV_law_numbers dc_law_numbers pm_law_numbers cd_law_numbers ct_law_numbers : Value} (a_law_numbers : PySem.W.nsIn K mainGlobals "_law_numbers" = some (some (.ref f_law_numbers))) (l_law_numbers : K.lookup f_law_numbers = some ⟨oc_law_numbers, od_law_numbers, .func (PySem.W.fnOf "_law_numbers" "_law_numbers" (defArgs s_law_numbers) (defBody s_law_numbers) (defScope s_law_numbers) .none kV_law_numbers dc_law_numbers pm_law_numbers an_law_numbers cd_law_numbers ct_law_numbers), sl_law_numbers⟩) (c_law_numbers : PySem.W.codeIn K cd_law_numbers "_law_numbers" = true) (k_law_numbers : PySem.W.keepIn K (.ref f_law_numbers) = true)
    {f_law_can_be_set : Addr} {od_law_can_be_set an_law_can_be_set : Option Addr} {sl_law_can_be_set : Array (Option Value)} {oc_law_can_be_set kV_law_can_be_set dc_law_can_be_set pm_law_can_be_set cd_law_can_be_set ct_law_can_be_set : Value} (a_law_can_be_set : PySem.W.nsIn K mainGlobals "_law_can_be_set" = some (some (.ref f_law_can_be_set))) (l_law_can_be_set : K.lookup f_law_can_be_set = some ⟨oc_law_can_be_set, od_law_can_be_set, .func (PySem.W.fnOf "_law_can_be_set" "_law_can_be_set" (defArgs s_law_can_be_set) (defBody s_law_can_be_set) (defScope s_law_can_be_set) .none kV_law_can_be_set dc_law_can_be_set pm_law_can_be_set an_law_can_be_set cd_law_can_be_set ct_law_can_be_set), sl_law_can_be_set⟩) (c_law_can_be_set : PySem.W.codeIn K cd_law_can_be_set "_law_can_be_set" = true) (k_law_can_be_set : PySem.W.keepIn K (.ref f_law_can_be_set) = true)
    {f_law_short_words : Addr} {od_law_short_words an_law_short_words : Option Addr} {sl_law_short_words : Array (Option Value)} {oc_law_short_words kV_law_short_words dc_law_short_words pm_law_short_words cd_law_short_words ct_law_short_words : Value} (a_law_short_words : PySem.W.nsIn K mainGlobals "_law_short_words" = some (some (.ref f_law_short_words))) (l_law_short_words : K.lookup f_law_short_words = some ⟨oc_law_short_words, od_law_short_words, .func (PySem.W.fnOf "_law_short_words" "_law_short_words" (defArgs s_law_short_words) (defBody s_law_short_words) (defScope s_law_short_words) .none kV_law_short_words dc_law_short_words pm_law_short_words an_law_short_words cd_law_short_words ct_law_short_words), sl_law_short_words⟩) (c_law_short_words : PySem.W.codeIn K cd_law_short_words "_law_short_words" = true) (k_law_short_words : PySem.W.keepIn K (.ref f_law_short_words) = true)
    {f_law_is_ahead : Addr} {od_law_is_ahead an_law_is_ahead : Option Addr} {sl_law_is_ahead : Array (Option Value)} {oc_law_is_ahead kV_law_is_ahead dc_law_is_ahead pm_law_is_ahead cd_law_is_ahead ct_law_is_ahead : Value} (a_law_is_ahead : PySem.W.nsIn K mainGlobals "_law_is_ahead" = some (some (.ref f_law_is_ahead))) (l_law_is_ahead : K.lookup f_law_is_ahead = some ⟨oc_law_is_ahead, od_law_is_ahead, .func (PySem.W.fnOf "_law_is_ahead" "_law_is_ahead" (defArgs s_law_is_ahead) (defBody s_law_is_ahead) (defScope s_law_is_ahead) .none kV_law_is_ahead dc_law_is_ahead pm_law_is_ahead an_law_is_ahead cd_law_is_ahead ct_law_is_ahead), sl_law_is_ahead⟩) (c_law_is_ahead : PySem.W.codeIn K cd_law_is_ahead "_law_is_ahead" = true) (k_law_is_ahead : PySem.W.keepIn K (.ref f_law_is_ahead) = true)
    {f_law_near : Addr} {od_law_near an_law_near : Option Addr} {sl_law_near : Array (Option Value)} {oc_law_near kV_law_near dc_law_near pm_law_near cd_law_near ct_law_near : Value} (a_law_near : PySem.W.nsIn K mainGlobals "_law_near" = some (some (.ref f_law_near))) (l_law_near : K.lookup f_law_near = some ⟨oc_law_near, od_law_near, .func (PySem.W.fnOf "_law_near" "_law_near" (defArgs s_law_near) (defBody s_law_near) (defScope s_law_near) .none kV_law_near dc_law_near pm_law_near an_law_near cd_law_near ct_law_near), sl_law_near⟩) (c_law_near : PySem.W.codeIn K cd_law_near "_law_near" = true) (k_law_near : PySem.W.keepIn K (.ref f_law_near) = true)
    {f_law_is_word : Addr} {od_law_is_word an_law_is_word : Option Addr} {sl_law_is_word : Array (Option Value)} {oc_law_is_word kV_law_is_word dc_law_is_word pm_law_is_word cd_law_is_word ct_law_is_word : Value} (a_law_is_word : PySem.W.nsIn K mainGlobals "_law_is_word" = some (some (.ref f_law_is_word))) (l_law_is_word : K.lookup f_law_is_word = some ⟨oc_law_is_word, od_law_is_word, .func (PySem.W.fnOf "_law_is_word" "_law_is_word" (defArgs s_law_is_word) (defBody s_law_is_word) (defScope s_law_is_word) .none kV_law_is_word dc_law_is_word pm_law_is_word an_law_is_word cd_law_is_word ct_law_is_word), sl_law_is_word⟩) (c_law_is_word : PySem.W.codeIn K cd_law_is_word "_law_is_word" = true) (k_law_is_word : PySem.W.keepIn K (.ref f_law_is_word) = true)
    {f_law_holds : Addr} {od_law_holds an_law_holds : Option Addr} {sl_law_holds : Array (Option Value)} {oc_law_holds kV_law_holds dc_law_holds pm_law_holds cd_law_holds ct_law_holds : Value} (a_law_holds : PySem.W.nsIn K mainGlobals "_law_holds" = some (some (.ref f_law_holds))) (l_law_holds : K.lookup f_law_holds = some ⟨oc_law_holds, od_law_holds, .func (PySem.W.fnOf "_law_holds" "_law_holds" (defArgs s_law_holds) (defBody s_law_holds) (defScope s_law_holds) .none kV_law_holds dc_law_holds pm_law_holds an_law_holds cd_law_holds ct_law_holds), sl_law_holds⟩) (c_law_holds : PySem.W.codeIn K cd_law_holds "_law_holds" = true) (k_law_holds : PySem.W.keepIn K (.ref f_law_holds) = true)
    {f_law_overflow : Addr} {od_law_overflow an_law_overflow : Option Addr} {sl_law_overflow : Array (Option Value)} {oc_law_overflow kV_law_overflow dc_law_overflow pm_law_overflow cd_law_overflow ct_law_overflow : Value} (a_law_overflow : PySem.W.nsIn K mainGlobals "_law_overflow" = some (some (.ref f_law_overflow))) (l_law_overflow : K.lookup f_law_overflow = some ⟨oc_law_overflow, od_law_overflow, .func (PySem.W.fnOf "_law_overflow" "_law_overflow" (defArgs s_law_overflow) (defBody s_law_overflow) (defScope s_law_overflow) .none kV_law_overflow dc_law_overflow pm_law_overflow an_law_overflow cd_law_overflow ct_law_overflow), sl_law_overflow⟩) (c_law_overflow : PySem.W.codeIn K cd_law_overflow "_law_overflow" = true) (k_law_overflow : PySem.W.keepIn K (.ref f_law_overflow) = true)
    {f_law : Addr} {od_law an_law : Option Addr} {sl_law : Array (Option Value)} {oc_law kV_law dc_law pm_law cd_law ct_law : Value} (a_law : PySem.W.nsIn K mainGlobals "law" = some (some (.ref f_law))) (l_law : K.lookup f_law = some ⟨oc_law, od_law, .func (PySem.W.fnOf "law" "law" (defArgs s_law) (defBody s_law) (defScope s_law) .none kV_law dc_law pm_law an_law cd_law ct_law), sl_law⟩) (c_law : PySem.W.codeIn K cd_law "law" = true) (k_law : PySem.W.keepIn K (.ref f_law) = true)
    (pg : PySem.W.plainGet K C Str.empty = true)
    (hd : PySem.W.hasDictIn K C = true)
    (po : PySem.W.plainOver K C = true)
    (sa : PySem.W.findIn K (.ref C) "__setattr__" = some (some (.builtin "object.__setattr__")))
    (mk : PySem.W.makesIn K C = true)
    (kc : PySem.W.keepIn K (.ref C) = true)
    (nR : PySem.W.findIn K (.ref C) "readings" = some none)
    (nL : PySem.W.findIn K (.ref C) "lines" = some none)
    (rdT : PySem.W.readsIn K C (.type "type") = true)
    (gaT : PySem.W.specialIn K (.ref C) "__getattribute__" = some (some (.builtin "type.__getattribute__")))
    (moT : PySem.W.findCls K (.ref C) (.type "type") "MOST" = some (.val (.int 8 tM)))
    (nN : PySem.W.nsIn K mainGlobals "NEVER" = some (some (.int 1000000 tN)))
    (nT : PySem.W.nsIn K mainGlobals "LETTERS" = some (some (.str ⟨abc.toArray⟩ tL)))
    (z_len : PySem.W.nsIn K mainGlobals "len" = some none)
    (z_range : PySem.W.nsIn K mainGlobals "range" = some none)
    (z_zip : PySem.W.nsIn K mainGlobals "zip" = some none)
    (z_enumerate : PySem.W.nsIn K mainGlobals "enumerate" = some none)
    (z_list : PySem.W.nsIn K mainGlobals "list" = some none)
    (z_dict : PySem.W.nsIn K mainGlobals "dict" = some none)
    (z_int : PySem.W.nsIn K mainGlobals "int" = some none)
    (z_sorted : PySem.W.nsIn K mainGlobals "sorted" = some none)
    (z_min : PySem.W.nsIn K mainGlobals "min" = some none)
    (z_max : PySem.W.nsIn K mainGlobals "max" = some none)
    (z_isinstance : PySem.W.nsIn K mainGlobals "isinstance" = some none)
    (z_str : PySem.W.nsIn K mainGlobals "str" = some none)
    : ∃ fd : FuncData, (∀ (s : Shared) (v : Value), BindsTo s fd ⟨[v], []⟩ [("_law_script", v)]) ∧ ∀ base : Heap, K.In base → base.Ns mainGlobals mg → FnOk l.prog w K mg base CX0 7 fa fd ["_law_script"] (sp_law K) := by
  have e := hfa.symm.trans (PySem.W.mg_of X G a_law)
  cases e
  have B : Bl mg := ⟨PySem.W.mg_none_of X G z_len, PySem.W.mg_none_of X G z_range, PySem.W.mg_none_of X G z_zip, PySem.W.mg_none_of X G z_enumerate, PySem.W.mg_none_of X G z_list, PySem.W.mg_none_of X G z_dict, PySem.W.mg_none_of X G z_int, PySem.W.mg_none_of X G z_sorted, PySem.W.mg_none_of X G z_min, PySem.W.mg_none_of X G z_max, PySem.W.mg_none_of X G z_isinstance, PySem.W.mg_none_of X G z_str⟩
  have Gg : Gb mg tN tL := ⟨PySem.W.mg_of X G nN, PySem.W.mg_of X G nT⟩
  have J : ClJ K C := ⟨⟨pg, hd, po, sa⟩, nR, nL, _, _, ⟨rdT, gaT⟩, ⟨moT, ⟨_, rfl⟩⟩⟩
  refine ⟨_, fun s v => .of_eq rfl, fun base _ _ => k_all B Gg J (PySem.W.mg_of X G aC)
    (fun_mk (st := s_sides) l_sides c_sides k_sides) (PySem.W.mg_of X G a_sides)
    (fun_mk (st := s_is_part) l_is_part c_is_part k_is_part) (PySem.W.mg_of X G a_is_part)
    (fun_mk (st := s_read_joint) l_read_joint c_read_joint k_read_joint) (PySem.W.mg_of X G a_read_joint)
    (fun_mk (st := s_stands_for) l_stands_for c_stands_for k_stands_for) (PySem.W.mg_of X G a_stands_for)
    (fun_mk (st := s_Joints_decider) l_Joints_decider c_Joints_decider k_Joints_decider)
    (fun_mk (st := s_Joints_is_joint) l_Joints_is_joint c_Joints_is_joint k_Joints_is_joint)
    (fun_mk (st := s_Joints_init) l_Joints_init c_Joints_init k_Joints_init)
    (fun_mk (st := s_joint_table) l_joint_table c_joint_table k_joint_table) (PySem.W.mg_of X G a_joint_table)
    (fun_mk (st := s_next_gaps) l_next_gaps c_next_gaps k_next_gaps) (PySem.W.mg_of X G a_next_gaps)
    (fun_mk (st := s_best_tail) l_best_tail c_best_tail k_best_tail) (PySem.W.mg_of X G a_best_tail)
    (fun_mk (st := s_heaviest_tails) l_heaviest_tails c_heaviest_tails k_heaviest_tails) (PySem.W.mg_of X G a_heaviest_tails)
    (fun_mk (st := s_heaviest_syllable) l_heaviest_syllable c_heaviest_syllable k_heaviest_syllable) (PySem.W.mg_of X G a_heaviest_syllable)
    (fun_mk (st := s_letter_on) l_letter_on c_letter_on k_letter_on) (PySem.W.mg_of X G a_letter_on)
    (fun_mk (st := s_can_end) l_can_end c_can_end k_can_end) (PySem.W.mg_of X G a_can_end)
    (fun_mk (st := s_is_new) l_is_new c_is_new k_is_new) (PySem.W.mg_of X G a_is_new)
    (fun_mk (st := s_overflow) l_overflow c_overflow k_overflow) (PySem.W.mg_of X G a_overflow)
    (fun_mk (st := s_law_cell) l_law_cell c_law_cell k_law_cell) (PySem.W.mg_of X G a_law_cell)
    (fun_mk (st := s_law_row) l_law_row c_law_row k_law_row) (PySem.W.mg_of X G a_law_row)
    (fun_mk (st := s_law_letters) l_law_letters c_law_letters k_law_letters) (PySem.W.mg_of X G a_law_letters)
    (fun_mk (st := s_law_joint) l_law_joint c_law_joint k_law_joint) (PySem.W.mg_of X G a_law_joint)
    (fun_mk (st := s_law_written) l_law_written c_law_written k_law_written) (PySem.W.mg_of X G a_law_written)
    (fun_mk (st := s_law_list) l_law_list c_law_list k_law_list) (PySem.W.mg_of X G a_law_list)
    (fun_mk (st := s_law_says) l_law_says c_law_says k_law_says) (PySem.W.mg_of X G a_law_says)
    (fun_mk (st := s_law_fits) l_law_fits c_law_fits k_law_fits) (PySem.W.mg_of X G a_law_fits)
    (fun_mk (st := s_law_is_joint) l_law_is_joint c_law_is_joint k_law_is_joint) (PySem.W.mg_of X G a_law_is_joint)
    (fun_mk (st := s_law_word) l_law_word c_law_word k_law_word) (PySem.W.mg_of X G a_law_word)
    (fun_mk (st := s_law_numbers) l_law_numbers c_law_numbers k_law_numbers) (PySem.W.mg_of X G a_law_numbers)
    (fun_mk (st := s_law_can_be_set) l_law_can_be_set c_law_can_be_set k_law_can_be_set) (PySem.W.mg_of X G a_law_can_be_set)
    (fun_mk (st := s_law_short_words) l_law_short_words c_law_short_words k_law_short_words) (PySem.W.mg_of X G a_law_short_words)
    (fun_mk (st := s_law_is_ahead) l_law_is_ahead c_law_is_ahead k_law_is_ahead) (PySem.W.mg_of X G a_law_is_ahead)
    (fun_mk (st := s_law_near) l_law_near c_law_near k_law_near) (PySem.W.mg_of X G a_law_near)
    (fun_mk (st := s_law_is_word) l_law_is_word c_law_is_word k_law_is_word) (PySem.W.mg_of X G a_law_is_word)
    (fun_mk (st := s_law_holds) l_law_holds c_law_holds k_law_holds) (PySem.W.mg_of X G a_law_holds)
    (fun_mk (st := s_law_overflow) l_law_overflow c_law_overflow k_law_overflow) (PySem.W.mg_of X G a_law_overflow)
    (fun_mk (st := s_law) l_law c_law k_law)
    ⟨a_Joints_decider, i_Joints_decider, k_Joints_decider⟩ ⟨a_Joints_is_joint, i_Joints_is_joint, k_Joints_is_joint⟩ ⟨mk, a_Joints_init, i_Joints_init, kc⟩⟩
theorem walk {l : PySem.W.OpenLaw} {q : Program} {loose : List Str} {XP : (Str → Option Value) → Heap → Prop} {YP : World → Heap → Prop} {d : DefRec} {K : Params → PySem.W.Frag} (hn : l.most = some 63) (hdf : d.params.defaults = [])
    (hY : ∀ (w : World) (h : Heap), YP w h → (K w.params).In h)
    (F : ∀ (w : World) (mg : Str → Option Value) (fa : Addr) (h : Heap), (K w.params).In h → h.Ns mainGlobals mg → mg d.name = some (.ref fa) →
      ∃ fd : FuncData, (∀ (s : Shared) (u : Value), BindsTo s fd ⟨[u], []⟩ [("_law_script", u)]) ∧ ∀ base : Heap, (K w.params).In base → base.Ns mainGlobals mg → FnOk l.prog w (K w.params) mg base CX0 7 fa fd ["_law_script"] (sp_law (K w.params))) :
    PySem.W.WalkO q loose XP YP l.row.toRowW d [] (fun f vs => PySem.call f vs) :=
  L2.walk_ofB (n := 63) (k := 7) (x := "_law_script") (CX := fun _ => CX0) (sp := fun w => sp_law (K w.params)) hn (by decide) hdf ⟨rfl, by decide, by decide⟩ hY F (fun _ _ a ns hl _ _ hS => ⟨a, ns, rfl, hS, fun _ _ => rfl⟩) fun _ _ _ _ _ z => z
end K33
set_option Elab.async false
set_option linter.all false
set_option maxRecDepth 100000
open PySem PySem.W PyProof.Rows in
set_option maxRecDepth 100000 in
set_option maxHeartbeats 0 in
theorem PySem.Challenge.cw_laidforall_k33_whole_overflow_holds : PySem.Challenge.rw_laidforall_k33_whole_overflow.Holds := by
  w_on; o_law; k_head; (case hw => w_witness2)
  k_fill
  refine K33.walk (l := PySem.Challenge.rw_laidforall_k33_whole_overflow) rfl rfl (fun w h Y => PySem.W.kIn_of Y) ?F
  case F =>
    intro w mg fa h KX G hmg
    refine' K33.all_mk KX G hmg ?aC ?a_sides ?l_sides ?c_sides ?k_sides ?a_is_part ?l_is_part ?c_is_part ?k_is_part ?a_read_joint ?l_read_joint ?c_read_joint ?k_read_joint ?a_stands_for ?l_stands_for ?c_stands_for ?k_stands_for ?a_Joints_decider ?i_Joints_decider ?l_Joints_decider ?c_Joints_decider ?k_Joints_decider ?a_Joints_is_joint ?i_Joints_is_joint ?l_Joints_is_joint ?c_Joints_is_joint ?k_Joints_is_joint ?a_Joints_init ?i_Joints_init ?l_Joints_init ?c_Joints_init ?k_Joints_init ?a_joint_table ?l_joint_table ?c_joint_table ?k_joint_table ?a_next_gaps ?l_next_gaps ?c_next_gaps ?k_next_gaps ?a_best_tail ?l_best_tail ?c_best_tail ?k_best_tail ?a_heaviest_tails ?l_heaviest_tails ?c_heaviest_tails ?k_heaviest_tails ?a_heaviest_syllable ?l_heaviest_syllable ?c_heaviest_syllable ?k_heaviest_syllable ?a_letter_on ?l_letter_on ?c_letter_on ?k_letter_on ?a_can_end ?l_can_end ?c_can_end ?k_can_end ?a_is_new ?l_is_new ?c_is_new ?k_is_new ?a_overflow ?l_overflow ?c_overflow ?k_overflow ?a_law_cell ?l_law_cell ?c_law_cell ?k_law_cell ?a_law_row ?l_law_row ?c_law_row ?k_law_row ?a_law_letters ?l_law_letters ?c_law_letters ?k_law_letters ?a_law_joint ?l_law_joint ?c_law_joint ?k_law_joint ?a_law_written ?l_law_written ?c_law_written ?k_law_written ?a_law_list ?l_law_list ?c_law_list ?k_law_list ?a_law_says ?l_law_says ?c_law_says ?k_law_says ?a_law_fits ?l_law_fits ?c_law_fits ?k_law_fits ?a_law_is_joint ?l_law_is_joint ?c_law_is_joint ?k_law_is_joint ?a_law_word ?l_law_word ?c_law_word ?k_law_word ?a_law_numbers ?l_law_numbers ?c_law_numbers ?k_law_numbers ?a_law_can_be_set ?l_law_can_be_set ?c_law_can_be_set ?k_law_can_be_set ?a_law_short_words ?l_law_short_words ?c_law_short_words ?k_law_short_words ?a_law_is_ahead ?l_law_is_ahead ?c_law_is_ahead ?k_law_is_ahead ?a_law_near ?l_law_near ?c_law_near ?k_law_near ?a_law_is_word ?l_law_is_word ?c_law_is_word ?k_law_is_word ?a_law_holds ?l_law_holds ?c_law_holds ?k_law_holds ?a_law_overflow ?l_law_overflow ?c_law_overflow ?k_law_overflow ?a_law ?l_law ?c_law ?k_law ?pg ?hd ?po ?sa ?mk ?kc ?nR ?nL ?rdT ?gaT ?moT ?nN ?nT ?z_len ?z_range ?z_zip ?z_enumerate ?z_list ?z_dict ?z_int ?z_sorted ?z_min ?z_max ?z_isinstance ?z_str
    (case aC => k_is)
    (case a_sides => k_is)
    (case l_sides => k_is)
    (case c_sides => k_is)
    (case k_sides => k_is)
    (case a_is_part => k_is)
    (case l_is_part => k_is)
    (case c_is_part => k_is)
    (case k_is_part => k_is)
    (case a_read_joint => k_is)
    (case l_read_joint => k_is)
    (case c_read_joint => k_is)
    (case k_read_joint => k_is)
    (case a_stands_for => k_is)
    (case l_stands_for => k_is)
    (case c_stands_for => k_is)
    (case k_stands_for => k_is)
    (case a_Joints_decider => k_is)
    (case i_Joints_decider => k_is)
    (case l_Joints_decider => k_is)
    (case c_Joints_decider => k_is)
    (case k_Joints_decider => k_is)
    (case a_Joints_is_joint => k_is)
    (case i_Joints_is_joint => k_is)
    (case l_Joints_is_joint => k_is)
    (case c_Joints_is_joint => k_is)
    (case k_Joints_is_joint => k_is)
    (case a_Joints_init => k_is)
    (case i_Joints_init => k_is)
    (case l_Joints_init => k_is)
    (case c_Joints_init => k_is)
    (case k_Joints_init => k_is)
    (case a_joint_table => k_is)
    (case l_joint_table => k_is)
    (case c_joint_table => k_is)
    (case k_joint_table => k_is)
    (case a_next_gaps => k_is)
    (case l_next_gaps => k_is)
    (case c_next_gaps => k_is)
    (case k_next_gaps => k_is)
    (case a_best_tail => k_is)
    (case l_best_tail => k_is)
    (case c_best_tail => k_is)
    (case k_best_tail => k_is)
    (case a_heaviest_tails => k_is)
    (case l_heaviest_tails => k_is)
    (case c_heaviest_tails => k_is)
    (case k_heaviest_tails => k_is)
    (case a_heaviest_syllable => k_is)
    (case l_heaviest_syllable => k_is)
    (case c_heaviest_syllable => k_is)
    (case k_heaviest_syllable => k_is)
    (case a_letter_on => k_is)
    (case l_letter_on => k_is)
    (case c_letter_on => k_is)
    (case k_letter_on => k_is)
    (case a_can_end => k_is)
    (case l_can_end => k_is)
    (case c_can_end => k_is)
    (case k_can_end => k_is)
    (case a_is_new => k_is)
    (case l_is_new => k_is)
    (case c_is_new => k_is)
    (case k_is_new => k_is)
    (case a_overflow => k_is)
    (case l_overflow => k_is)
    (case c_overflow => k_is)
    (case k_overflow => k_is)
    (case a_law_cell => k_is)
    (case l_law_cell => k_is)
    (case c_law_cell => k_is)
    (case k_law_cell => k_is)
    (case a_law_row => k_is)
    (case l_law_row => k_is)
    (case c_law_row => k_is)
    (case k_law_row => k_is)
    (case a_law_letters => k_is)
    (case l_law_letters => k_is)
    (case c_law_letters => k_is)
    (case k_law_letters => k_is)
    (case a_law_joint => k_is)
    (case l_law_joint => k_is)
    (case c_law_joint => k_is)
    (case k_law_joint => k_is)
    (case a_law_written => k_is)
    (case l_law_written => k_is)
    (case c_law_written => k_is)
    (case k_law_written => k_is)
    (case a_law_list => k_is)
    (case l_law_list => k_is)
    (case c_law_list => k_is)
    (case k_law_list => k_is)
    (case a_law_says => k_is)
    (case l_law_says => k_is)
    (case c_law_says => k_is)
    (case k_law_says => k_is)
    (case a_law_fits => k_is)
    (case l_law_fits => k_is)
    (case c_law_fits => k_is)
    (case k_law_fits => k_is)
    (case a_law_is_joint => k_is)
    (case l_law_is_joint => k_is)
    (case c_law_is_joint => k_is)
    (case k_law_is_joint => k_is)
    (case a_law_word => k_is)
    (case l_law_word => k_is)
    (case c_law_word => k_is)
    (case k_law_word => k_is)
    (case a_law_numbers => k_is)
    (case l_law_numbers => k_is)
    (case c_law_numbers => k_is)
    (case k_law_numbers => k_is)
    (case a_law_can_be_set => k_is)
    (case l_law_can_be_set => k_is)
    (case c_law_can_be_set => k_is)
    (case k_law_can_be_set => k_is)
    (case a_law_short_words => k_is)
    (case l_law_short_words => k_is)
    (case c_law_short_words => k_is)
    (case k_law_short_words => k_is)
    (case a_law_is_ahead => k_is)
    (case l_law_is_ahead => k_is)
    (case c_law_is_ahead => k_is)
    (case k_law_is_ahead => k_is)
    (case a_law_near => k_is)
    (case l_law_near => k_is)
    (case c_law_near => k_is)
    (case k_law_near => k_is)
    (case a_law_is_word => k_is)
    (case l_law_is_word => k_is)
    (case c_law_is_word => k_is)
    (case k_law_is_word => k_is)
    (case a_law_holds => k_is)
    (case l_law_holds => k_is)
    (case c_law_holds => k_is)
    (case k_law_holds => k_is)
    (case a_law_overflow => k_is)
    (case l_law_overflow => k_is)
    (case c_law_overflow => k_is)
    (case k_law_overflow => k_is)
    (case a_law => k_is)
    (case l_law => k_is)
    (case c_law => k_is)
    (case k_law => k_is)
    (case pg => k_is)
    (case hd => k_is)
    (case po => k_is)
    (case sa => k_is)
    (case mk => k_is)
    (case kc => k_is)
    (case nR => k_is)
    (case nL => k_is)
    (case rdT => k_is)
    (case gaT => k_is)
    (case moT => k_is)
    (case nN => k_is)
    (case nT => k_is)
    (case z_len => k_is)
    (case z_range => k_is)
    (case z_zip => k_is)
    (case z_enumerate => k_is)
    (case z_list => k_is)
    (case z_dict => k_is)
    (case z_int => k_is)
    (case z_sorted => k_is)
    (case z_min => k_is)
    (case z_max => k_is)
    (case z_isinstance => k_is)
    (case z_str => k_is)
