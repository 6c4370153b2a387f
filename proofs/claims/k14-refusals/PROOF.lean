import PyProof.Rows.All
import Wide.All
import OpenK.AllK
import Wide.FinOn
import HandS.Base
import HandS.Call
import HandS.List
import HandS.Comp
import HandS.Iter
import HandS.Text
import HandS.Ends
import HandS.Words
import HandS.WordsList
import HandS.WordsDict
import HandS.IsInst
import HandS.TupAny
import HandS.Wide
import HandS.SetKeys
import HandS.SetBool
import PyProof.ListStr
import HandS.Walk
import HandS.ExcInit
import HandS.Defaults
import HandS.ExcValue
import HandS.ExcIs
import HandS.ExcField
import HandS.Head0
import HandS.Head1
import HandS.Head2
import HandS.HeadEnd
import HandS.HeadHook1
import HandS.HeadHook2
import HandS.Zip
import HandS.Style
import PySem.Challenge.RW_leanscript_k14_refusals
set_option Elab.async false
set_option linter.all false
set_option maxRecDepth 100000
set_option maxHeartbeats 4000000
/-! rules of mine over the hand layer: operators by what the values are -/
namespace LK
open PySem PySem.Spec PyProof.Rows L2
section
variable {X : Cx}

/-! one operator, several kinds of values -/
def rAddM (K : PySem.W.Frag) : R2 := fun x y H Q => match x, y with
  | .int i, .int j => Q (.int (i + j)) H
  | .str a, .str b => a.length + b.length ≤ sizeLine ∧ Q (.str (a ++ b)) H
  | .ref a, .ref b => (∃ xs ys, H a = some (.lst xs) ∧ H b = some (.lst ys) ∧ xs.length + ys.length ≤ sizeLine ∧ ∀ p, H p = none → Q (.ref p) (upd H p (.lst (xs ++ ys)))) ∨
      rCatA K (.ref a) (.ref b) H Q
  | _, _ => False
theorem op_addM : OpR X (binaryOp .Add) (rAddM X.K) := by
  intro pins s σ H x y v u Q I rx ry h
  cases x <;> cases y <;> try exact (show False from h).elim
  · exact op_add pins s σ H _ _ v u Q I rx ry ⟨_, _, rfl, rfl, h⟩
  · exact op_add_str pins s σ H _ _ v u Q I rx ry ⟨_, _, rfl, rfl, h.1, h.2⟩
  · rcases h with ⟨xs, ys, h1, h2, h3, h4⟩ | h
    · exact op_cat pins s σ H _ _ v u Q I rx ry ⟨_, _, xs, ys, rfl, rfl, h1, h2, h3, h4⟩
    · exact op_catA pins s σ H _ _ v u Q I rx ry h
def rMulM (K : PySem.W.Frag) : R2 := fun x y H Q => match x, y with
  | .int i, .int j => (CMul i j ∨ CMulW i j) ∧ Q (.int (i * j)) H
  | .ref a, .int k => ∃ xs, H a = some (.lst xs) ∧ -(2 ^ 63) ≤ k ∧ k < 2 ^ 63 ∧ xs.length * k.toNat ≤ sizeLine ∧ ∀ p, H p = none → Q (.ref p) (upd H p (.lst (List.replicate k.toNat xs).flatten))
  | _, _ => False
theorem op_mulM : OpR X (binaryOp .Mult) (rMulM X.K) := by
  intro pins s σ H x y v u Q I rx ry h
  cases x <;> cases y <;> try exact (show False from h).elim
  · rcases h with ⟨h | h, q⟩
    · exact op_mul pins s σ H _ _ v u Q I rx ry ⟨_, _, rfl, rfl, h, q⟩
    · exact op_mulW pins s σ H _ _ v u Q I rx ry ⟨_, _, rfl, rfl, h, q⟩
  · obtain ⟨xs, h1, h2⟩ := h
    exact op_rep pins s σ H _ _ v u Q I rx ry ⟨_, _, xs, rfl, rfl, h1, h2⟩
def rCmpM (pi : Int → Int → Bool) (ps : Str → Str → Bool) : R2 := fun x y H Q => match x, y with
  | .int i, .int j => Q (.bl (pi i j)) H
  | .str i, .str j => Q (.bl (ps i j)) H
  | _, _ => False
theorem op_ltM : OpR X (compareOp .Lt) (rCmpM (fun i j => decide (i < j)) fun i j => decide (i.cps.toList < j.cps.toList)) := by
  intro pins s σ H x y v u Q I rx ry h
  cases x <;> cases y <;> try exact (show False from h).elim
  · exact op_lt pins s σ H _ _ v u Q I rx ry ⟨_, _, rfl, rfl, h⟩
  · exact op_lt_str pins s σ H _ _ v u Q I rx ry ⟨_, _, rfl, rfl, h⟩
theorem op_leM : OpR X (compareOp .LtE) (rCmpM (fun i j => decide (i ≤ j)) fun i j => !decide (j.cps.toList < i.cps.toList)) := by
  intro pins s σ H x y v u Q I rx ry h
  cases x <;> cases y <;> try exact (show False from h).elim
  · exact op_le pins s σ H _ _ v u Q I rx ry ⟨_, _, rfl, rfl, h⟩
  · exact op_le_str pins s σ H _ _ v u Q I rx ry ⟨_, _, rfl, rfl, h⟩
theorem op_gtM : OpR X (compareOp .Gt) (rCmpM (fun i j => decide (j < i)) fun i j => decide (j.cps.toList < i.cps.toList)) := by
  intro pins s σ H x y v u Q I rx ry h
  cases x <;> cases y <;> try exact (show False from h).elim
  · exact op_gt pins s σ H _ _ v u Q I rx ry ⟨_, _, rfl, rfl, h⟩
  · exact op_gt_str pins s σ H _ _ v u Q I rx ry ⟨_, _, rfl, rfl, h⟩
theorem op_geM : OpR X (compareOp .GtE) (rCmpM (fun i j => decide (j ≤ i)) fun i j => !decide (i.cps.toList < j.cps.toList)) := by
  intro pins s σ H x y v u Q I rx ry h
  cases x <;> cases y <;> try exact (show False from h).elim
  · exact op_ge pins s σ H _ _ v u Q I rx ry ⟨_, _, rfl, rfl, h⟩
  · exact op_ge_str pins s σ H _ _ v u Q I rx ry ⟨_, _, rfl, rfl, h⟩
theorem op_eqM (hu : X.A.units + 64 < cLine) : OpR X (compareOp .Eq) (fun x y H Q => rEq x y H Q ∨ rEqD X.K x y H Q) := op_eq.or (op_eqD hu)
theorem op_neM (hu : X.A.units + 64 < cLine) : OpR X (compareOp .NotEq) (fun x y H Q => rNe x y H Q ∨ rNeD X.K x y H Q) := op_ne.or (op_neD hu)
/-- x in a text, in a list or tuple of flat things -/
def rInM (K : PySem.W.Frag) (neg : Bool) : R2 := fun x y H Q => match y with
  | .str z => ∃ a, x = .str a ∧ Q (.bl (if neg then !(!(Builtin.Str.occurrences z a 0 z.length 1).isEmpty) else !(Builtin.Str.occurrences z a 0 z.length 1).isEmpty)) H
  | .ref _ => rIn K neg x y H Q
  | _ => False
theorem op_inM : OpR X (compareOp .In) (rInM X.K false) := by
  intro pins s σ H x y v u Q I rx ry h
  cases y <;> try exact (show False from h).elim
  · obtain ⟨a, rfl, q⟩ := h
    exact op_in_str pins s σ H _ _ v u Q I rx ry ⟨_, _, rfl, rfl, q⟩
  · exact op_in_seq pins s σ H _ _ v u Q I rx ry h
theorem op_ninM : OpR X (compareOp .NotIn) (rInM X.K true) := by
  intro pins s σ H x y v u Q I rx ry h
  cases y <;> try exact (show False from h).elim
  · obtain ⟨a, rfl, q⟩ := h
    exact op_notin_str pins s σ H _ _ v u Q I rx ry ⟨_, _, rfl, rfl, q⟩
  · exact op_notIn_seq pins s σ H _ _ v u Q I rx ry h
theorem ix_M : IxR X (rIx X.K) := ix_seq
def rSlM (K : PySem.W.Frag) : V → Option Int → Option Int → Hp → VK → Prop := fun x lo hi H Q => rSlL K x lo hi H Q ∨ rSlA K x lo hi H Q ∨ rSlS x lo hi H Q
theorem sl_M : SlR X (rSlM X.K) := sl_list.or (sl_tupA.or sl_str)
theorem set_M : PSet X rSetL := set_list
/-- list(x): of a list, a tuple, a text -/
def rListM (K : PySem.W.Frag) : List V → Hp → VK → Prop := fun xs H Q => (∃ p ys, xs = [.ref p] ∧ (SqL K H p ys ∨ SqT K H p ys) ∧ ∀ l, H l = none → Q (.ref l) (upd H l (.lst ys))) ∨
  ∃ z : Str, xs = [.str z] ∧ z.length ≤ sizeLine ∧ ∀ l, H l = none → Q (.ref l) (upd H l (.lst (z.cps.toList.map fun c => V.str ⟨#[c]⟩)))
end
end LK

set_option Elab.async false
set_option linter.all false
set_option maxRecDepth 100000
set_option maxHeartbeats 4000000
/-! a set comprehension of ints and texts; its length; list(text) -/
namespace LK
open PySem PySem.Spec PyProof.Rows L2
section
variable {X : Cx}
/-- a set's new state behind one key more -/
abbrev SetK' (P : Program) (w : World) (D : Addr) (S : Key → Bool) (n : Nat) (k : Key) : HO :=
  SetK P w D (fun j => S j || decide (j = k)) (if S k = true then n else n + 1)
/-- {elt for target in iter if ..}: D the new set -/
def tScK (P : Program) (w : World) (wi : TI) (g : TG) (tt : TT) (te : TE) (vs : List Nat) : TE := fun σ H Q => wi σ H fun J H1 => ∀ D, H1 D = none →
  ∃ W : Nat → Nat → Hp → Prop, (∃ m, W 0 m (upd H1 D (SetK P w D (fun _ => false) 0))) ∧ ∀ i m H, W i m H →
    (J.stop i H ∧ Q (.ref D) H) ∨ (J.go i H ∧ ∃ Nx : Hp → Prop, (∀ H', Nx H' → ∃ m', m' < m ∧ W (i + 1) m' H') ∧
      ∀ x H', J.yld i H x H' → g x (wipe σ vs) H' fun σ2 H2 => wipe σ2 vs = wipe σ vs ∧ tt σ2 H2 fun b H3 => if b = true
        then te σ2 H3 fun y H4 => ∃ (k : Key) (S : Key → Bool) (n : Nat), y = kV k ∧ H4 D = some (SetK P w D S n) ∧ n + 1 < scanBound ∧ Nx (upd H4 D (SetK' P w D S n k))
        else Nx H3)
theorem addK_ok {pins : List (Addr × Obj)} {σ : L2.St} {H : Hp} {s : Shared} {E : Value → Shared → Prop} {D : Addr} {S : Key → Bool} {n : Nat} {k : Key} {v : Value} {Q : Value → Shared → Prop}
    (I : Inv X pins σ H s) (r : RelV (kV k) v) (hD : H D = some (SetK X.prog X.w D S n)) (room : n + 1 < scanBound) (h : ∀ s', Inv X pins σ (upd H D (SetK' X.prog X.w D S n k)) s' → Q .none s') :
    wpAny (model X.prog X.w) X.A (call (.builtin "set.add") [.ref D, v]) Q E s :=
  call_set_add (kV_is r) (key_scan r) (setK_get I hD) room fun h' sb fresh => by
    obtain ⟨o, es, ep, t, ho, more⟩ := fresh
    exact h _ (I.write (e := D) (t' := s.toks + 1) (by rw [hD]; trivial) (.inl rfl) (fun b u hb hu => (sb.2 b hb).trans hu) ⟨o, ho⟩ (setK_new ⟨o, es, ep, t, ho, more⟩))
theorem setK_empty (P : Program) (w : World) (h : Heap) : (h.push { cls := .type "set", dict := none, data := .set #[] 0 (.fresh 0 0 (!w.params.followText "set-order")) }).SetOf (mixKind P w) h.objs.size (fun _ => false) 0 :=
  ⟨_, #[], 0, _, Heap.get?_push_size _ rfl, ⟨rfl, rfl, rfl⟩, rfl, (fun e he => by simp at he), (fun k => by simp), (by decide), (by rfl), rfl⟩
theorem pe_scK {elt tg iter : Expr} {ifs : List Expr} {scope : Scope} {own : List (Str × Nat)} {pos : Pos} {wi : TI} {g : TG} {tt : TT} {te : TE}
    (hc : X.calm = true) (hN : X.N.Nodup) (hi : PI X tg iter wi) (ok : BlkOk X.N X.env.scope scope own)
    (hg : ∀ (s : Shared) (H : Hp) (C : Addr) (cl : List (Str × Addr)) (fp : List Addr), PG (X.blk s H scope (compEnvC scope cl C X.env) fp) tg g)
    (ht : ∀ (s : Shared) (H : Hp) (C : Addr) (cl : List (Str × Addr)) (fp : List Addr), PTs (X.blk s H scope (compEnvC scope cl C X.env) fp) ifs tt)
    (he : ∀ (s : Shared) (H : Hp) (C : Addr) (cl : List (Str × Addr)) (fp : List Addr), PE (X.blk s H scope (compEnvC scope cl C X.env) fp) elt te)
    (hs : ∀ x, foldedSetIterable iter X.env x = pure x := by intro _; rfl) : PE X (.SetComp elt [⟨tg, iter, ifs, 0⟩] scope pos) (tScK X.prog X.w wi g tt te (own.map (·.2))) := by
  refine ⟨fun pins s σ H Q I h => ?_⟩
  rw [PpSet.eval_SetComp]
  have cells : ∀ y ∈ scope.names, y.2 = .free → ∃ c, X.env.cells.lookup y.1 = some c := fun y hy e => (ok.free y hy e).elim (fun k => I.ok.has _ (.inl k)) fun k => I.ok.has _ (.inr k)
  refine wpAny_comprehension_free (use := none) rfl hs (closure_ok cells) ok.kind (fun y hy e => by rw [ok.uniq y hy, e]) ?_
  refine thn (hi.run pins s σ H _ I h) fun xv s1 hx => thn hx fun itv s2 h2 => ?_
  obtain ⟨it, fp, tn, J, Ha, rfl, Ia, T, sta, fa, q⟩ := h2
  refine PpSet.newSet_ok (newEnv_comp ?_)
  obtain ⟨D, hD⟩ : ∃ D, D = s2.heap.objs.size := ⟨_, rfl⟩
  obtain ⟨W, ⟨m0, w0⟩, turn⟩ := q D (Ia.hok.fresh (Nat.le_of_eq hD.symm))
  rw [← hD]
  -- the set is laid
  obtain ⟨sb, hsb⟩ : ∃ sb : Shared, sb = { s2 with heap := s2.heap.push { cls := .type "set", dict := none, data := .set #[] 0 (.fresh 0 0 (!X.w.params.followText "set-order")) } } := ⟨_, rfl⟩
  obtain ⟨Hb, hHb⟩ : ∃ Hb : Hp, Hb = upd Ha D (SetK X.prog X.w D (fun _ => false) 0) := ⟨_, rfl⟩
  have hpb : sb.heap = s2.heap.push { cls := .type "set", dict := none, data := .set #[] 0 (.fresh 0 0 (!X.w.params.followText "set-order")) } := by rw [hsb]
  have kb : ∀ b o, s2.heap.get? b = some o → sb.heap.get? b = some o := fun b o e => by
    rw [hpb]; exact Heap.get?_push_of_some _ e
  have Ib : Inv X pins σ Hb sb := by
    rw [hsb, hHb]
    refine Ia.laid (t' := s2.toks) (fun b o e => Heap.get?_push_of_some _ e) (Nat.le_of_eq hD.symm) ?_
    rw [hD]
    exact setK_new (setK_empty X.prog X.w s2.heap)
  have fb : ∀ b ∈ fp, FpOk X pins Hb b ∧ b < sb.heap.objs.size := fun b hb => by
    obtain ⟨o, e, _⟩ := T.obj _ _ sta b hb
    have lt := Heap.lt_size e
    refine ⟨⟨?_, (fa b hb).2⟩, by rw [hpb, Heap.size_push]; exact Nat.lt_succ_of_lt lt⟩
    rw [hHb, upd_ne (by rw [hD]; exact Nat.ne_of_lt lt)]
    exact (fa b hb).1
  have stb : tn 0 sb.heap := T.keep _ _ _ sta fun b _ o e => kb b o e
  have Ic := block_start Ib ok hN fb
  have nb : ∀ b ∈ fp, Hb b = none := fun b hb => (fb b hb).1.1
  rw [← hHb] at w0
  rw [← hsb]
  show codeAny _ _ (.compStart (.SetComp elt [⟨tg, iter, ifs, 0⟩] scope pos) 0 (.ref it) (.ref D) (compEnvC scope (cellsFrom (sb.heap.objs.size + 1) scope.names (cloFrom X.env.cells scope.names [])) sb.heap.objs.size X.env)) (compPost (model X.prog X.w) X.A X.xe none _ (.ref D) sb.heap.objs.size) { sb with heap := pushCells (sb.heap.push { cls := .type "dict", data := .dict #[] }) scope.names }
  obtain ⟨ce, hce⟩ : ∃ ce, ce = compEnvC scope (cellsFrom (sb.heap.objs.size + 1) scope.names (cloFrom X.env.cells scope.names [])) sb.heap.objs.size X.env := ⟨_, rfl⟩
  have pg : PG (X.blk sb Hb scope ce fp) tg g := by rw [hce]; exact hg _ _ _ _ _
  have pt : PTs (X.blk sb Hb scope ce fp) ifs tt := by rw [hce]; exact ht _ _ _ _ _
  have pe : PE (X.blk sb Hb scope ce fp) elt te := by rw [hce]; exact he _ _ _ _ _
  have cL : ce.locals = sb.heap.objs.size := by rw [hce]; rfl
  rw [← hce] at Ic ⊢
  obtain ⟨sc, hsc⟩ : ∃ sc : Shared, sc = { sb with heap := pushCells (sb.heap.push { cls := .type "dict", data := .dict #[] }) scope.names } := ⟨_, rfl⟩
  rw [← hsc] at Ic ⊢
  have stc : tn 0 sc.heap := T.keep _ _ _ stb fun b _ o e => by
    rw [hsc]; exact pushCells_keeps _ _ _ _ (Heap.get?_push_of_some _ e)
  have stat : ∀ {σ' : L2.St} {H' : Hp} {s' : Shared}, Inv (X.blk sb Hb scope ce fp) [] σ' H' s' → (∀ b ∈ fp, H' b = none) → ∀ b ∈ fp, FpOk (X.blk sb Hb scope ce fp) [] H' b := fun {σ' H' s'} J' hn b hb =>
    ⟨hn b hb, (J'.ok.exf b hb).1, J'.ok.exfs b hb, .inl hb, fun x c e => (J'.ok.exf b hb).2 x c e, fun p hp => by cases hp⟩
  have loop : codeAny (model X.prog X.w) X.A (.compLoop (.SetComp elt [⟨tg, iter, ifs, 0⟩] scope pos) 0 (.ref it) (.ref D) ce) (compPost (model X.prog X.w) X.A X.xe none (EP X pins σ Q) (.ref D) sb.heap.objs.size) sc := by
    refine PpSet.compLoopS_any (fun n s' => ∃ i H', Inv (X.blk sb Hb scope ce fp) [] (wipe σ (own.map (·.2))) H' s' ∧ tn i s'.heap ∧ (∀ b ∈ fp, H' b = none) ∧ W i n H') ?_ m0 ⟨0, Hb, Ic, stc, nb, w0⟩
    rintro n s5 ⟨i, H5, I5, st5, n5, w5⟩
    rcases turn i n H5 w5 with ⟨halt, qq⟩ | ⟨go, Nx, hNx, step⟩
    · refine thnF (T.done (X.blk sb Hb scope ce fp) rfl rfl rfl hc i [] s5 _ H5 (fun _ _ => False) I5 (stat I5 n5) st5 halt) fun r s6 hr6 => ?_
      obtain ⟨rfl, I6⟩ := hr6
      have I7 : Inv X pins σ H5 s6 := Ib.call' (ch := fp) I6.os I6.base I6.hok I6.bare fun b hb => by
        obtain ⟨⟨_, f2, f3, f4, f5, f6⟩, _⟩ := fb b hb
        exact ⟨f4, f2, f5, f6⟩
      have nC : H5 sb.heap.objs.size = none := by
        have z : H5 ce.locals = none := I6.free
        rwa [cL] at z
      obtain ⟨mm, hmm, _⟩ := I6.loc
      have hmm : s6.heap.Ns ce.locals mm := hmm
      rw [cL] at hmm
      obtain ⟨f0, f1, f2, f3, f4, f5⟩ := Ib.fpOk (Nat.le_refl _) nC
      exact ⟨mm, hmm, fun h'' keep => ⟨.ref D, H5, I7.turned (t' := s6.toks) (fun b o hb e => (keep.2 b hb).trans e) f0 f1 f3 f4 f5, rfl, qq⟩⟩
    · refine thnF (T.item (X.blk sb Hb scope ce fp) rfl rfl rfl hc i [] s5 _ H5 (fun _ _ => False) I5 (stat I5 n5) st5 go) fun r s6 h6 => ?_
      obtain ⟨u, rfl, h6⟩ := h6
      refine thnF h6 fun _ s7 h7 => ?_
      obtain ⟨x, H7, I7, r7, y7, st7, n7⟩ := h7
      refine thnF (pg.run _ s7 _ H7 x u _ (I7.pinned (stat I7 n7) (T.obj _ _ st7)) r7 (step x H7 y7)) fun _ s8 h8 => ?_
      obtain ⟨σ8, H8, I8, hw8, q8⟩ := h8
      refine thnF (pt.run _ s8 σ8 H8 _ I8 q8) fun b s9 h9 => ?_
      obtain ⟨H9, I9, q9⟩ := h9
      have back : ∀ {s' : Shared} {H' : Hp}, Inv (X.blk sb Hb scope ce fp) ([] ++ pinsAt fp s7.heap) σ8 H' s' → Nx H' →
          ∃ m, m < n ∧ ∃ i H', Inv (X.blk sb Hb scope ce fp) [] (wipe σ (own.map (·.2))) H' s' ∧ tn i s'.heap ∧ (∀ b ∈ fp, H' b = none) ∧ W i m H' := fun {s' H'} J' nx => by
        obtain ⟨m', hm, w'⟩ := hNx H' nx
        have still : ∀ b ∈ fp, ∀ o, s7.heap.get? b = some o → s'.heap.get? b = some o ∧ H' b = none := fun b hb o e => by
          have z := J'.pin (b, o) (List.mem_append_right _ (List.mem_append_right _ (mem_pinsAt hb e)))
          exact ⟨z.1, z.2.1⟩
        refine ⟨m', hm, i + 1, H', (J'.unpinned (pins := [])).weak (by rw [← hw8, wipe_length]) (fun j v e => ?_), T.keep _ _ _ st7 fun b hb o e => (still b hb o e).1, fun b hb => ?_, w'⟩
        · rw [← hw8] at e
          exact (wipe_some e).1
        · obtain ⟨o, e, _⟩ := T.obj _ _ st7 b hb
          exact (still b hb o e).2
      cases b with
      | false => exact back I9 q9
      | true =>
        refine thnF (pe.run _ s9 σ8 H9 _ I9 q9) fun z s10 h10 => ?_
        obtain ⟨yv, H10, I10, r10, key, S0, n0, rfl, hD10, hz10, nx⟩ := h10
        exact addK_ok (X := X.blk sb Hb scope ce fp) I10 r10 hD10 hz10 fun s11 I11 => back I11 nx
  exact PpSet.codeAny_compStart_set loop (T.self X.A 0 _ _ _ stc loop)
/-- len of a set of keys -/
def rLenK (P : Program) (w : World) : List V → Hp → VK → Prop := fun xs H Q => ∃ (a : Addr) (S : Key → Bool) (n : Nat), xs = [.ref a] ∧ H a = some (SetK P w a S n) ∧ Q (.int n) H
theorem call_lenK : CallR X (.builtin "len") (rLenK X.prog X.w) := by
  intro pins s σ H xs us Q I r h
  obtain ⟨a, S, n, rfl, ha, q⟩ := h
  obtain ⟨u, rfl, rx⟩ := vals1 r
  cases rx
  obtain ⟨o, es, ep, t, ho, hex, hd, _, _, hb, hf, hn⟩ := setK_get I ha
  have hb' : es.size < 4096 := hb
  exact call_len_set ho hex hd hf (by omega) ⟨.int n, H, I.tok _, ⟨_, by rw [← hn]⟩, q⟩
theorem signs_vals {z : Str} {acc : Array Value} (h : ItemsOf (SignAt z) acc z.cps.size) : Vals (z.cps.toList.map fun c => V.str ⟨#[c]⟩) acc.toList := by
  obtain ⟨hs, hp⟩ := h
  have key : ∀ (l : List Nat) (us : List Value), l.length = us.length → (∀ (j : Nat) (u : Value), us[j]? = some u → ∃ (c : Nat) (t : Tok), l[j]? = some c ∧ u = Value.str ⟨#[c]⟩ t) → Vals (l.map fun c => V.str ⟨#[c]⟩) us := by
    intro l
    induction l with
    | nil =>
      intro us hl _
      cases us with
      | nil => exact .nil
      | cons _ _ => simp at hl
    | cons c l ih =>
      intro us hl hu
      cases us with
      | nil => simp at hl
      | cons u us =>
        obtain ⟨c', t, e1, e2⟩ := hu 0 u rfl
        have e1' : c = c' := by simpa using e1
        subst e1'
        exact .cons ⟨t, e2⟩ (ih us (by simpa using hl) fun j v e => by simpa using hu (j + 1) v (by simpa using e))
  refine key _ _ (by simp [hs]) fun j u e => ?_
  obtain ⟨c, t, e1, e2⟩ := hp j u (by simpa using e)
  exact ⟨c, t, by simpa using e1, e2⟩
theorem call_listM (hc : X.calm = true) : CallR X (.type "list") (rListM X.K) := by
  intro pins s σ H xs us Q I r h
  rcases h with ⟨p, ys, rfl, hq, q⟩ | ⟨z, rfl, hz, q⟩
  · exact call_list_of pins s σ H _ us Q I r ⟨p, ys, rfl, hq, q⟩
  · obtain ⟨u, rfl, t, rfl⟩ := vals1 r
    have hlen : z.cps.size ≤ sizeLine := hz
    refine call_list_str (I.ok.hd hc) z t (fun h' tk acc c' keep hget items => ?_) hlen
    have rv := signs_vals items
    refine ⟨.ref s.heap.objs.size, _, I.laid (t' := tk) (o := .lst (z.cps.toList.map fun c => V.str ⟨#[c]⟩)) keep (Nat.le_refl _) ⟨?_, acc.toList, c', rv, ?_⟩, rfl, q _ (I.hok.fresh (Nat.le_refl _))⟩
    · rw [List.length_map, Array.length_toList]; exact hlen
    · exact hget
end
end LK

set_option Elab.async false
set_option linter.all false
set_option maxRecDepth 100000
set_option maxHeartbeats 4000000
/-! pure walks: what a comprehension makes where its turns leave what stands -/
namespace LK
open PySem PySem.Spec PyProof.Rows L2
theorem Same.new {H : Hp} {p : Addr} {o : HO} (h : H p = none) : Same H (upd H p o) := fun b u e => by
  rw [upd_ne (ne_of_none e h)]
  exact e
theorem Same.mut {H H' : Hp} {p : Addr} {o : HO} (e : Same H H') (h : H p = none) : Same H (upd H' p o) := fun b u hb => by
  rw [upd_ne (ne_of_none hb h)]
  exact e b u hb
theorem Same.seqT {K : PySem.W.Frag} {H H' : Hp} {a : Addr} {xs : List V} (e : Same H H') (h : SqT K H a xs) : SqT K H' a xs := by
  rcases h with (h | ⟨o, h⟩) | h
  · exact .inl (.inl (e _ _ h))
  · exact .inl (.inr ⟨o, e _ _ h⟩)
  · exact .inr h
mutual
theorem dp_same {K : PySem.W.Frag} {H H' : Hp} (e : Same H H') : ∀ {v : V} {d : PyData}, Dp K H v d → Dp K H' v d
  | _, _, .non => .non
  | _, _, .bl b => .bl b
  | _, _, .int i => .int i
  | _, _, .str x => .str x
  | _, _, .lst h r => .lst (e.seq h) (dpAll_same e r)
  | _, _, .tup h r => .tup (Same.seqT e h) (dpAll_same e r)
theorem dpAll_same {K : PySem.W.Frag} {H H' : Hp} (e : Same H H') : ∀ {vs : List V} {ds : List PyData}, DpAll K H vs ds → DpAll K H' vs ds
  | _, _, .nil => .nil
  | _, _, .cons a r => .cons (dp_same e a) (dpAll_same e r)
end
/-- texts as data -/
theorem dp_strs {K : PySem.W.Frag} {H : Hp} : ∀ (l : List Str), DpAll K H (l.map V.str) (l.map PyData.str)
  | [] => .nil
  | x :: l => .cons (.str x) (dp_strs l)
theorem dp_ints {K : PySem.W.Frag} {H : Hp} : ∀ (l : List Int), DpAll K H (l.map V.int) (l.map PyData.int)
  | [] => .nil
  | x :: l => .cons (.int x) (dp_ints l)

section
variable {J : It} {n : Nat} {G : Hp → Prop} {Y : Nat → Hp → V → Hp → Prop}
/-- a comprehension whose turns only lay new things: f i is what turn i gives, or none; the turn is shown for any wish -/
theorem lc_map (w : Walk J n G Y) {g : TG} {tt : TT} {te : TE} {vs : List Nat} {σ : L2.St} {H1 : Hp} {D : Addr} {Qd : Hp → Prop} (f : Nat → Option V)
    (hD : H1 D = none) (hn : n ≤ sizeLine) (hm : ∀ H, Same H1 H → G H)
    (hs : ∀ i x H H', i < n → Same H1 H → Y i H x H' → ∀ (Ry : V → Hp → Prop) (Rn : Hp → Prop), (∀ y H4, Same H H4 → f i = some y → Ry y H4) → (∀ H3, Same H H3 → f i = none → Rn H3) →
      g x (wipe σ vs) H' fun σ2 H2 => wipe σ2 vs = wipe σ vs ∧ tt σ2 H2 fun b H3 => if b = true then te σ2 H3 Ry else Rn H3)
    (hd : ∀ H, Same H1 H → H D = some (.lst ((List.range n).filterMap f)) → Qd H) :
    ∃ W : Nat → Nat → Hp → Prop, (∃ m, W 0 m (upd H1 D (.lst []))) ∧ ∀ i m H, W i m H →
      (J.stop i H ∧ Qd H) ∨ (J.go i H ∧ ∃ Nx : Hp → Prop, (∀ H', Nx H' → ∃ m', m' < m ∧ W (i + 1) m' H') ∧ ∀ x H', J.yld i H x H' → g x (wipe σ vs) H' fun σ2 H2 => wipe σ2 vs = wipe σ vs ∧ tt σ2 H2 fun b H3 =>
        if b = true then te σ2 H3 fun y H4 => ∃ acc, H4 D = some (.lst acc) ∧ acc.length < sizeLine ∧ Nx (upd H4 D (.lst (acc ++ [y]))) else Nx H3) := by
  refine lc_it w (fun i H => i ≤ n ∧ Same H1 H ∧ H D = some (.lst ((List.range i).filterMap f))) ⟨Nat.zero_le _, Same.new hD, upd_same⟩ (fun i H _ h => hm H h.2.1) (fun i x H H' hi h y => ?_) fun H h => hd H h.2.1 h.2.2
  obtain ⟨_, e, hDl⟩ := h
  have hr : List.range (i + 1) = List.range i ++ [i] := List.range_succ
  refine hs i x H H' hi e y _ _ (fun v H4 e4 ef => ?_) fun H3 e4 ef => ?_
  · refine ⟨_, e4 D _ hDl, ?_, hi, Same.mut (e.trans e4) hD, ?_⟩
    · have : ((List.range i).filterMap f).length ≤ (List.range i).length := List.length_filterMap_le ..
      rw [List.length_range] at this
      omega
    · rw [upd_same, hr, List.filterMap_append]
      simp [ef]
  · refine ⟨hi, e.trans e4, ?_⟩
    rw [e4 D _ hDl, hr, List.filterMap_append]
    simp [ef]
/-- all but D stands as it stood -/
def But (D : Addr) (H H' : Hp) : Prop := ∀ b o, b ≠ D → H b = some o → H' b = some o
theorem But.refl (D : Addr) (H : Hp) : But D H H := fun _ _ _ h => h
theorem But.same {D : Addr} {H H' H'' : Hp} (a : But D H H') (b : Same H' H'') : But D H H'' := fun c o n h => b c o (a c o n h)
theorem But.mut {D : Addr} {H H' : Hp} {o : HO} (a : But D H H') : But D H (upd H' D o) := fun c u n h => by
  rw [upd_ne n]
  exact a c u n h
/-- the inner walk of two clauses, at H4 -/
def Inner (H1 : Hp) (D : Addr) (fi : List V) (g1 : TG) (tt1 : TT) (te : TE) (vs1 : List Nat) (σ2 : L2.St) (J1 : It) (H4 : Hp) : Prop :=
  ∃ (n1 : Nat) (G1 : Hp → Prop) (Y1 : Nat → Hp → V → Hp → Prop) (f1 : Nat → Option V), Walk J1 n1 G1 Y1 ∧ (∀ H', Same H1 H' → But D H4 H' → G1 H') ∧ fi = (List.range n1).filterMap f1 ∧
    ∀ j x H5 H5', j < n1 → Same H1 H5 → But D H4 H5 → Y1 j H5 x H5' → ∀ (Ry : V → Hp → Prop) (Rn : Hp → Prop), (∀ y H8, Same H5 H8 → f1 j = some y → Ry y H8) → (∀ H7, Same H5 H7 → f1 j = none → Rn H7) →
      g1 x (wipe σ2 vs1) H5' fun σ3 H6 => wipe σ3 vs1 = wipe σ2 vs1 ∧ tt1 σ3 H6 fun b H7 => if b = true then te σ3 H7 Ry else Rn H7
/-- two clauses: f i is the list that turn i of the outer walk gives -/
theorem lc2_map (w : Walk J n G Y) {g g1 : TG} {tt tt1 : TT} {wi1 : TI} {te : TE} {vs vs1 : List Nat} {σ : L2.St} {H1 : Hp} {D : Addr} {Qd : Hp → Prop} (f : Nat → List V)
    (hD : H1 D = none) (hm : ∀ H, Same H1 H → G H) (hf : ((List.range n).flatMap f).length ≤ sizeLine)
    (hs : ∀ i x H H', i < n → Same H1 H → Y i H x H' → ∀ (RI : L2.St → It → Hp → Prop) (Rn : Hp → Prop), (∀ σ2 J1 H4, Same H H4 → Inner H1 D (f i) g1 tt1 te vs1 σ2 J1 H4 → RI σ2 J1 H4) → (∀ H3, Same H H3 → f i = [] → Rn H3) →
      g x (wipe σ vs) H' fun σ2 H2 => wipe σ2 vs = wipe σ vs ∧ tt σ2 H2 fun b H3 => if b = true then wi1 σ2 H3 (RI σ2) else Rn H3)
    (hd : ∀ H, Same H1 H → H D = some (.lst ((List.range n).flatMap f)) → Qd H) :
    ∃ W : Nat → Nat → Hp → Prop, (∃ m, W 0 m (upd H1 D (.lst []))) ∧ ∀ i m H, W i m H →
      (J.stop i H ∧ Qd H) ∨ (J.go i H ∧ ∃ Nx : Hp → Prop, (∀ H', Nx H' → ∃ m', m' < m ∧ W (i + 1) m' H') ∧ ∀ x H', J.yld i H x H' → g x (wipe σ vs) H' fun σ2 H2 => wipe σ2 vs = wipe σ vs ∧ tt σ2 H2 fun b H3 =>
        if b = true then wi1 σ2 H3 fun J1 H4 => ∃ W1 : Nat → Nat → Hp → Prop, (∃ m, W1 0 m H4) ∧ ∀ j k H, W1 j k H →
          (J1.stop j H ∧ Nx H) ∨ (J1.go j H ∧ ∃ Nx1 : Hp → Prop, (∀ H', Nx1 H' → ∃ k', k' < k ∧ W1 (j + 1) k' H') ∧ ∀ x H', J1.yld j H x H' → g1 x (wipe σ2 vs1) H' fun σ3 H5 => wipe σ3 vs1 = wipe σ2 vs1 ∧ tt1 σ3 H5 fun b H6 =>
            if b = true then te σ3 H6 fun y H7 => ∃ acc, H7 D = some (.lst acc) ∧ acc.length < sizeLine ∧ Nx1 (upd H7 D (.lst (acc ++ [y]))) else Nx1 H6)
        else Nx H3) := by
  have sz : ∀ i, i < n → ((List.range i).flatMap f).length + (f i).length ≤ sizeLine := fun i hi => by
    refine Nat.le_trans ?_ hf
    have h1 : List.range n = List.range (i + 1) ++ (List.range (n - (i + 1))).map (fun k => (i + 1) + k) := by
      rw [← List.range_add]
      congr 1
      omega
    rw [h1, List.range_succ, List.flatMap_append, List.flatMap_append, List.length_append, List.length_append, List.flatMap_singleton]
    omega
  refine ⟨fun i m H => m = n - i ∧ i ≤ n ∧ Same H1 H ∧ H D = some (.lst ((List.range i).flatMap f)), ⟨n, by simp, Nat.zero_le _, Same.new hD, upd_same⟩, ?_⟩
  rintro i m H ⟨rfl, hi, e, hDl⟩
  by_cases hlt : i < n
  · have hr : List.range (i + 1) = List.range i ++ [i] := List.range_succ
    refine .inr ⟨w.goes i H hlt (hm H e), fun H' => Same H1 H' ∧ H' D = some (.lst ((List.range (i + 1)).flatMap f)), fun H' p => ⟨n - (i + 1), by omega, rfl, hlt, p⟩, fun x H' y => ?_⟩
    refine hs i x H H' hlt e (w.yields i H x H' hlt (hm H e) y) (fun σ2 J1 H4 => ∃ W1 : Nat → Nat → Hp → Prop, (∃ m, W1 0 m H4) ∧ ∀ j k H, W1 j k H →
          (J1.stop j H ∧ (Same H1 H ∧ H D = some (.lst ((List.range (i + 1)).flatMap f)))) ∨ (J1.go j H ∧ ∃ Nx1 : Hp → Prop, (∀ H', Nx1 H' → ∃ k', k' < k ∧ W1 (j + 1) k' H') ∧ ∀ x H', J1.yld j H x H' → g1 x (wipe σ2 vs1) H' fun σ3 H5 => wipe σ3 vs1 = wipe σ2 vs1 ∧ tt1 σ3 H5 fun b H6 =>
            if b = true then te σ3 H6 fun y H7 => ∃ acc, H7 D = some (.lst acc) ∧ acc.length < sizeLine ∧ Nx1 (upd H7 D (.lst (acc ++ [y]))) else Nx1 H6)) _ (fun σ2 J1 H4 e4 inn => ?_) fun H3 e3 ef => ?_
    · obtain ⟨n1, G1, Y1, f1, w1, hm1, ef, hs1⟩ := inn
      have hD4 : H4 D = some (.lst ((List.range i).flatMap f)) := e4 D _ hDl
      have hz := sz i hlt
      rw [ef] at hz
      refine ⟨fun j k H => k = n1 - j ∧ j ≤ n1 ∧ But D H4 H ∧ Same H1 H ∧ H D = some (.lst ((List.range i).flatMap f ++ (List.range j).filterMap f1)),
        ⟨n1, by simp, Nat.zero_le _, But.refl _ _, e.trans e4, by simpa using hD4⟩, ?_⟩
      rintro j k H5 ⟨rfl, hj, b5, s5, d5⟩
      by_cases hjl : j < n1
      · have hr1 : List.range (j + 1) = List.range j ++ [j] := List.range_succ
        refine .inr ⟨w1.goes j H5 hjl (hm1 H5 s5 b5), fun H' => But D H4 H' ∧ Same H1 H' ∧ H' D = some (.lst ((List.range i).flatMap f ++ (List.range (j + 1)).filterMap f1)), fun H' p => ⟨n1 - (j + 1), by omega, rfl, hjl, p⟩, fun x1 H5' y1 => ?_⟩
        refine hs1 j x1 H5 H5' hjl s5 b5 (w1.yields j H5 x1 H5' hjl (hm1 H5 s5 b5) y1) _ _ (fun v H8 e8 e9 => ?_) fun H7 e7 e8 => ?_
        · refine ⟨_, e8 D _ d5, ?_, (b5.same e8).mut, Same.mut (s5.trans e8) hD, ?_⟩
          · have h1 : ((List.range j).filterMap f1 ++ [v]).length ≤ ((List.range n1).filterMap f1).length := by
              have h2 : List.range n1 = List.range (j + 1) ++ (List.range (n1 - (j + 1))).map (fun k => (j + 1) + k) := by
                rw [← List.range_add]
                congr 1
                omega
              rw [h2, hr1, List.filterMap_append, List.filterMap_append, List.length_append, List.length_append, List.length_append]
              simp [e9]
            rw [List.length_append] at h1 ⊢
            have h3 : [v].length = 1 := rfl
            omega
          · rw [upd_same, hr1, List.filterMap_append]
            simp [e9]
        · refine ⟨b5.same e7, s5.trans e7, ?_⟩
          rw [e7 D _ d5, hr1, List.filterMap_append]
          simp [e8]
      · have en : j = n1 := by omega
        subst en
        refine .inl ⟨w1.stops H5 (hm1 H5 s5 b5), s5, ?_⟩
        rw [d5, hr, List.flatMap_append, List.flatMap_singleton, ef]
    · refine ⟨e.trans e3, ?_⟩
      rw [e3 D _ hDl, hr, List.flatMap_append, List.flatMap_singleton, ef, List.append_nil]
  · have en : i = n := by omega
    subst en
    exact .inl ⟨w.stops H (hm H e), hd H e hDl⟩
/-- a comprehension of a set of keys; f i: the key of turn i, unlike ones give its size -/
theorem sc_map {P : Program} {wd : World} (w : Walk J n G Y) {g : TG} {tt : TT} {te : TE} {vs : List Nat} {σ : L2.St} {H1 : Hp} {D : Addr} {Qd : Hp → Prop} (f : Nat → Key)
    (hD : H1 D = none) (hn : n + 1 < scanBound) (hm : ∀ H, Same H1 H → G H) (hu : ∀ i j, i < n → j < i → f j ≠ f i)
    (hs : ∀ i x H H', i < n → Same H1 H → Y i H x H' → ∀ (Ry : V → Hp → Prop) (Rn : Hp → Prop), (∀ H4, Same H H4 → Ry (kV (f i)) H4) →
      g x (wipe σ vs) H' fun σ2 H2 => wipe σ2 vs = wipe σ vs ∧ tt σ2 H2 fun b H3 => if b = true then te σ2 H3 Ry else Rn H3)
    (hd : ∀ H S, Same H1 H → H D = some (SetK P wd D S n) → Qd H) :
    ∃ W : Nat → Nat → Hp → Prop, (∃ m, W 0 m (upd H1 D (SetK P wd D (fun _ => false) 0))) ∧ ∀ i m H, W i m H →
      (J.stop i H ∧ Qd H) ∨ (J.go i H ∧ ∃ Nx : Hp → Prop, (∀ H', Nx H' → ∃ m', m' < m ∧ W (i + 1) m' H') ∧ ∀ x H', J.yld i H x H' → g x (wipe σ vs) H' fun σ2 H2 => wipe σ2 vs = wipe σ vs ∧ tt σ2 H2 fun b H3 =>
        if b = true then te σ2 H3 fun y H4 => ∃ (k : Key) (S : Key → Bool) (n : Nat), y = kV k ∧ H4 D = some (SetK P wd D S n) ∧ n + 1 < scanBound ∧ Nx (upd H4 D (SetK' P wd D S n k)) else Nx H3) := by
  refine ⟨fun i m H => m = n - i ∧ i ≤ n ∧ Same H1 H ∧ H D = some (SetK P wd D (fun k => decide (∃ j, j < i ∧ f j = k)) i), ⟨n, by simp, Nat.zero_le _, Same.new hD, ?_⟩, ?_⟩
  · rw [upd_same]
    simp
  rintro i m H ⟨rfl, hi, e, hDl⟩
  by_cases hlt : i < n
  · refine .inr ⟨w.goes i H hlt (hm H e), fun H' => Same H1 H' ∧ H' D = some (SetK P wd D (fun k => decide (∃ j, j < i + 1 ∧ f j = k)) (i + 1)), fun H' p => ⟨n - (i + 1), by omega, rfl, hlt, p⟩, fun x H' y => ?_⟩
    refine hs i x H H' hlt e (w.yields i H x H' hlt (hm H e) y) _ _ fun H4 e4 => ?_
    refine ⟨f i, _, i, rfl, e4 D _ hDl, by omega, Same.mut (e.trans e4) hD, ?_⟩
    rw [upd_same]
    have hno : ¬ ∃ j, j < i ∧ f j = f i := fun ⟨j, hj, ej⟩ => hu i j hlt hj ej
    unfold SetK'
    rw [if_neg (by simpa using hno)]
    congr 2
    funext k
    rw [Bool.eq_iff_iff, Bool.or_eq_true, decide_eq_true_eq, decide_eq_true_eq, decide_eq_true_eq]
    constructor
    · rintro (⟨j, hj, ej⟩ | rfl)
      · exact ⟨j, by omega, ej⟩
      · exact ⟨i, by omega, rfl⟩
    · rintro ⟨j, hj, ej⟩
      by_cases hji : j = i
      · subst hji
        exact .inr ej.symm
      · exact .inl ⟨j, by omega, ej⟩
  · have en : i = n := by omega
    subst en
    exact .inl ⟨w.stops H (hm H e), hd H _ e hDl⟩
end
/-! ranges that read a list -/
theorem range_getD {α : Type} (d : α) (xs : List α) : (List.range xs.length).map (fun i => xs.getD i d) = xs := by
  refine List.ext_getElem (by simp) fun i h1 h2 => ?_
  simp [List.getD_eq_getElem?_getD, h2]
theorem range_fm {α β : Type} (d : α) (xs : List α) (f : α → Option β) : (List.range xs.length).filterMap (fun i => f (xs.getD i d)) = xs.filterMap f := by
  conv => rhs; rw [← range_getD d xs]
  rw [List.filterMap_map]
  rfl
theorem range_flat {α β : Type} (d : α) (xs : List α) (f : α → List β) : (List.range xs.length).flatMap (fun i => f (xs.getD i d)) = xs.flatMap f := by
  conv => rhs; rw [← range_getD d xs]
  rw [List.flatMap_map]
theorem getD_of {α : Type} {d x : α} {xs : List α} {i : Nat} (h : xs[i]? = some x) : xs.getD i d = x := by
  rw [List.getD_eq_getElem?_getD, h]
  rfl
theorem vals_rev : ∀ {vs : List V} {us : List Value}, Vals vs us → Vals vs.reverse us.reverse
  | _, _, .nil => .nil
  | _, _, .cons r t => by
    rw [List.reverse_cons, List.reverse_cons]
    exact (vals_rev t).append (.cons r .nil)
theorem erase_map {α β : Type} (f : α → β) : ∀ (l : List α) (i : Nat), (l.map f).eraseIdx i = (l.eraseIdx i).map f
  | [], _ => rfl
  | _ :: _, 0 => rfl
  | a :: l, i + 1 => by
    show f a :: (l.map f).eraseIdx i = f a :: (l.eraseIdx i).map f
    rw [erase_map f l i]
theorem erase_perm {α : Type} : ∀ (l : List α) (i : Nat) (h : i < l.length), (l[i] :: l.eraseIdx i).Perm l
  | a :: l, 0, _ => List.Perm.refl _
  | a :: l, i + 1, h => by
    have ih := erase_perm l i (by simpa using h)
    exact (List.Perm.swap ..).trans (List.Perm.cons a ih)
theorem sum_ones : ∀ n : Nat, (List.replicate n 1).sum = n
  | 0 => rfl
  | n + 1 => by rw [List.replicate_succ, List.sum_cons, sum_ones n, Nat.add_comm]
/-- texts put together with nothing between -/
theorem join_nosep (ys : List Str) : (Txt.join (Str.ofString "") ys).cps.toList = ys.flatMap fun y => y.cps.toList := by
  have e0 : (Str.ofString "").cps = #[] := by decide +kernel
  have key : ∀ (l : List Str) (acc : Array Nat), (l.foldl (fun acc p => acc ++ (Str.ofString "").cps ++ p.cps) acc).toList = acc.toList ++ l.flatMap fun y => y.cps.toList := by
    intro l
    induction l with
    | nil => intro acc; simp
    | cons y l ih =>
      intro acc
      rw [List.foldl_cons, ih, e0]
      simp
  cases ys with
  | nil => rfl
  | cons y l =>
    show (l.foldl (fun acc p => acc ++ (Str.ofString "").cps ++ p.cps) y.cps).toList = _
    rw [key, List.flatMap_cons]
theorem at4 {a b c d : V} {i : Int} (h0 : 0 ≤ i) (h1 : i < 4) : ∃ v, atI [a, b, c, d] i = some v ∧ (v = a ∨ v = b ∨ v = c ∨ v = d) := by
  rcases (by omega : i = 0 ∨ i = 1 ∨ i = 2 ∨ i = 3) with rfl | rfl | rfl | rfl
  · exact ⟨a, rfl, .inl rfl⟩
  · exact ⟨b, rfl, .inr (.inl rfl)⟩
  · exact ⟨c, rfl, .inr (.inr (.inl rfl))⟩
  · exact ⟨d, rfl, .inr (.inr (.inr rfl))⟩
/-! what is walked, by what the value is -/
def iAny (K : PySem.W.Frag) (te : TE) : TI := fun σ H R => te σ H fun x H1 => match x with
  | .ref a => ((∃ xs, SqL K H1 a xs) ∧ R (Itl K a) H1) ∨ ((∃ xs, SqT K H1 a xs) ∧ R (Itt K a) H1)
  | .str z => R (Its z) H1
  | _ => False
section
variable {X : Cx} {tg e : Expr} {te : TE}
theorem pi_any (he : PE X e te) : PI X tg e (iAny X.K te) := by
  refine ⟨fun pins s σ H R I h => ?_⟩
  refine thn (he.run pins s σ H _ I h) fun v s1 hv => ?_
  obtain ⟨x, H1, I1, r1, q1⟩ := hv
  cases x with
  | ref a =>
    cases r1
    rcases q1 with ⟨⟨xs, hq⟩, q⟩ | ⟨⟨xs, hq⟩, q⟩
    · obtain ⟨its, rv, pl, _⟩ := I1.list hq
      exact wpAny_pyIter_list pl.isList (pi_one (tk := s1.toks) I1 _ (turn_list a _) ⟨_, Heap.get?_push_size _ rfl, rfl, rfl⟩ q)
    · obtain ⟨its, rv, pl, _⟩ := I1.tuple hq
      exact wpAny_pyIter_tuple (show s1.heap.IsTuple a its.toArray from pl) (pi_one (tk := s1.toks) I1 _ (turn_tuple a _) ⟨_, Heap.get?_push_size _ rfl, rfl, rfl⟩ q)
  | str z =>
    obtain ⟨t, rfl⟩ := r1
    cases ha : z.cps.all (· < 128)
    · exact wpAny_pyIter_wide ha (pi_one (tk := s1.toks) I1 _ (turn_str _ z t "str_iterator" (.inr rfl)) ⟨_, Heap.get?_push_size _ rfl, rfl, rfl⟩ q1)
    · exact wpAny_pyIter_ascii ha (pi_one (tk := s1.toks) I1 _ (turn_str _ z t "str_ascii_iterator" (.inl rfl)) ⟨_, Heap.get?_push_size _ rfl, rfl, rfl⟩ q1)
  | _ => exact (show False from q1).elim
/-- f(k = v, ..), no positional value -/
theorem pe_callK0 {CX : CXT} {k : Nat} {f : Addr} {fd : FuncData} {ps ks : List Str} {sp : Sp} {E : XK} {x : Str} {p pos : Pos} {kws : List Keyword} {tk : TA} {g : List Value → List Value → List Value} {gV : List V → List V → List V}
    (F : FnOk X.prog X.w X.K X.mg X.base CX k f fd ps sp) (hr : Room k X.A) (hg : Gl X x) (hm : X.mg x = some (.ref f)) (hk : PySem.W.keepIn X.K (.ref f) = true) (hb : KBinds X.K fd ps ks g gV) (hx : Passes CX X E)
    (hkw : PK X kws tk) (hall : (backToKw pos (keywordEach kws X.env)).all (·.1.isSome) = true := by rfl) (hks : (backToKw pos (keywordEach kws X.env)).filterMap (·.1) = ks := by rfl)
    (hdb : (x == ("__debug__" : Str)) = false := by decide) (hpl : ((backTo pos (starEach [] X.env)).any (·.1) || (backToKw pos (keywordEach kws X.env)).any (·.1.isNone)) = false := by rfl) :
    PE X (.Call (.Name x p) [] kws pos) (tCallK sp gV E tNil tk) := by
  refine ⟨fun pins s σ H Q I h => wpAny_Call_Name_kw (ld_glob I hg hm ?_ hdb)⟩
  refine PySem.W.callWith_KW0 (h₀ := X.base) I.ok.mod.kin hk hall (thn (hkw.run pos pins s σ H _ I h) fun ws s2 hz => ?_) hpl
  obtain ⟨zs, H2, I2, rz, q2⟩ := hz
  refine ⟨I2.kIn, ?_⟩
  rw [hks]
  exact run_fnk F hr hb hx I2 .nil rz q2
end
/-! the same rules with the written part as a letter of its own (a comprehension's block has the same) -/
section
variable {X : Cx} {K : PySem.W.Frag} {tg e : Expr} {te ta : TE}
theorem oAdd (hK : X.K = K := by rfl) : OpR X (binaryOp .Add) (rAddM K) := hK ▸ op_addM
theorem oMul (hK : X.K = K := by rfl) : OpR X (binaryOp .Mult) (rMulM K) := hK ▸ op_mulM
def rEqM (K : PySem.W.Frag) : R2 := fun x y H Q => rEq x y H Q ∨ rEqD K x y H Q
def rNeM (K : PySem.W.Frag) : R2 := fun x y H Q => rNe x y H Q ∨ rNeD K x y H Q
theorem oEq (hu : X.A.units + 64 < cLine) (hK : X.K = K := by rfl) : OpR X (compareOp .Eq) (rEqM K) := hK ▸ op_eqM hu
theorem oNe (hu : X.A.units + 64 < cLine) (hK : X.K = K := by rfl) : OpR X (compareOp .NotEq) (rNeM K) := hK ▸ op_neM hu
theorem oIn (hK : X.K = K := by rfl) : OpR X (compareOp .In) (rInM K false) := hK ▸ op_inM
theorem oNin (hK : X.K = K := by rfl) : OpR X (compareOp .NotIn) (rInM K true) := hK ▸ op_ninM
theorem ixM (hK : X.K = K := by rfl) : IxR X (rIx K) := hK ▸ ix_seq
theorem slM (hK : X.K = K := by rfl) : SlR X (rSlM K) := hK ▸ sl_M
def rLen (K : PySem.W.Frag) : List V → Hp → VK → Prop := fun xs H Q => ∃ x n, xs = [x] ∧ LenV K x H n ∧ Q (.int n) H
theorem cLen (hK : X.K = K := by rfl) : CallR X (.builtin "len") (rLen K) := hK ▸ call_len
theorem cIsi (hK : X.K = K := by rfl) : CallR X (.builtin "isinstance") (rIsi K) := hK ▸ call_isi
theorem cList (hc : X.calm = true) (hK : X.K = K := by rfl) : CallR X (.type "list") (rListM K) := hK ▸ call_listM hc
def rTupOf (K : PySem.W.Frag) : List V → Hp → VK → Prop := fun xs H Q => ∃ p ys, xs = [.ref p] ∧ ((SqL K H p ys ∧ ∀ l, H l = none → Q (.ref l) (upd H l (.tup ys))) ∨ (SqT K H p ys ∧ Q (.ref p) H))
theorem cTup (hK : X.K = K := by rfl) : CallR X (.type "tuple") (rTupOf K) := hK ▸ call_tuple_of
theorem cAll (hc : X.calm = true) (hK : X.K = K := by rfl) : CallR X (.builtin "all") (rAll K) := hK ▸ cr_all hc
theorem cAny (hc : X.calm = true) (hK : X.K = K := by rfl) : CallR X (.builtin "any") (rAny K) := hK ▸ cr_any hc
def rInt : List V → Hp → VK → Prop := fun xs H Q => (∃ i, xs = [.int i] ∧ Q (.int i) H) ∨ ∃ k, xs = [.bl k] ∧ Q (.int (if k then 1 else 0)) H
theorem cInt : CallR X (.type "int") rInt := call_int1
def rMax2 : List V → Hp → VK → Prop := fun xs H Q => ∃ i j, xs = [.int i, .int j] ∧ Q (.int (if j > i then j else i)) H
def rMin2 : List V → Hp → VK → Prop := fun xs H Q => ∃ i j, xs = [.int i, .int j] ∧ Q (.int (if j < i then j else i)) H
theorem cMax (hc : X.calm = true) : CallR X (.builtin "max") rMax2 := call_max2 hc
theorem cMin (hc : X.calm = true) : CallR X (.builtin "min") rMin2 := call_min2 hc
theorem piAny (he : PE X e te) (hK : X.K = K := by rfl) : PI X tg e (iAny K te) := hK ▸ pi_any he
def tTru (K : PySem.W.Frag) (ta : TE) : TT := fun σ H Q => ta σ H fun x H' => ∃ k, TruV K x H' k ∧ Q k H'
theorem ptT (ha : PE X e ta) (he : ∀ whole, isTrue e X.env whole = (do let v ← whole; standAt e.pos; holding [v] (truthy v)) := by intro _; rfl) (hK : X.K = K := by rfl) : PT X e (tTru K ta) := hK ▸ pt_truth ha he
def rJoin (K : PySem.W.Frag) : V → List V → Hp → VK → Prop := fun x xs H Q => ∃ a p, ∃ ys : List Str, x = .str a ∧ xs = [.ref p] ∧ (SqL K H p (ys.map V.str) ∨ SqT K H p (ys.map V.str)) ∧
  (ys.map (·.length)).sum + ys.length * a.length ≤ 16777216 ∧ Q (.str (Txt.join a ys)) H
theorem peJoin {o : Expr} {to : TE} {apos pos : Pos} (ho : PE X o to) (he : PE X e te) (hs : starEach [e] X.env = [(false, eval e X.env)] := by rfl) (hbase : attributeBase o "join" X.env (eval o X.env) = eval o X.env := by rfl)
    (hline : (apos.endLine == pos.line) = true := by rfl) (hK : X.K = K := by rfl) : PE X (.Call (.Attribute o "join" apos) [e] [] pos) (tM1 (rJoin K) to te) := by
  subst hK
  exact pe_join ho he hs hbase hline
section
variable {o e : Expr} {es : List Expr} {to : TE} {t : TA} {name : Str} {apos cpos : Pos} {T id : String} {r : V → List V → Hp → VK → Prop}
theorem peBm0 (pa : PlainAttrs T) (slot : Slot T name id) (hty : typeOf (.builtin id) = pure (.type "method_descriptor")) (hm : MtR X id r) (ho : PE X o to)
    (h1 : attributeBase o name X.env (eval o X.env) = eval o X.env := by rfl) (h2 : (apos.endLine == cpos.line) = true := by rfl) (hK : X.K = K := by rfl) : PE X (.Call (.Attribute o name apos) [] [] cpos) (tBM0 K T r to) := by
  subst hK
  exact pe_bm0 pa slot hty hm ho h1 h2
theorem peBm (pa : PlainAttrs T) (slot : Slot T name id) (hty : typeOf (.builtin id) = pure (.type "method_descriptor")) (hm : MtR X id r) (ho : PE X o to) (ha : PA X (e :: es) t)
    (h1 : attributeBase o name X.env (eval o X.env) = eval o X.env := by rfl)
    (h2 : ((backTo cpos (starEach (e :: es) X.env)).all (fun x => !x.1) && (backToKw cpos (keywordEach [] X.env)).all (fun x => x.1.isSome) && decide ((e :: es).length + ([] : List Keyword).length + (if ([] : List Keyword).isEmpty then 0 else 1) < 30)) = true := by rfl)
    (h3 : (apos.endLine == cpos.line) = true := by rfl) (h4 : starEach (e :: es) X.env = (false, eval e X.env) :: starEach es X.env := by rfl) (h5 : (backTo cpos (starEach es X.env)).any (·.1) = false := by rfl) (hK : X.K = K := by rfl) :
    PE X (.Call (.Attribute o name apos) (e :: es) [] cpos) (tBM K T r to t) := by
  subst hK
  exact pe_bm pa slot hty hm ho ha h1 h2 h3 h4 h5
end
end
end LK

set_option Elab.async false
set_option linter.all false
set_option maxRecDepth 100000
set_option maxHeartbeats 4000000
/-! the helpers that all laws bear: mixed, cell, take: their readings, once -/
namespace LK
open PySem PySem.Spec PyProof.Rows L2
theorem blT {p : Prop} [Decidable p] (h : p) : V.bl (decide p) = V.bl true := by rw [decide_eq_true h]
theorem blF {p : Prop} [Decidable p] (h : ¬ p) : V.bl (decide p) = V.bl false := by rw [decide_eq_false h]
theorem blN {p : Prop} [Decidable p] (h : p) : V.bl (!decide p) = V.bl false := by rw [decide_eq_true h]; rfl
theorem blNF {p : Prop} [Decidable p] (h : ¬ p) : V.bl (!decide p) = V.bl true := by rw [decide_eq_false h]; rfl
/-- one sign in a text -/
theorem sign_in (z : Str) (c : Nat) : (!(Builtin.Str.occurrences z (⟨#[c]⟩ : Str) 0 z.length 1).isEmpty) = decide (c ∈ z.cps.toList) := PySem.StrLaws.found_one z c
abbrev rMd : R2 := rI (fun _ j => j ≠ 0) fun i j => .int (i.fmod j)
abbrev rDv : R2 := rI CDivN fun i j => .int (i.fdiv j)
abbrev rSb : R2 := rI0 fun i j => .int (i - j)
abbrev rPw : R2 := rI CPow fun i j => .int (i ^ j.toNat)
def mixed (cell k : Int) : Int :=
  let m := (cell.fmod 2147483647 * 48271 + k * 69621 + 1048583).fmod 2147483629
  let m := (m * m).fmod 2147483587
  (m * (m + 2)).fmod 2147483579
def t_mixed (K : PySem.W.Frag) : TS :=
  tSeq (tAsg (tOp rMd (tOp (rAddM K) (tOp (rAddM K) (tOp (rMulM K) (tOp rMd (tVar 0) (tC (.int 2147483647))) (tC (.int 48271))) (tOp (rMulM K) (tVar 1) (tC (.int 69621)))) (tC (.int 1048583))) (tC (.int 2147483629))) (gName 2))
  (tSeq (tAsg (tOp rMd (tOp (rMulM K) (tVar 2) (tVar 2)) (tC (.int 2147483587))) (gName 2))
  (tRet (tOp rMd (tOp (rMulM K) (tVar 2) (tOp (rAddM K) (tVar 2) (tC (.int 2)))) (tC (.int 2147483579)))))
theorem fmod_range {a b : Int} (hb : 0 < b) : 0 ≤ a.fmod b ∧ a.fmod b < b := by
  rw [Int.fmod_eq_emod_of_nonneg a (by omega)]
  exact ⟨Int.emod_nonneg a (by omega), Int.emod_lt_of_pos a hb⟩
theorem mixed_range (c k : Int) : 0 ≤ mixed c k ∧ mixed c k < 2147483579 := fmod_range (by decide)
theorem mixed_run {K : PySem.W.Frag} {c k : Int} {H : Hp} {D : Ends} (h : D.rt (.int (mixed c k)) H) : t_mixed K D [some (.int c), some (.int k), none] H := by
  have e1 := fmod_range (a := c.fmod 2147483647 * 48271 + k * 69621 + 1048583) (b := 2147483629) (by decide)
  have e2 := fmod_range (a := (c.fmod 2147483647 * 48271 + k * 69621 + 1048583).fmod 2147483629 * (c.fmod 2147483647 * 48271 + k * 69621 + 1048583).fmod 2147483629) (b := 2147483587) (by decide)
  refine ⟨_, rfl, _, _, rfl, rfl, Int.ne_of_gt (by decide), .inl (.inr ⟨by decide, by decide⟩), _, rfl, .inl (.inr ⟨by decide, by decide⟩), _, _, rfl, rfl, Int.ne_of_gt (by decide), ?_⟩
  refine ⟨_, rfl, _, rfl, .inl (.inl ⟨by omega, by omega⟩), _, _, rfl, rfl, Int.ne_of_gt (by decide), ?_⟩
  exact ⟨_, rfl, _, rfl, .inl (.inl ⟨by omega, by omega⟩), _, _, rfl, rfl, Int.ne_of_gt (by decide), h⟩
/-- what the cell k of a script is worth, a pile of digits -/
def cellAt (ns : List Int) (k : Nat) : Int := ns.getD k 0
def mixUp (c k : Int) (j : Nat) (found : Int) : Int := found * 2147483579 + mixed c (7 * k + 100 * j + j * j)
def mixTo (c k : Int) : Nat → Int
  | 0 => 0
  | n + 1 => mixUp c k n (mixTo c k n)
def cellOf (ns : List Int) (k : Nat) : Int :=
  if 1000000000000000000 ≤ cellAt ns k then (cellAt ns k - 1000000000000000000).fmod (10 ^ 60 * 10 ^ 60 * 10 ^ 60 * 10 ^ 60) else mixTo (cellAt ns k) k 24
def spMixed : Sp := fun vs H Q _ => ∃ c k : Int, vs = [.int c, .int k] ∧ Q (.int (mixed c k)) H
def spCell' (K : PySem.W.Frag) : Sp := fun vs H Q _ => ∃ (a : Addr) (ns : List Int) (k : Nat), vs = [.ref a, .int k] ∧ SqL K H a (ns.map V.int) ∧ ns.length ≤ 63 ∧ k ≤ 1000 ∧ Q (.int (cellOf ns k)) H
def t_cell2 (K : PySem.W.Frag) : TS :=
(tSeq (tIfS (tTest (tOp (rCmpM (fun i j => decide (j ≤ i)) fun i j => !decide (i.cps.toList < j.cps.toList)) (tVar 2) (tOp rPw (tC (.int 10)) (tC (.int 18)))))
      (tRet (tOp rMd (tOp rSb (tVar 2) (tOp rPw (tC (.int 10)) (tC (.int 18))))
        (tOp (rMulM K) (tOp (rMulM K) (tOp (rMulM K) (tOp rPw (tC (.int 10)) (tC (.int 60))) (tOp rPw (tC (.int 10)) (tC (.int 60)))) (tOp rPw (tC (.int 10)) (tC (.int 60)))) (tOp rPw (tC (.int 10)) (tC (.int 60))))))
      tNext)
  (tSeq (tAsg (tC (.int 0)) (gName 3))
  (tSeq (tFor (iRng1 (tCons (tC (.int 24)) tNil)) (gName 4)
      (tAsg (tOp (rAddM K) (tOp (rMulM K) (tVar 3) (tC (.int 2147483579)))
        (tCall spMixed [] E0 (tCons (tVar 2) (tCons (tOp (rAddM K) (tOp (rAddM K) (tOp (rMulM K) (tC (.int 7)) (tVar 1)) (tOp (rMulM K) (tC (.int 100)) (tVar 4))) (tOp (rMulM K) (tVar 4) (tVar 4))) tNil)))) (gName 3)))
    (tRet (tVar 3)))))
def t_cell (K : PySem.W.Frag) : TS :=
  tSeq (tAsg (tC (.int 0)) (gName 2))
  (tSeq (tIfS (tTest (tOp (rCmpM (fun i j => decide (i < j)) fun i j => decide (i.cps.toList < j.cps.toList)) (tVar 1) (tCB (LK.rLen K) (tCons (tVar 0) tNil)))) (tAsg (tOp (rIx K) (tVar 0) (tVar 1)) (gName 2)) tNext)
  (t_cell2 K))
theorem pw60 : CPow 10 60 := ⟨by decide, by decide, by decide⟩
theorem pw18 : CPow 10 18 := ⟨by decide, by decide, by decide⟩
theorem w1 : CMulW ((10 : Int) ^ (60 : Int).toNat) ((10 : Int) ^ (60 : Int).toNat) := wide_mul (a := 200) (b := 200) (by decide) (by decide) (by decide) (by decide) (by decide)
set_option exponentiation.threshold 4000 in
theorem w2 : CMulW ((10 : Int) ^ (60 : Int).toNat * (10 : Int) ^ (60 : Int).toNat) ((10 : Int) ^ (60 : Int).toNat) := wide_mul (a := 400) (b := 200) (by decide) (by decide) (by decide) (by decide) (by decide)
set_option exponentiation.threshold 4000 in
theorem w3 : CMulW ((10 : Int) ^ (60 : Int).toNat * (10 : Int) ^ (60 : Int).toNat * (10 : Int) ^ (60 : Int).toNat) ((10 : Int) ^ (60 : Int).toNat) := wide_mul (a := 600) (b := 200) (by decide) (by decide) (by decide) (by decide) (by decide)
theorem e18 : (10 : Int) ^ (18 : Int).toNat = 1000000000000000000 := by decide
theorem e60 : (10 : Int) ^ (60 : Int).toNat = 10 ^ 60 := rfl
theorem nz60 : (10 : Int) ^ (60 : Int).toNat * (10 : Int) ^ (60 : Int).toNat * (10 : Int) ^ (60 : Int).toNat * (10 : Int) ^ (60 : Int).toNat ≠ 0 := by decide
theorem at_of_list {ns : List Int} {k : Nat} (h : k < ns.length) : atI (ns.map V.int) (k : Int) = some (.int (cellAt ns k)) := by
  refine atI_nat ?_
  rw [List.getElem?_map, List.getElem?_eq_getElem h]
  show some (V.int ns[k]) = _
  rw [cellAt, List.getD_eq_getElem?_getD, List.getElem?_eq_getElem h]
  rfl
theorem mix_range (c k : Int) : ∀ n, 0 ≤ mixTo c k n
  | 0 => Int.le_refl 0
  | n + 1 => by
    have h1 := mix_range c k n
    have h2 := (mixed_range c (7 * k + 100 * n + n * n)).1
    have h3 : 0 ≤ mixTo c k n * 2147483579 := Int.mul_nonneg h1 (by decide)
    show 0 ≤ mixTo c k n * 2147483579 + _
    omega
theorem cell_run {K : PySem.W.Frag} {a : Addr} {ns : List Int} {k : Nat} {H : Hp} {D : Ends} (hs : SqL K H a (ns.map V.int)) (hn : ns.length ≤ 63) (hk : k ≤ 1000) (h : D.rt (.int (cellOf ns k)) H) :
    t_cell K D [some (.ref a), some (.int k), none, none, none] H := by
  -- behind the reading of the cell
  have rest : ∀ c : Int, c = cellAt ns k → t_cell2 K D [some (.ref a), some (.int k), some (.int c), none, none] H := by
    intro c hc
    refine ⟨_, rfl, _, _, rfl, rfl, pw18, _, rfl, ?_⟩
    rw [e18]
    refine ite2 (fun hge => ?_) fun hlt => ?_
    · have hge := of_decide_eq_true hge
      refine ⟨_, rfl, _, _, rfl, rfl, pw18, _, _, rfl, rfl, _, _, rfl, rfl, pw60, _, _, rfl, rfl, pw60, .inr w1, _, _, rfl, rfl, pw60, .inr w2, _, _, rfl, rfl, pw60, .inr w3, _, _, rfl, rfl, nz60, ?_⟩
      have e : cellOf ns k = (c - 10 ^ (18 : Int).toNat).fmod ((10 : Int) ^ (60 : Int).toNat * (10 : Int) ^ (60 : Int).toNat * (10 : Int) ^ (60 : Int).toNat * (10 : Int) ^ (60 : Int).toNat) := by
        unfold cellOf
        rw [← hc, if_pos hge, e18]
        rfl
      rw [e] at h
      exact h
    · have hlt : ¬ 1000000000000000000 ≤ c := fun z => hlt (decide_eq_true z)
      refine ⟨24, rfl, by decide, by decide, for_range (lo := 0) (n := 24) (fun i σ H' => H' = H ∧ ∃ j, σ = [some (.ref a), some (.int k), some (.int c), some (.int (mixTo c k i)), j]) ⟨rfl, none, rfl⟩ ?_ ?_⟩
      · rintro i σ H' hi ⟨rfl, j, rfl⟩
        refine ⟨_, rfl, .inl (.inr ⟨by decide, by decide⟩), _, rfl, _, rfl, .inl (.inl ⟨by decide, by decide⟩), _, rfl, .inl (.inl ⟨by decide, by decide⟩), _, rfl, _, rfl, .inl (.inl ⟨by omega, by omega⟩), c, _, rfl, ?_⟩
        refine ⟨rfl, some (.int (0 + i)), ?_⟩
        have e : mixTo c k (i + 1) = mixTo c k i * 2147483579 + mixed c (7 * k + 100 * (0 + i) + (0 + i) * (0 + i)) := by
          rw [Int.zero_add]
          rfl
        rw [e]
        rfl
      · rintro σ H' ⟨rfl, j, rfl⟩
        refine ⟨_, rfl, ?_⟩
        have e : cellOf ns k = mixTo c k 24 := by
          unfold cellOf
          rw [← hc, if_neg hlt]
        rw [e] at h
        exact h
  refine ⟨_, rfl, _, rfl, _, _, rfl, .inl ⟨_, hs, rfl⟩, _, rfl, ?_⟩
  refine ite2 (fun hge => ?_) fun hlt => ?_
  · have hge := of_decide_eq_true hge
    rw [List.length_map] at hge
    have hk : k < ns.length := by omega
    refine ⟨_, rfl, _, rfl, .inl ⟨_, _, _, _, rfl, rfl, hs, at_of_list hk, ?_⟩⟩
    exact rest _ rfl
  · have hlt : ¬ (k : Int) < ((ns.map V.int).length : Int) := fun z => hlt (decide_eq_true z)
    rw [List.length_map] at hlt
    refine rest 0 ?_
    unfold cellAt
    rw [List.getD_eq_getElem?_getD, List.getElem?_eq_none (by omega)]
    rfl
/-- the pile, a list of one number -/
def t_take (K : PySem.W.Frag) : TS :=
  tSeq (tAsg (tOp rMd (tOp (rIx K) (tVar 0) (tC (.int 0))) (tVar 1)) (gName 2))
  (tSeq (tAsg (tOp rDv (tOp (rIx K) (tVar 0) (tC (.int 0))) (tVar 1)) (gSub (tVar 0) (tC (.int 0)) rSetL))
  (tRet (tVar 2)))
def spTake : Sp := fun vs H Q _ => ∃ (p : Addr) (c m : Int), vs = [.ref p, .int m] ∧ H p = some (.lst [.int c]) ∧ (0 < m ∧ m < 1073741824) ∧ Q (.int (c.fmod m)) (upd H p (.lst [.int (c.fdiv m)]))
theorem take_run {K : PySem.W.Frag} {p : Addr} {c m : Int} {H : Hp} {D : Ends} (hp : H p = some (.lst [.int c])) (hm : 0 < m ∧ m < 1073741824) (h : D.rt (.int (c.fmod m)) (upd H p (.lst [.int (c.fdiv m)]))) :
    t_take K D [some (.ref p), some (.int m), none] H := by
  refine ⟨_, rfl, .inl ⟨_, _, _, _, rfl, rfl, SqL.of hp, rfl, _, rfl, _, _, rfl, rfl, Int.ne_of_gt hm.1, ?_⟩⟩
  refine ⟨_, rfl, .inl ⟨_, _, _, _, rfl, rfl, SqL.of hp, rfl, _, rfl, _, _, rfl, rfl, ⟨Int.ne_of_gt hm.1, by omega⟩, ?_⟩⟩
  refine ⟨_, rfl, _, _, _, 0, rfl, rfl, hp, rfl, ?_⟩
  exact ⟨_, rfl, h⟩
end LK

set_option Elab.async false
set_option linter.all false
set_option maxRecDepth 100000
set_option maxHeartbeats 4000000
/-! an own error class with its own __init__, called with keywords: the same steps as without -/
namespace LKX
open PySem PySem.W PySem.Calls PyProof.Rows
section
variable {prog : Program} {w : World} {M : Model} {Ar : Around} {Ex : Value → Shared → Prop} {Rs : Result → Shared → Prop} {hp : Heap} {gs : Array GenState} {dr : Drawn} {tk : Nat} {o : OsState}
variable {nm qn : Str} {C N : Addr} {bs bm bmB : List Value} {hdct : Bool} {sn : List Str} {sub : List Value} {ab : Bool} {col : Option Bool} {dd : Option Addr} {k0 k1 k2 k3 k5 : Option Value} {B newId initId : String}
theorem check_newK (F : ExcBaseFacts B newId initId bmB) (hT : ∀ X : String, bm.contains (.type X) = bmB.contains (.type X)) {rest : List Value} {kw : List (Str × Value)} {Q : Unit → Shared → Prop}
    (hC : hp.get? C = some (excClassObj nm qn C N bs bm hdct sn sub ab col dd k0 k1 k2 k3 k5 newId)) (hq : Q () ⟨hp, gs, dr, tk, o⟩) : wpAny M Ar (checkBuiltinCall newId ⟨.ref C :: rest, kw⟩) Q Ex ⟨hp, gs, dr, tk, o⟩ := by
  have hc1 : (Value.ref C :: bm).contains (.type B) = true := by rw [List.contains_cons, hT B, F.hasB]; exact Bool.or_true _
  have hs := F.noStar
  simp only [checkBuiltinCall, F.newSplit, F.newKind, F.newRow]
  repeat (first | refine wpAny_madeBy_exc hC ?_ | refine wpAny_staticBase_exc hC ?_ | (refine wpAny_isSubtype_exc hC ?_; rw [hc1]) | refine wpAny_loadPart_at hC ?_ | simp only [Bool.false_eq_true, bne_self_eq_false, if_false] | wp_step)
  exact hq
theorem newK (F : ExcBaseFacts B newId initId bmB) (hT : ∀ X : String, bm.contains (.type X) = bmB.contains (.type X)) {rest : List Value} {kw : List (Str × Value)}
    (hC : hp.get? C = some (excClassObj nm qn C N bs bm hdct sn sub ab col dd k0 k1 k2 k3 k5 newId))
    (hq : Rs (.ok (.ret (.ref (hp.objs.size + 1)))) ⟨(hp.push { cls := .type "tuple", data := .seq rest.toArray }).push
      { cls := .ref C, data := .fields #[.ref hp.objs.size, .none, .none, .none, .bool false, .none] }, gs, dr, tk, o⟩) (hl : rest.length ≤ sizeLine) :
    codeAny (model prog w) Ar (.builtin newId ⟨.ref C :: rest, kw⟩) Rs ⟨hp, gs, dr, tk, o⟩ := by
  have he := F.ends
  have hc1 : (Value.ref C :: bm).contains (.type B) = true := by rw [List.contains_cons, hT B, F.hasB]; exact Bool.or_true _
  have hc2 : (Value.ref C :: bm).contains (.type "AttributeError") = false := by rw [List.contains_cons, hT "AttributeError", F.noAttr] <;> rfl
  have hc3 : (Value.ref C :: bm).contains (.type "NameError") = false := by rw [List.contains_cons, hT "NameError", F.noName] <;> rfl
  refine codeAny_builtinAt F.entry ?_
  unfold Builtin.«BaseException.__new__»
  refine PySem.wpAt_bind ?_
  show PySem.wpAt _ _ _ (stack >>= _) _ _ _
  refine PySem.wpAt_bind (PySem.wpAt_stack fun p below => PySem.wpAt_of_wpAny ?_)
  wp_walk
  refine PySem.wpAt_of_wpAny ?_
  rw [F.owner]
  repeat (first | with_reducible refine wpAny_loadPart_at hC ?_ | with_reducible refine wpAny_madeHere_exc F.canon hC ?_ | (with_reducible refine wpAny_isSubtype_exc hC ?_; first | rw [hc1] | rw [hc2] | rw [hc3]) | wp_step)
  show Rs _ _
  rw [Heap.size_push]
  exact hq
theorem type_callK (F : ExcBaseFacts B newId initId bmB) (hT : ∀ X : String, bm.contains (.type X) = bmB.contains (.type X)) {rest : List Value} {kw : List (Str × Value)} {fI : Addr} {Q : Fin → Shared → Prop}
    (hC : hp.get? C = some (excClassObj nm qn C N bs bm hdct sn sub ab col dd k0 k1 k2 k3 k5 newId))
    (hi : W.Looks (model prog w) hp (typeLookup (.ref C) "__init__") (some (.ref fI))) (hb : ∀ self, W.Looks (model prog w) hp (bindSpecial (.ref fI) self) (.ref fI, [self])) (hl : rest.length ≤ sizeLine)
    (hq : codeAny (model prog w) Ar (.call (.ref fI) ⟨.ref (hp.objs.size + 1) :: rest, kw⟩)
      (fun r s' => match r with | .ok (.ret v) => v = .none ∧ Q (.done (.ret (.ref (hp.objs.size + 1)))) s' | .ok _ => False | .error e => Ex e s')
      ⟨(hp.push (W.kdv_tup rest)).push (HandSPX.excO C hp.objs.size), gs, dr, tk, o⟩) :
    wpAny (model prog w) Ar (Builtin.«type.__call__» ⟨.ref C :: rest, kw⟩) Q Ex ⟨hp, gs, dr, tk, o⟩ := by
  repeat (first | with_reducible refine wpAny_madeBy_exc hC ?_ | with_reducible refine wpAny_loadPart_at hC ?_ | wp_step)
  refine codeAny_call_builtin_code (Code.quiet_builtin _ F.quiet) (check_newK F hT hC ?_)
  refine newK F hT hC ?_ hl
  show wpAny _ _ _ _ _ _
  have kp : ∀ b u, hp.get? b = some u → ((hp.push (W.kdv_tup rest)).push (HandSPX.excO C hp.objs.size)).get? b = some u := fun b u e => Heap.get?_push_of_some _ (Heap.get?_push_of_some _ e)
  have hC2 := kp _ _ hC
  have hx : ((hp.push (W.kdv_tup rest)).push (HandSPX.excO C hp.objs.size)).get? (hp.objs.size + 1) = some (HandSPX.excO C hp.objs.size) := by heap_get
  have hcC : (Value.ref C :: bm).contains (.ref C) = true := by simp
  have i2 := hi.keeps kp
  have b2 := (hb (.ref (hp.objs.size + 1))).keeps kp
  unfold isInstance
  repeat (first | with_reducible refine wpAny_loadPart_at hx ?_ | (with_reducible refine wpAny_isSubtype_exc hC2 ?_; rw [hcC]) | wp_step)
  show wpAny _ _ (typeLookup (.ref C) _) _ _ _
  refine i2.at ?_
  refine wpAny_holding (wpAny_bind (b2.at ?_))
  refine wpAny_bind (wpAny_call (codeAny_mono hq fun r s' z => ?_))
  rcases r with e | (v | _ | _ | _) <;> first | exact z | exact z.elim | skip
  obtain ⟨rfl, z⟩ := z
  first
    | exact wpAny_pure (wpAny_pure z)
    | (wp_walk; exact z)
theorem check_callK {rest : List Value} {kw : List (Str × Value)} {Q : Unit → Shared → Prop} (hC : hp.get? C = some (excClassObj nm qn C N bs bm hdct sn sub ab col dd k0 k1 k2 k3 k5 newId))
    (hq : Q () ⟨hp, gs, dr, tk, o⟩) : wpAny M Ar (checkBuiltinCall "type.__call__" ⟨.ref C :: rest, kw⟩) Q Ex ⟨hp, gs, dr, tk, o⟩ := by
  have f1 := tc_sub
  have hTy : (⟨hp, gs, dr, tk, o⟩ : Shared).TypeIs (.ref C) "type" := ⟨_, hC, rfl⟩
  simp only [checkBuiltinCall, tc_split, tc_kind]
  repeat (any_goals (first | assumption | with_reducible refine wpAny_onRaise ?_ | with_reducible refine wpAny_loadPart_at hC ?_ | with_reducible refine wpAny_map ?_ | wp_step))
theorem callK (F : ExcBaseFacts B newId initId bmB) (hT : ∀ X : String, bm.contains (.type X) = bmB.contains (.type X)) {rest : List Value} {kw : List (Str × Value)} {fI : Addr}
    (hC : hp.get? C = some (excClassObj nm qn C N bs bm hdct sn sub ab col dd k0 k1 k2 k3 k5 newId))
    (hi : W.Looks (model prog w) hp (typeLookup (.ref C) "__init__") (some (.ref fI))) (hb : ∀ self, W.Looks (model prog w) hp (bindSpecial (.ref fI) self) (.ref fI, [self])) (hl : rest.length ≤ sizeLine)
    (hq : codeAny (model prog w) (Ar.under (.builtin "type.__call__" ⟨.ref C :: rest, kw⟩)) (.call (.ref fI) ⟨.ref (hp.objs.size + 1) :: rest, kw⟩) (W.InitBack (hp.objs.size + 1) Rs)
      ⟨(hp.push (W.kdv_tup rest)).push (HandSPX.excO C hp.objs.size), gs, dr, tk, o⟩) :
    codeAny (model prog w) Ar (.call (.ref C) ⟨rest, kw⟩) Rs ⟨hp, gs, dr, tk, o⟩ := by
  have f1 := tc_lookup
  have f2 := tc_bind (.ref C)
  have hTy : (⟨hp, gs, dr, tk, o⟩ : Shared).TypeIs (.ref C) "type" := ⟨_, hC, rfl⟩
  refine codeAny_of_tree ?_
  show wpAny _ _ (callAny (.ref C) _) _ _ _
  repeat (any_goals (first | assumption | with_reducible refine wpAny_loadPart_at hC ?_ | wp_step))
  refine ⟨rfl, ?_⟩
  refine codeAny_call_builtin_at (Code.quiet_builtin _ (by decide +kernel)) entry_typeCall (check_callK hC (type_callK F hT hC hi hb hl ?_))
  refine codeAny_mono hq fun r s' z => ?_
  rcases r with e | (v | _ | _ | _) <;> exact z
end
end LKX

set_option Elab.async false
set_option linter.all false
set_option maxRecDepth 100000
set_option maxHeartbeats 4000000
/-! errors of own classes, held as values: made, their fields, isinstance -/
namespace LK
open PySem PySem.Spec PyProof.Rows L2
/-- at a: an error of the class cls, its dict at d; fr: no frame has noted it yet -/
def exK (a : Addr) (cls : Value) (d : Option Addr) (fr : Bool) : HO := .ext fun h => ∃ (oe : Obj) (vs : Array Value), h.get? a = some oe ∧ oe.cls = cls ∧ oe.dict = d ∧ oe.data = .fields vs ∧ (fr = true → vs[1]? = some .none)
section
variable {P : Program} {w : World} {H : Hp} {h : Heap} {a : Addr} {cls : Value} {d : Option Addr} {fr : Bool}
theorem exK_ok {oe : Obj} {vs : Array Value} (e : h.get? a = some oe) (c : oe.cls = cls) (k : oe.dict = d) (f : oe.data = .fields vs) (g : fr = true → vs[1]? = some .none) : ObjOk P w H h a (exK a cls d fr) :=
  ⟨⟨oe, vs, e, c, k, f, g⟩, ⟨oe, e⟩, fun _ _ z k => let ⟨o, v, q, r⟩ := z; ⟨o, v, k o q, r⟩⟩
theorem exK_at (hok : HOk P w H h) (e : H a = some (exK a cls d fr)) : ∃ (oe : Obj) (vs : Array Value), h.get? a = some oe ∧ oe.cls = cls ∧ oe.dict = d ∧ oe.data = .fields vs ∧ (fr = true → vs[1]? = some .none) := (show ObjOk P w H h a (.ext _) from hok a _ e).1
end
/-- its dict stands, or it has none -/
def DictAt (H : Hp) (d : Option Addr) : Prop := d = none ∨ ∃ (x : Addr) (fs : List (Str × V)), d = some x ∧ H x = some (.xd fs)
theorem DictAt.same {H H' : Hp} {d : Option Addr} (k : DictAt H d) (e : Same H H') : DictAt H' d := by
  rcases k with k | ⟨x, fs, k, q⟩
  · exact .inl k
  · exact .inr ⟨x, fs, k, e _ _ q⟩
/-! ### calls with positional and keyword values -/
def CallKR (X : Cx) (f : Value) (ks : List Str) (r : List V → List V → Hp → VK → Prop) : Prop :=
  ∀ (pins : List (Addr × Obj)) (s : Shared) (σ : L2.St) (H : Hp) (xs : List V) (us : List Value) (zs : List V) (ws : List Value) (Q : VK), Inv X pins σ H s → Vals xs us → Vals zs ws → r xs zs H Q →
    wpAny (model X.prog X.w) X.A (call f us (ks.zip ws)) (EP X pins σ Q) X.xe s
def tGK (r : List V → List V → Hp → VK → Prop) (ta tk : TA) : TE := fun σ H Q => ta σ H fun xs H1 => tk σ H1 fun zs H2 => r xs zs H2 Q
section
variable {X : Cx} {ks : List Str} {f : Value} {x : Str} {p pos : Pos} {e : Expr} {es : List Expr} {kws : List Keyword} {t tk : TA} {r : List V → List V → Hp → VK → Prop}
theorem pe_gk (c : CallKR X f ks r) (hg : Gl X x) (hm : X.mg x = some f) (hk : PySem.W.keepIn X.K f = true) (ha : PA X (e :: es) t) (hkw : PK X kws tk)
    (hall : (backToKw pos (keywordEach kws X.env)).all (·.1.isSome) = true := by rfl) (hks : (backToKw pos (keywordEach kws X.env)).filterMap (·.1) = ks := by rfl) (hdb : (x == ("__debug__" : Str)) = false := by decide)
    (he : starEach (e :: es) X.env = (false, eval e X.env) :: starEach es X.env := by rfl) (hpl : ((backTo pos (starEach (e :: es) X.env)).any (·.1) || (backToKw pos (keywordEach kws X.env)).any (·.1.isNone)) = false := by rfl) :
    PE X (.Call (.Name x p) (e :: es) kws pos) (tGK r t tk) := by
  refine ⟨fun pins s σ H Q I h => wpAny_Call_Name_kw (ld_glob I hg hm ?_ hdb)⟩
  refine PySem.W.callWith_KW (h₀ := X.base) I.ok.mod.kin hk hall (thn (ha.run pos pins s σ H _ I h) fun us s1 hz => ?_) hpl he
  obtain ⟨vs, H1, I1, r1, q⟩ := hz
  refine thn (hkw.run pos pins s1 σ H1 _ I1 q) fun ws s2 hz => ?_
  obtain ⟨zs, H2, I2, rz, q2⟩ := hz
  refine ⟨I2.kIn, ?_⟩
  rw [hks]
  exact c pins s2 σ H2 vs us zs ws Q I2 r1 rz q2
theorem pe_gk0 (c : CallKR X f ks r) (hg : Gl X x) (hm : X.mg x = some f) (hk : PySem.W.keepIn X.K f = true) (hkw : PK X kws tk)
    (hall : (backToKw pos (keywordEach kws X.env)).all (·.1.isSome) = true := by rfl) (hks : (backToKw pos (keywordEach kws X.env)).filterMap (·.1) = ks := by rfl) (hdb : (x == ("__debug__" : Str)) = false := by decide)
    (hpl : ((backTo pos (starEach [] X.env)).any (·.1) || (backToKw pos (keywordEach kws X.env)).any (·.1.isNone)) = false := by rfl) :
    PE X (.Call (.Name x p) [] kws pos) (tGK r tNil tk) := by
  refine ⟨fun pins s σ H Q I h => wpAny_Call_Name_kw (ld_glob I hg hm ?_ hdb)⟩
  refine PySem.W.callWith_KW0 (h₀ := X.base) I.ok.mod.kin hk hall (thn (hkw.run pos pins s σ H _ I h) fun ws s2 hz => ?_) hpl
  obtain ⟨zs, H2, I2, rz, q2⟩ := hz
  refine ⟨I2.kIn, ?_⟩
  rw [hks]
  exact c pins s2 σ H2 [] [] zs ws Q I2 .nil rz q2
end
/-! ### C(..): no own __init__ -/
structure rMkN (C : Addr) (xs zs : List V) (H : Hp) (Q : VK) : Prop where
  out : zs = [] ∧ xs.length ≤ 1000 ∧ ∀ a, H a = none → Q (.ref a) (upd H a (exK a (.ref C) none true))
theorem ck_mkN {X : Cx} {C : Addr} {bmB : List Value} {B newId initId : String} (F : ExcBaseFacts B newId initId bmB) (q : PySem.W.excIn X.K C bmB newId = true) : CallKR X (.ref C) [] (rMkN C) := by
  intro pins s σ H xs us zs ws Q I r rz h
  obtain ⟨rfl, hl, q1⟩ := h.out
  obtain ⟨bm, N, nm, qn, bs, hdct, sn, sub, ab, col, dd, k0, k1, k2, k3, k5, mN, hC, hN, hni, T⟩ := exc_obj I.kIn q
  show wpAny _ _ (call (.ref C) us) _ _ _
  have hus : us.length ≤ sizeLine := by
    rw [← Paired.length r, sizeLine_eq]
    omega
  refine wpAny_call_exc_subT F T hC hN hni (fun h' a hm => ?_) hus
  have hn : H a = none := I.hok.gone hm.new
  obtain ⟨t, ht, _, _⟩ := hm.there
  exact ⟨.ref a, _, I.laidN hm.keeps hm.new hn (exK_ok ht rfl rfl rfl fun _ => rfl), rfl, q1 a hn⟩
/-! ### C(..): C's own __init__ keeps sp -/
section
variable {X : Cx} {CX : CXT} {C fI : Addr} {k n : Nat} {fd : FuncData} {ps ks : List Str} {sp : Sp} {g : List Value → List Value → List Value} {gV : List V → List V → List V}
/-- up to the end of __init__ -/
theorem mk_core {pins : List (Addr × Obj)} {σ : L2.St} {H1 : Hp} {s1 : Shared} {vs zs : List V} {us ws : List Value} {Qi : Addr → VK} {Post : Value → Shared → Prop} (T : OexC X.K C) (iC : PySem.W.findIn X.K (.ref C) "__init__" = some (some (.ref fI))) (tI : PySem.W.typeIn X.K (.ref fI) = some (.type "function"))
    (F1 : FnOk X.prog X.w X.K X.mg X.base CX k fI fd ps sp) (hr : Room (k + 1) X.A) (hb : KBn X.K fd ps (n + 1) ks g gV) (hx : Passes CX X (fun _ _ _ => False)) (I1 : Inv X pins σ H1 s1) (r1 : Vals vs us) (rz : Vals zs ws) (hn : vs.length = n) (hz : zs.length = ks.length) (hl : n ≤ 1000)
    (hq : ∀ a, H1 a = none → sp (gV (.ref a :: vs) zs) (upd H1 a (exo a C none)) (Qi a) fun _ _ _ => False)
    (fin : ∀ s2 u, s2.os = s1.os → (∀ b o, s1.heap.get? b = some o → s2.heap.get? b = some o) → Inv X pins σ (upd H1 (s1.heap.objs.size + 1) (exo (s1.heap.objs.size + 1) C none)) s2 →
      ∀ s', CE X.stack X.prog X.w (upd H1 (s1.heap.objs.size + 1) (exo (s1.heap.objs.size + 1) C none)) s2 (Qi (s1.heap.objs.size + 1)) u s' → u = .none ∧ Post (.ref (s1.heap.objs.size + 1)) s') :
    wpAny (model X.prog X.w) X.A (call (.ref C) us (ks.zip ws)) Post X.xe s1 := by
  obtain ⟨nm, q, N, bs, bm, sn, sub, ab, col, dd, k0, k1, k2, k3, k5, hC, hbm⟩ := T.cls
  obtain ⟨hp, gs, dr, tk, os⟩ := s1
  have hsz : hp.objs.size ≤ hp.objs.size + 1 := Nat.le_succ _
  have hnn : H1 (hp.objs.size + 1) = none := I1.hok.fresh hsz
  have hq' := hq (hp.objs.size + 1) hnn
  have kk : ∀ b o, hp.get? b = some o → ((hp.push (PySem.W.kdv_tup us)).push (PySem.HandSPX.excO C hp.objs.size)).get? b = some o := fun b o e => Heap.get?_push_of_some _ (Heap.get?_push_of_some _ e)
  have hget : ((hp.push (PySem.W.kdv_tup us)).push (PySem.HandSPX.excO C hp.objs.size)).get? (hp.objs.size + 1) = some (PySem.HandSPX.excO C hp.objs.size) := by heap_get
  have I2 : Inv X pins σ (upd H1 (hp.objs.size + 1) (exo (hp.objs.size + 1) C none)) ⟨(hp.push (PySem.W.kdv_tup us)).push (PySem.HandSPX.excO C hp.objs.size), gs, dr, tk, os⟩ :=
    I1.laid (t' := tk) (a := hp.objs.size + 1) (o := exo (hp.objs.size + 1) C none) (h' := (hp.push (PySem.W.kdv_tup us)).push (PySem.HandSPX.excO C hp.objs.size)) kk hsz (exo_ok hget)
  have r0 : Vals (V.ref (hp.objs.size + 1) :: vs) (Value.ref (hp.objs.size + 1) :: us) := .cons rfl r1
  have r2 := hb.rel r0 rz
  have hus : us.length ≤ sizeLine := by
    rw [← Paired.length r1, sizeLine_eq]
    omega
  have l1 : (Value.ref (hp.objs.size + 1) :: us).length = n + 1 := by rw [← Paired.length r0, List.length_cons, hn]
  have l2 : ws.length = ks.length := by rw [← Paired.length rz, hz]
  refine wpAny_call (LKX.callK PySem.F.excBase_ValueError (fun Y => PySem.HandSPX.refsVE_contains Y bm hbm) (I1.kIn _ _ hC) (PySem.W.looks_findIn I1.kIn iC) (fun self => PySem.W.bind_fn I1.kIn self tI) hus
    (codeAny_mono (F1.run _ X.stack _ _ ⟨Value.ref (hp.objs.size + 1) :: us, ks.zip ws⟩ _ _ _ (fun _ _ _ => False) (hr.make C us _) (I2.env0.make C us _) (hb.to _ (Value.ref (hp.objs.size + 1) :: us) ws I2.kIn l1 l2) r2 hq') fun r s' hq2 => ?_))
  cases r with
  | error er => exact hx pins σ _ _ er s' I2 hq2
  | ok fl =>
    cases fl with
    | ret u => exact fin ⟨(hp.push (PySem.W.kdv_tup us)).push (PySem.HandSPX.excO C hp.objs.size), gs, dr, tk, os⟩ u rfl kk I2 s' hq2
    | next => exact False.elim hq2
    | brk => exact False.elim hq2
    | cont => exact False.elim hq2
/-- the same sight: e tracked, of another description -/
theorem retag {pins : List (Addr × Obj)} {σ : L2.St} {H : Hp} {s : Shared} {a : Addr} {φ : Heap → Prop} {o : HO} (I : Inv X pins σ H s) (e : H a = some (.ext φ)) (ok : ObjOk X.prog X.w (upd H a o) s.heap a o) : Inv X pins σ (upd H a o) s := by
  obtain ⟨hp, gs, dr, tk, os⟩ := s
  exact I.write (t' := tk) (x := a) (e := a) (o := o) (by rw [e]; exact True.intro) (.inl rfl) (fun _ _ _ q => q) (objOk_get ok) ok
structure rMkO (C : Addr) (n : Nat) (ks : List Str) (sp : Sp) (gV : List V → List V → List V) (xs zs : List V) (H : Hp) (Q : VK) : Prop where
  out : xs.length = n ∧ zs.length = ks.length ∧ ∀ a, H a = none → sp (gV (.ref a :: xs) zs) (upd H a (exo a C none))
    (fun v H2 => v = .non ∧ ∃ (d : Addr) (fs : List (Str × V)), H2 a = some (exo a C (some d)) ∧ H2 d = some (exd d fs) ∧ Q (.ref a) (upd (upd H2 d (.xd fs)) a (exK a (.ref C) (some d) true))) (fun _ _ _ => False)
theorem ck_mkO (T : OexC X.K C) (iC : PySem.W.findIn X.K (.ref C) "__init__" = some (some (.ref fI))) (tI : PySem.W.typeIn X.K (.ref fI) = some (.type "function"))
    (F1 : FnOk X.prog X.w X.K X.mg X.base CX k fI fd ps sp) (hr : Room (k + 1) X.A) (hb : KBn X.K fd ps (n + 1) ks g gV) (hx : Passes CX X (fun _ _ _ => False)) (hl : n ≤ 1000 := by decide) : CallKR X (.ref C) ks (rMkO C n ks sp gV) := by
  intro pins s σ H xs us zs ws Q I r rz h
  obtain ⟨hn, hz, hq⟩ := h.out
  refine mk_core T iC tI F1 hr hb hx I r rz hn hz hl hq fun s2 u _ _ I2 s' hc => ?_
  obtain ⟨v, H2, J, rv, ev, d, fs, ea, ed, q⟩ := I2.after hc
  subst ev
  refine ⟨rv, ?_⟩
  obtain ⟨t0, hoe⟩ := exo_at J.hok ea
  obtain ⟨mA, hns, rel⟩ := exd_at J.hok ed
  have nda : s.heap.objs.size + 1 ≠ d := fun z => by
    obtain ⟨o, es, ep, e1, e2, _⟩ := hns
    rw [← z, hoe] at e1
    have z2 := Option.some.inj e1
    subst z2
    cases e2
  have J2 : Inv X pins σ (upd H2 d (.xd fs)) s' := retag J (show H2 d = some (HO.ext _) from ed) (show ObjOk X.prog X.w (upd H2 d (.xd fs)) s'.heap d (.xd fs) from ⟨mA, hns, rel⟩)
  have ea2 : upd H2 d (.xd fs) (s.heap.objs.size + 1) = some (exo (s.heap.objs.size + 1) C (some d)) := by rw [upd_ne nda]; exact ea
  exact ⟨.ref (s.heap.objs.size + 1), _, retag J2 (show _ = some (HO.ext _) from ea2) (exK_ok hoe rfl rfl rfl fun _ => rfl), rfl, q⟩
end
/-! ### D.__init__(self, ..) of an own class D that has none of its own -/
structure InitC (K : PySem.W.Frag) (D : Addr) : Prop where
  rd : PySem.W.readsIn K D (.type "type") = true
  ga : PySem.W.specialIn K (.ref D) "__getattribute__" = some (some (.builtin "type.__getattribute__"))
  fc : PySem.W.findCls K (.ref D) (.type "type") "__init__" = some (.val (.builtin "ValueError.__init__"))
theorem pe_cinit {X : Cx} {D : Addr} {x : Str} {e : Expr} {es : List Expr} {ta : TA} {p1 p2 pos : Pos} {pl : Sem Bool} (T : InitC X.K D) (hg : Gl X x) (hm : X.mg x = some (.ref D)) (ha : PA X (e :: es) ta) (hdb : (x == ("__debug__" : Str)) = false := by decide)
    (hc : eval (.Call (.Attribute (.Name x p1) "__init__" p2) (e :: es) [] pos) X.env = (do
      let ov ← eval (.Name x p1) X.env
      standAt p2.atName
      let (f, first) ← holding [ov] (getMethod ov "__init__" pl)
      callWith pos f first (backTo pos (starEach (e :: es) X.env)) (backToKw pos (keywordEach [] X.env))) := by rfl)
    (he : starEach (e :: es) X.env = (false, eval e X.env) :: starEach es X.env := by rfl) (hpl : (backTo pos (starEach es X.env)).any (·.1) = false := by rfl) :
    PE X (.Call (.Attribute (.Name x p1) "__init__" p2) (e :: es) [] pos) (tVeI X.K ta) := by
  refine ⟨fun pins s σ H Q I h => PySem.W.methodCall_KW (ld_glob I hg hm ?_ hdb) hc⟩
  refine PySem.W.method_cls I.kIn T.ga (PySem.W.cls_value I.kIn T.rd T.fc (by decide +kernel) ?_)
  show wpAny _ _ (callWith pos (Value.builtin "ValueError.__init__") [] (backTo pos (starEach (e :: es) X.env)) []) _ _ _
  refine PyProof.Rows.callWith_method1 (thn (ha.run pos pins _ σ H _ (I.tok _) h) fun us s1 hz => ?_) he hpl
  obtain ⟨vs, H1, I1, r1, a, C, ws, ev, hl, T1, ea, q⟩ := hz
  subst ev
  cases r1 with
  | @cons _ u0 _ ur ra rw' =>
    obtain rfl : u0 = Value.ref a := ra
    have hlen : ur.length ≤ sizeLine := by
      rw [← Paired.length rw', sizeLine_eq]
      omega
    exact oinit_ok T1 I1 ea hlen fun s' J => ⟨.non, H1, J, rfl, q⟩
/-! ### e.f -/
structure rXfK (K : PySem.W.Frag) (f : Str) (x : V) (H1 : Hp) (Q : VK) : Prop where
  out : ∃ (a C dd : Addr) (fr : Bool) (fs : List (Str × V)) (v : V), x = .ref a ∧ XfC K C ∧ PySem.W.findIn K (.ref C) f = some none ∧ H1 a = some (exK a (.ref C) (some dd) fr) ∧ H1 dd = some (.xd fs) ∧ fs.lookup f = some v ∧ Q v H1
def tXfK (K : PySem.W.Frag) (f : Str) (te : TE) : TE := fun σ H Q => te σ H fun x H1 => rXfK K f x H1 Q
theorem pe_xfK {X : Cx} {K : PySem.W.Frag} {e : Expr} {te : TE} {pos : Pos} {n : Str} (he : PE X e te) (hb : attributeBase e n X.env (eval e X.env) = eval e X.env := by rfl) (hK : X.K = K := by rfl) : PE X (.Attribute e n pos) (tXfK K n te) := by
  subst hK
  refine ⟨fun pins s σ H Q I h => attr_of hb (thn (he.run pins s σ H _ I h) fun u s1 hh => ?_)⟩
  obtain ⟨x, H1, I1, rx, hh⟩ := hh
  obtain ⟨a, C, dd, fr, fs, v, ex, T, hno, ea, ed, l, q⟩ := hh.out
  subst ex
  obtain rfl : u = Value.ref a := rx
  obtain ⟨oe, vs, ha, hcls, hdi, hfi, _⟩ := exK_at I1.hok ea
  have hx : ObjOk X.prog X.w H1 s1.heap dd (.xd fs) := I1.hok dd _ ed
  obtain ⟨mA, hns, hr⟩ := hx
  obtain ⟨od, ho, hl⟩ := lookIn_ns hns
  obtain ⟨u, hu, ru⟩ := RelO.some_of (v := v) (o := mA n) (by rw [← l]; exact hr n)
  have J : PySem.W.InstAt s1.heap a oe C (some od) := ⟨ha, hcls, by unfold PySem.W.notCls; rw [hfi] <;> rfl, by rw [hdi]; exact ho⟩
  exact HandSPX.exc_get I1.kIn J T.ga T.gg T.exC (PySem.W.findObj_own T.hdC hno rfl (by rw [hl, hu])) (handed_of ru) ⟨v, H1, I1.tok _, ru, q⟩
/-! ### isinstance of an error -/
end LK
namespace LKX
open PySem PySem.W PySem.Spec PySem.Calls PyProof.Rows
section
variable {prog : Program} {w : World} {Ar : Around} {Ex : Value → Shared → Prop} {s : Shared} {K : Frag} {x D : Addr} {ox : Obj} {od : Option Obj}
/-- e.__class__, whether e has a dict or none -/
theorem class_exc {Q : Option Value → Shared → Prop} (C : L2.ExcC K D) (X : K.In s.heap) (I : InstAt s.heap x ox D od) (h : Q (some (.ref D)) { s with toks := s.toks + 1 }) : wpAny (model prog w) Ar (getAttr? (.ref x) "__class__") Q Ex s := by
  have hsome : (clsIn K D).isSome = true := by
    obtain ⟨cd, e, _⟩ := any_some C.hd
    rw [e] <;> rfl
  have hf : findObj K D od "__class__" = some (.bind (.builtin "getset_descriptor.__get__") (.builtin "object.__class__")) := by
    cases od with
    | none => exact findObj_dataN hsome C.ha C.hn C.ht
    | some o => exact findObj_data hsome C.ha C.hn C.ht
  obtain ⟨hp, gs, dr, tk, o⟩ := s
  have L0 := I.type (M := model prog w)
  have LG := looks_findIn (M := model prog w) X C.hg
  have LA := looks_findIn (M := model prog w) X C.hk
  have LF := looks_find (M := model prog w) X I hf
  have isB : Looks (model prog w) hp (isInstance (.ref x) (.type "BaseException")) true := L0.andThen (looks_subIn X C.hs)
  have n1 : (Value.builtin "BaseException.__getattribute__" == Value.builtin "object.__getattribute__") = false := by decide +kernel
  have n2 : (onTheHeap (Value.ref D) && Value.builtin "BaseException.__getattribute__" == Value.builtin "object.__getattribute__") = false := by rw [n1] <;> rfl
  have n3 : (false && onTheHeap (Value.builtin "BaseException.__getattribute__")) = false := rfl
  unfold getAttr? getAttrBy? getAttrBy
  refine wpAny_bind (wpAny_mkText (wpAny_bind (wpAny_attempt (wpAny_holding (wpAny_bind (L0.at (wpAny_bind (LG.at ?_))))))))
  show wpAny _ _ (if (onTheHeap (Value.ref D) && Value.builtin "BaseException.__getattribute__" == Value.builtin "object.__getattribute__") = true then _ else _) _ _ _
  rw [n2, if_neg Bool.false_ne_true]
  unfold getAttrByItsOwn hookBefore
  refine wpAny_bind ?_
  rw [if_pos (show onTheHeap (Value.ref D) = true from rfl)]
  refine LA.at (wpAny_bind (wpAny_attempt (wpAny_holding ?_)))
  unfold callGetattribute
  rw [n3, if_neg Bool.false_ne_true]
  unfold boundAndCalled
  rw [PySem.F.excAttr_ValueError.ga.bind (.ref x)]
  refine wpAny_bind (wpAny_pure ?_)
  show wpAny _ _ (call (.builtin "BaseException.__getattribute__") [.ref x, .str "__class__" tk]) _ _ _
  refine wpAny_call (codeAny_call_builtin PySem.F.excAttr_ValueError.ga.plain PySem.F.entry_bexc_ga ?_)
  refine @check_slot (model prog w) _ _ ⟨hp, gs, dr, tk + 1, o⟩ "BaseException.__getattribute__" "BaseException" "__getattribute__" (.ref x) [.str "__class__" tk] [] _ (by decide +kernel) (by decide +kernel) isB (PySem.F.args_bexc_ga (.ref x) (.str "__class__" tk)) ?_
  unfold Builtin.«object.__getattribute__»
  refine wpAny_bind (wpAny_of_eq (a := ((Value.ref x : Value), [Value.str "__class__" tk])) (by first | rfl | (simp only [slotArgs]; rfl)) ?_)
  refine wpAny_bind (wpAny_pure (wpAny_bind (L0.at (wpAny_bind (LF.at ?_)))))
  show wpAny _ _ (holding [Value.builtin "object.__class__"] (call (.builtin "getset_descriptor.__get__") [.builtin "object.__class__", .ref x, .ref D]) >>= ret) _ _ _
  refine wpAny_bind (wpAny_holding (wpAny_call (class_get (s := ⟨hp, gs, dr, tk + 1, o⟩) (ox := ox) (od := od) X I C.hm ?_)))
  refine wpAny_pure ?_
  show wpAny _ _ (handedOut (.ref D)) _ _ _
  rw [handedOut_of (v := .ref D) rfl]
  first
    | exact wpAny_pure (wpAny_pure h)
    | exact wpAny_pure h
    | exact wpAny_pure (wpAny_bind (wpAny_pure (wpAny_pure h)))
theorem kitx_exc (C : L2.ExcC K D) : KitX K (.ref x) (.ref D) (fun h => InstAt h x ox D od) where
  ty := fun _ _ _ I => I.type
  it := fun _ _ X _ => by
    obtain ⟨cdD, hcD, _⟩ := any_some C.hd
    unfold clsIn at hcD
    split at hcD
    · rename_i _ _ _ _ ho
      intro _ _ _ _ k q
      unfold isType loadHead
      exact wpAny_bind (wpAny_loadPart (k _ _ (X _ _ ho)) (wpAny_pure q))
    · cases hcD
  ne := fun h tp dd its n sl X htp => by
    obtain ⟨cdD, hcD, _⟩ := any_some C.hd
    refine Bool.eq_false_iff.mpr fun q => ?_
    have e : D = tp := Value.ref.inj (beq_iff_eq.mp q)
    subst e
    unfold clsIn at hcD
    split at hcD
    · rename_i _ _ _ _ ho
      have z := (X _ _ ho).symm.trans htp
      cases z
    · cases hcD
  ca := fun X I k => class_exc C X I k
end
end LKX
namespace LK
open PySem PySem.Spec PyProof.Rows L2
/-- isinstance(x, c), x an error or another thing -/
def rIsx (K : PySem.W.Frag) : List V → Hp → VK → Prop := fun xs H Q => rIsi K xs H Q ∨ ∃ (a D : Addr) (c : V) (cv : Value) (d : Option Addr) (fr b : Bool), xs = [.ref a, c] ∧ ExcC K D ∧ H a = some (exK a (.ref D) d fr) ∧ DictAt H d ∧ ClsV c cv ∧ PySem.W.kitOne K (.ref D) cv = some b ∧ Q (.bl b) H
theorem cIsx {X : Cx} {K : PySem.W.Frag} (hK : X.K = K := by rfl) : CallR X (.builtin "isinstance") (rIsx K) := by
  subst hK
  intro pins s σ H xs us Q I r h
  rcases h with h | ⟨a, D, c, cv, d, fr, b, rfl, T, ea, kd, k, e, q⟩
  · exact call_isi pins s σ H xs us Q I r h
  obtain ⟨u1, u2, rfl, r1, r2⟩ := vals2 r
  obtain rfl : u1 = Value.ref a := r1
  have e2 := k.eq r2
  subst e2
  obtain ⟨oe, vs, ha, hcls, hdi, hfi, _⟩ := exK_at I.hok ea
  obtain ⟨od, J⟩ : ∃ od, PySem.W.InstAt s.heap a oe D od := by
    rcases kd with kd | ⟨x, fs, kd, ex⟩
    · exact ⟨none, ha, hcls, by unfold PySem.W.notCls; rw [hfi] <;> rfl, by rw [hdi, kd]; exact True.intro⟩
    · have hx : ObjOk X.prog X.w H s.heap x (.xd fs) := I.hok x _ ex
      obtain ⟨mA, hns, hr⟩ := hx
      obtain ⟨od, ho, _⟩ := lookIn_ns hns
      exact ⟨some od, ha, hcls, by unfold PySem.W.notCls; rw [hfi] <;> rfl, by rw [hdi, kd]; exact ho⟩
  exact PySem.W.kia_one (LKX.kitx_exc T) I.kIn J e (fun z => nomatch z) fun tk => ⟨.bl b, H, I.tok tk, rfl, q⟩
end LK

set_option Elab.async false
set_option linter.all false
set_option maxRecDepth 100000
set_option maxHeartbeats 4000000
/-! the head's facts: a test of mine beside the defs -/
namespace LK
open PySem PySem.Spec PyProof.Rows L2 He
def obsM (ck : PySem.W.Frag → Bool) (fn : List DefD) (K : PySem.W.Frag) : AlD := (ck K && fn.all fun d => d.ok K, fn.map fun d => fnW K d.at_)
def SaysM (ck : PySem.W.Frag → Bool) (fn : List DefD) (K : PySem.W.Frag) : Prop := obsM ck fn K = valD fn
def obsMG (n : Nat) (ck : PySem.W.Frag → Bool) (fn : List DefD) (g : Addr → Option Obj) : AlD := obsM ck fn (frG g (asD g n))
def hookM (n : Nat) (ck : PySem.W.Frag → Bool) (fn : List DefD) : PySem.W.Hook where
  α := AlD
  obs := fun s => obsMG n ck fn s.heap.get?
  val := fun _ => valD fn
  says := fun _ h => ∃ K : PySem.W.Frag, K.In h ∧ SaysM ck fn K
  of := fun _ _ e => ⟨_, frG_in, e⟩
  keeps := fun _ _ _ ⟨K, hK, c⟩ k => ⟨K, PySem.W.Frag.In.keeps hK k, c⟩
theorem obsMG_eq {n : Nat} {ck : PySem.W.Frag → Bool} {fn : List DefD} {g : Addr → Option Obj} {s : Shared} (h : ∀ a, g a = s.heap.get? a) : obsMG n ck fn g = (hookM n ck fn).obs s := by
  have e : g = s.heap.get? := funext h
  rw [e]
  rfl
section
variable {ck : PySem.W.Frag → Bool} {fn : List DefD} {K : PySem.W.Frag}
theorem SaysM.both (c : SaysM ck fn K) : ck K = true ∧ (fn.all fun d => d.ok K) = true :=
  ba (show (ck K && fn.all fun d => d.ok K) = true from congrArg (fun z : AlD => z.1) c)
theorem SaysM.def_ (c : SaysM ck fn K) (i : Nat) {d : DefD} (h : fn[i]? = some d := by rfl) : ∃ fd, FunD K d.name d.qual d.params d.body d.scope (d.dvs K) (d.kws K) (fAd K d.at_) fd := by
  have e : fn.map (fun d => fnW K d.at_) = fn.map DefD.val := congrArg (fun z : AlD => z.2) c
  have e2 : (fn.map fun d => fnW K d.at_)[i]? = (fn.map DefD.val)[i]? := by rw [e]
  rw [List.getElem?_map, List.getElem?_map, h] at e2
  exact DefD.funD (Option.some.inj e2) (List.all_eq_true.mp c.both.2 d (List.mem_of_getElem? h))
end
/-- facts by a list -/
theorem fa_at {fa : List Fa} {K : PySem.W.Frag} (c : (fa.all fun f => f.ok K) = true) (i : Nat) {f : Fa} (h : fa[i]? = some f := by rfl) : f.ok K = true :=
  List.all_eq_true.mp c f (List.mem_of_getElem? h)
/-- a tuple of texts at the module's name x -/
theorem tup_at {K : PySem.W.Frag} {x : Str} {vs : List Dv} {ws : List V} (h : tupB K x vs = true) (e : vs.map (Dv.v K) = ws := by rfl) (H : Hp) : SqT K H (ga K x) ws := e ▸ tupB_ok h H
end LK

set_option Elab.async false
set_option linter.all false
set_option maxRecDepth 100000
set_option maxHeartbeats 4000000
/-! readings that name the heap behind a step and say of it what counts: what is laid anew, what is changed -/
namespace LK
open PySem PySem.Spec PyProof.Rows L2
/-- a new thing is laid, all else stays -/
def NewO (H : Hp) (o : HO) (Q : VK) : Prop := ∀ p H2, H p = none → Same H H2 → H2 p = some o → Q (.ref p) H2
theorem NewO.up {H : Hp} {o : HO} {Q : VK} (h : NewO H o Q) (p : Addr) (hp : H p = none) : Q (.ref p) (upd H p o) := h p _ hp (Same.new hp) upd_same
/-- the thing at l is another one now, all else stays -/
def ChO (H : Hp) (l : Addr) (o : HO) (Q : Hp → Prop) : Prop := ∀ H2, H2 l = some o → But l H H2 → Q H2
theorem ChO.up {H : Hp} {l : Addr} {o : HO} {Q : Hp → Prop} (h : ChO H l o Q) : Q (upd H l o) := h _ upd_same (But.refl l H).mut
theorem Same.but {H H1 H2 : Hp} {l : Addr} (s : Same H H1) (hl : H l = none) (b : But l H1 H2) : Same H H2 := fun c u e => b c u (ne_of_none e hl) (s c u e)
theorem But.ne {H H2 : Hp} {l p : Addr} {o : HO} (b : But l H H2) (e : H p = some o) (n : p ≠ l) : H2 p = some o := b p o n e
theorem But.free {H H2 : Hp} {l p : Addr} (b : But l H H2) (n : H2 p = none) (hl : ∃ o, H2 l = some o) : H p = none := by
  cases e : H p with
  | none => rfl
  | some u =>
    by_cases hp : p = l
    · obtain ⟨o, ho⟩ := hl
      rw [hp, ho] at n
      cases n
    · rw [b p u hp e] at n
      cases n
section
variable {X : Cx} {K : PySem.W.Frag} {e : Expr} {es : List Expr} {te te' : TE} {t : TA} {pos : Pos}
theorem PE.imp (h : PE X e te) (i : ∀ σ H Q, te' σ H Q → te σ H Q) : PE X e te' := ⟨fun pins s σ H Q I q => h.run pins s σ H Q I (i σ H Q q)⟩
/-- with any weaker wish -/
def upA (t : TA) : TA := fun σ H P => ∃ P' : List V → Hp → Prop, t σ H P' ∧ ∀ xs H1, P' xs H1 → P xs H1
theorem paUp (h : PA X es t) : PA X es (upA t) := ⟨fun pos pins s σ H Q I q => by
  obtain ⟨P', q, i⟩ := q
  exact thn (h.run pos pins s σ H P' I q) fun us s1 ⟨xs, H1, I1, r, z⟩ => ⟨xs, H1, I1, r, i xs H1 z⟩⟩
def upE (t : TE) : TE := fun σ H P => ∃ P' : VK, t σ H P' ∧ ∀ x H1, P' x H1 → P x H1
theorem peUp (h : PE X e te) : PE X e (upE te) := ⟨fun pins s σ H Q I q => by
  obtain ⟨P', q, i⟩ := q
  exact thn (h.run pins s σ H P' I q) fun us s1 ⟨xs, H1, I1, r, z⟩ => ⟨xs, H1, I1, r, i xs H1 z⟩⟩
/-! ### displays -/
def tLstS (t : TA) : TE := fun σ H Q => t σ H fun xs H1 => xs.length ≤ sizeLine ∧ NewO H1 (.lst xs) Q
def tTupS (t : TA) : TE := fun σ H Q => t σ H fun xs H1 => xs.length ≤ sizeLine ∧ NewO H1 (.tup xs) Q
theorem pe_lstS (h : PA X es t) : PE X (.List es pos) (tLstS t) := PE.imp (pe_lst (paUp h)) fun _ _ _ q => ⟨_, q, fun _ _ z => ⟨z.1, z.2.up⟩⟩
theorem pe_tupS {k : Nat} (h : PA X es t) : PE X (.Tuple es k pos) (tTupS t) := PE.imp (pe_tup (paUp h)) fun _ _ _ q => ⟨_, q, fun _ _ z => ⟨z.1, z.2.up⟩⟩
/-! ### plus -/
def rAddS (K : PySem.W.Frag) : R2 := fun x y H Q => match x, y with
  | .int i, .int j => Q (.int (i + j)) H
  | .str a, .str b => a.length + b.length ≤ sizeLine ∧ Q (.str (a ++ b)) H
  | .ref a, .ref b => (∃ xs ys, H a = some (.lst xs) ∧ H b = some (.lst ys) ∧ xs.length + ys.length ≤ sizeLine ∧ NewO H (.lst (xs ++ ys)) Q) ∨
      ∃ xs ys, SqT K H a xs ∧ SqT K H b ys ∧ xs.length + ys.length ≤ sizeLine ∧ ∀ p H2, Same H H2 → SqT K H2 p (xs ++ ys) → Q (.ref p) H2
  | _, _ => False
theorem sqT_new {H : Hp} {p : Addr} {xs : List V} : SqT K (upd H p (.tup xs)) p xs := .inl (.inl upd_same)
theorem OpR.imp {f : Value → Value → Sem Value} {r r' : R2} (h : OpR X f r) (i : ∀ x y H Q, r' x y H Q → r x y H Q) : OpR X f r' := fun pins s σ H x y v u Q I rx ry q => h pins s σ H x y v u Q I rx ry (i x y H Q q)
theorem oAddS (hK : X.K = K := by rfl) : OpR X (binaryOp .Add) (rAddS K) := OpR.imp (oAdd hK) fun x y H Q q => by
  cases x <;> cases y <;> try exact q
  rcases q with ⟨xs, ys, h1, h2, h3, h4⟩ | ⟨xs, ys, h1, h2, h3, h4⟩
  · exact .inl ⟨xs, ys, h1, h2, h3, h4.up⟩
  · refine .inr ⟨_, _, xs, ys, rfl, rfl, h1, h2, h3, fun e => ?_, fun _ e => ?_, fun _ _ p hp => ?_⟩
    · subst e
      exact h4 _ _ (L2.Same.refl H) h2
    · subst e
      exact h4 _ _ (L2.Same.refl H) (by rw [List.append_nil]; exact h1)
    · exact h4 p _ (Same.new hp) sqT_new
/-! ### pieces -/
def rSlS' (K : PySem.W.Frag) : V → Option Int → Option Int → Hp → VK → Prop := fun x lo hi H Q => (∃ a xs, x = .ref a ∧ SqL K H a xs ∧ NewO H (.lst (cutV xs lo hi)) Q) ∨ (∃ a xs, x = .ref a ∧ SqT K H a xs ∧ ∀ p H2, Same H H2 → SqT K H2 p (cutV xs lo hi) → Q (.ref p) H2) ∨ rSlS x lo hi H Q
theorem cutV_whole {xs : List V} {lo hi : Option Int} (h : HT.sIx xs.length 0 lo = 0 ∧ HT.sIx xs.length xs.length hi = xs.length) : cutV xs lo hi = xs := by
  unfold cutV
  rw [h.1, h.2, List.drop_zero, Nat.sub_zero, List.take_length]
theorem SlR.imp {r r' : V → Option Int → Option Int → Hp → VK → Prop} (h : SlR X r) (i : ∀ x lo hi H Q, r' x lo hi H Q → r x lo hi H Q) : SlR X r' := fun pins s σ H x v vl vu lo hi sl Q I rx a b c q => h pins s σ H x v vl vu lo hi sl Q I rx a b c (i x lo hi H Q q)
theorem slS (hK : X.K = K := by rfl) : SlR X (rSlS' K) := SlR.imp (slM hK) fun x lo hi H Q q => by
  rcases q with ⟨a, xs, rfl, h1, h2⟩ | ⟨a, xs, rfl, h1, h2⟩ | q
  · exact .inl ⟨a, xs, rfl, h1, h2.up⟩
  · refine .inr (.inl ⟨a, xs, rfl, h1, fun w => ?_, fun _ p hp => h2 p _ (Same.new hp) sqT_new⟩)
    refine h2 a H (L2.Same.refl H) ?_
    rw [cutV_whole w]
    exact h1
  · exact .inr (.inr q)
/-! ### tuple(..), list(..) -/
theorem CallR.imp {f : Value} {r r' : List V → Hp → VK → Prop} (h : CallR X f r) (i : ∀ xs H Q, r' xs H Q → r xs H Q) : CallR X f r' := fun pins s σ H xs us Q I r q => h pins s σ H xs us Q I r (i xs H Q q)
def rTupS (K : PySem.W.Frag) : List V → Hp → VK → Prop := fun xs H Q => ∃ p ys, xs = [.ref p] ∧ (SqL K H p ys ∨ SqT K H p ys) ∧ ∀ l H2, Same H H2 → SqT K H2 l ys → Q (.ref l) H2
theorem cTupS (hK : X.K = K := by rfl) : CallR X (.type "tuple") (rTupS K) := CallR.imp (cTup hK) fun xs H Q q => by
  obtain ⟨p, ys, rfl, h1 | h1, h2⟩ := q
  · exact ⟨p, ys, rfl, .inl ⟨h1, fun l hl => h2 l _ (Same.new hl) sqT_new⟩⟩
  · exact ⟨p, ys, rfl, .inr ⟨h1, h2 p H (L2.Same.refl H) h1⟩⟩
def rListS (K : PySem.W.Frag) : List V → Hp → VK → Prop := fun xs H Q => (∃ p ys, xs = [.ref p] ∧ (SqL K H p ys ∨ SqT K H p ys) ∧ NewO H (.lst ys) Q) ∨ ∃ z : Str, xs = [.str z] ∧ z.length ≤ sizeLine ∧ NewO H (.lst (z.cps.toList.map fun c => V.str ⟨#[c]⟩)) Q
theorem cListS (hc : X.calm = true) (hK : X.K = K := by rfl) : CallR X (.type "list") (rListS K) := CallR.imp (cList hc hK) fun xs H Q q => by
  rcases q with ⟨p, ys, rfl, h1, h2⟩ | ⟨z, rfl, h1, h2⟩
  · exact .inl ⟨p, ys, rfl, h1, h2.up⟩
  · exact .inr ⟨z, rfl, h1, h2.up⟩
/-! ### methods that change a list -/
theorem MtR.imp {id : String} {r r' : V → List V → Hp → VK → Prop} (h : MtR X id r) (i : ∀ x xs H Q, r' x xs H Q → r x xs H Q) : MtR X id r' := fun pins s σ H x xs v us Q I rx rv q => h pins s σ H x xs v us Q I rx rv (i x xs H Q q)
def rAppendS : V → List V → Hp → VK → Prop := fun x vs H Q => ∃ l xs y, x = .ref l ∧ vs = [y] ∧ H l = some (.lst xs) ∧ xs.length < sizeLine ∧ ChO H l (.lst (xs ++ [y])) (Q .non)
theorem mt_appendS : MtR X "list.append" rAppendS := MtR.imp (r := rAppend) mt_append fun x vs H Q q => by
  obtain ⟨l, xs, y, h1, h2, h3, h4, h5⟩ := q
  exact ⟨l, xs, y, h1, h2, h3, h4, h5.up⟩
def rExtendS : V → List V → Hp → VK → Prop := fun x vs H Q => ∃ l b xs zs, x = .ref l ∧ vs = [.ref b] ∧ H l = some (.lst xs) ∧ H b = some (.lst zs) ∧ xs.length + zs.length ≤ sizeLine ∧ ChO H l (.lst (xs ++ zs)) (Q .non)
theorem mt_extendS : MtR X "list.extend" rExtendS := MtR.imp (r := rExtend) mt_extend fun x vs H Q q => by
  obtain ⟨l, b, xs, zs, h1, h2, h3, h4, h5, h6⟩ := q
  exact ⟨l, b, xs, zs, h1, h2, h3, h4, h5, h6.up⟩
def rPopS : V → List V → Hp → VK → Prop := fun x vs H Q => ∃ l xs y, x = .ref l ∧ vs = [] ∧ H l = some (.lst xs) ∧ xs[xs.length - 1]? = some y ∧ ChO H l (.lst xs.dropLast) (Q y)
theorem mt_popS : MtR X "list.pop" rPopS := MtR.imp (r := rPop) mt_pop fun x vs H Q q => by
  obtain ⟨l, xs, y, h1, h2, h3, h4, h5⟩ := q
  exact ⟨l, xs, y, h1, h2, h3, h4, h5.up⟩
end
/-- a digit off the pile -/
def spTakeS : Sp := fun vs H Q _ => ∃ (p : Addr) (c m : Int), vs = [.ref p, .int m] ∧ H p = some (.lst [.int c]) ∧ (0 < m ∧ m < 1073741824) ∧ ChO H p (.lst [.int (c.fdiv m)]) (Q (.int (c.fmod m)))
theorem take_runS {K : PySem.W.Frag} {p : Addr} {c m : Int} {H : Hp} {D : Ends} (hp : H p = some (.lst [.int c])) (hm : 0 < m ∧ m < 1073741824) (h : ChO H p (.lst [.int (c.fdiv m)]) (D.rt (.int (c.fmod m)))) :
    t_take K D [some (.ref p), some (.int m), none] H := take_run hp hm h.up
end LK
namespace LK
open PySem PySem.Spec PyProof.Rows L2
/-- a pile of digits at p, laid behind H1 -/
structure Pile (H1 H : Hp) (p : Addr) (c : Int) : Prop where
  s : Same H1 H
  hp : H p = some (.lst [.int c])
  pn : H1 p = none
theorem Pile.new {H1 H2 : Hp} {p : Addr} {c : Int} (n : H1 p = none) (s : Same H1 H2) (k : H2 p = some (.lst [.int c])) : Pile H1 H2 p c := ⟨s, k, n⟩
theorem Pile.ch {H1 H H2 : Hp} {p : Addr} {c c' : Int} (t : Pile H1 H p c) (k : H2 p = some (.lst [.int c'])) (b : But p H H2) : Pile H1 H2 p c' := ⟨Same.but t.s t.pn b, k, t.pn⟩
theorem Pile.go {H1 H H2 : Hp} {p : Addr} {c : Int} (t : Pile H1 H p c) (s : Same H H2) : Pile H1 H2 p c := ⟨Same.trans t.s s, s _ _ t.hp, t.pn⟩
/-- the item at a place within bounds -/
theorem atI_mem {xs : List V} {i : Int} (h0 : 0 ≤ i) (h1 : i < xs.length) : ∃ v, atI xs i = some v ∧ v ∈ xs := by
  obtain ⟨k, rfl⟩ : ∃ k : Nat, i = k := ⟨i.toNat, by omega⟩
  have hk : k < xs.length := by omega
  exact ⟨xs[k], atI_nat (List.getElem?_eq_getElem hk), List.getElem_mem hk⟩
end LK
namespace LK
open PySem PySem.Spec PyProof.Rows L2
theorem But.seqT {K : PySem.W.Frag} {H H2 : Hp} {p a : Addr} {xs ys : List V} (b : But p H H2) (hp : H p = some (.lst ys)) (k : SqT K H a xs) : SqT K H2 a xs := by
  rcases k with (k | ⟨o, k⟩) | k
  · exact .inl (.inl (b a _ (fun e => by rw [e, hp] at k; cases k) k))
  · exact .inl (.inr ⟨o, b a _ (fun e => by rw [e, hp] at k; cases k) k⟩)
  · exact .inr k
end LK
theorem LK.mget {α β : Type} {f : α → β} {l : List α} {i : Nat} {v : β} (h : (l.map f)[i]? = some v) : ∃ x, l[i]? = some x ∧ v = f x := by
  rw [List.getElem?_map] at h
  obtain ⟨x, h1, h2⟩ := Option.map_eq_some_iff.mp h
  exact ⟨x, h1, h2.symm⟩

set_option Elab.async false
set_option linter.all false
set_option maxRecDepth 100000
set_option maxHeartbeats 4000000
/-! errors: what the head tells of their classes; the law's own look at them -/
namespace LK
open PySem PySem.Spec PyProof.Rows L2 He
/-! ### the head's facts -/
def ecB (K : PySem.W.Frag) (D : Addr) : Bool :=
  eqO (PySem.W.findIn K (.ref D) "__getattribute__") (some (some (.builtin "BaseException.__getattribute__"))) && (eqO (PySem.W.findIn K (.ref D) "__getattr__") (some none) && (decide (PySem.W.subIn K (.ref D) (.type "BaseException") = some true) && (PySem.W.hasDictIn K D &&
    (eqO (PySem.W.findIn K (.ref D) "__class__") (some (some (.builtin "object.__class__"))) && (eqO (PySem.W.specialIn K (.builtin "object.__class__") "__get__") (some (some (.builtin "getset_descriptor.__get__"))) &&
      (decide (PySem.W.takesIn K (.builtin "object.__class__") = some true) && decide (PySem.W.mroIn K D (.type "object") = some true)))))))
theorem ecB_ok {K : PySem.W.Frag} {D : Addr} (h : ecB K D = true) : ExcC K D := by
  obtain ⟨h1, h⟩ := ba h
  obtain ⟨h2, h⟩ := ba h
  obtain ⟨h3, h⟩ := ba h
  obtain ⟨h4, h⟩ := ba h
  obtain ⟨h5, h⟩ := ba h
  obtain ⟨h6, h⟩ := ba h
  obtain ⟨h7, h8⟩ := ba h
  exact ⟨eqO_ok h1, eqO_ok h2, of_decide_eq_true h3, h4, eqO_ok h5, eqO_ok h6, of_decide_eq_true h7, of_decide_eq_true h8⟩
theorem ExcC.xf {K : PySem.W.Frag} {D : Addr} (c : ExcC K D) : XfC K D := ⟨c.hg, c.hk, c.hs, c.hd⟩
def ocB (K : PySem.W.Frag) (C : Addr) : Bool := match K.lookup C with
  | some ⟨.type t, _, .cls cd, sl⟩ => (match cd.mro, sl.toList with
    | .ref C' :: bm, [_, _, _, _, some (.builtin n), _] => decide (t = "type") && (decide (C' = C) && (decide (n = "ValueError.__new__") && (!cd.hasDel && (cd.hasDict && PySem.HandSPX.refsVE bm))))
    | _, _ => false)
  | _ => false
theorem ocB_ok {K : PySem.W.Frag} {C : Addr} (h : ocB K C = true) : ∃ nm q N bs bm sn sub ab col dd k0 k1 k2 k3 k5, K.lookup C = some (excClassObj nm q C N bs bm true sn sub ab col dd k0 k1 k2 k3 k5 "ValueError.__new__") ∧ PySem.HandSPX.refsVE bm = true := by
  unfold ocB at h
  split at h
  · rename_i t dd cd sl ho
    split at h
    · rename_i C' bm k0 k1 k2 k3 n k5 hm hs
      obtain ⟨h1, h⟩ := ba h
      obtain ⟨h2, h⟩ := ba h
      obtain ⟨h3, h⟩ := ba h
      obtain ⟨h4, h⟩ := ba h
      obtain ⟨h5, h6⟩ := ba h
      have e1 := of_decide_eq_true h1
      have e2 := of_decide_eq_true h2
      have e3 := of_decide_eq_true h3
      subst e1 e2 e3
      obtain ⟨nm, bs, mro, ns, qn, hd, sn, sub, ab, col, del⟩ := cd
      have e4 : del = false := by simpa using h4
      have e5 : hd = true := h5
      have e6 : mro = .ref C' :: bm := hm
      subst e4 e5 e6
      have e7 : sl = #[k0, k1, k2, k3, some (.builtin "ValueError.__new__"), k5] := by
        obtain ⟨l⟩ := sl
        simp only at hs
        rw [hs]
      subst e7
      exact ⟨nm, qn, ns, bs, bm, sn, sub, ab, col, dd, k0, k1, k2, k3, k5, ho, h6⟩
    · cases h
  · cases h
def oexB (K : PySem.W.Frag) (C : Addr) : Bool := ocB K C && (eqO (PySem.W.findIn K (.ref C) "__setattr__") (some (some (.builtin "object.__setattr__"))) && (decide (PySem.W.subIn K (.ref C) (.type "BaseException") = some true) &&
  (decide (PySem.W.typeIn K (.ref C) = some (.type "type")) && PySem.W.keepIn K (.ref C))))
theorem oexB_ok {K : PySem.W.Frag} {C : Addr} (h : oexB K C = true) : OexC K C := by
  obtain ⟨h1, h⟩ := ba h
  obtain ⟨h2, h⟩ := ba h
  obtain ⟨h3, h⟩ := ba h
  obtain ⟨h4, h5⟩ := ba h
  exact ⟨ocB_ok h1, eqO_ok h2, of_decide_eq_true h3, of_decide_eq_true h4, h5⟩
def icB (K : PySem.W.Frag) (D : Addr) : Bool := PySem.W.readsIn K D (.type "type") && (eqO (PySem.W.specialIn K (.ref D) "__getattribute__") (some (some (.builtin "type.__getattribute__"))) &&
  (match PySem.W.findCls K (.ref D) (.type "type") "__init__" with
    | some (.val v) => decide (v = .builtin "ValueError.__init__")
    | _ => false))
theorem icB_ok {K : PySem.W.Frag} {D : Addr} (h : icB K D = true) : InitC K D := by
  obtain ⟨h1, h⟩ := ba h
  obtain ⟨h2, h3⟩ := ba h
  refine ⟨h1, eqO_ok h2, ?_⟩
  split at h3
  · rename_i v e
    rw [e, of_decide_eq_true h3]
  · cases h3
/-- the __init__ of an own class: where it is found, a function -/
def inB (K : PySem.W.Frag) (x : Str) : Bool := eqO (PySem.W.findIn K (.ref (ga K x)) "__init__") (some (some (.ref (ma K (ga K x) "__init__")))) && decide (PySem.W.typeIn K (.ref (ma K (ga K x) "__init__")) = some (.type "function"))
theorem inB_ok {K : PySem.W.Frag} {x : Str} (h : inB K x = true) : PySem.W.findIn K (.ref (ga K x)) "__init__" = some (some (.ref (ma K (ga K x) "__init__"))) ∧ PySem.W.typeIn K (.ref (ma K (ga K x) "__init__")) = some (.type "function") := by
  obtain ⟨h1, h2⟩ := ba h
  exact ⟨eqO_ok h1, of_decide_eq_true h2⟩
/-- classes ds, each straight under LeanError, none under another -/
structure Kinds (K : PySem.W.Frag) (ds : List Str) : Prop where
  ec : ∀ d ∈ ds, ExcC K (ga K d)
  own : ∀ d ∈ ds, ∀ c ∈ ds, PySem.W.kitOne K (.ref (ga K d)) (.ref (ga K c)) = some (decide (d = c))
  top : ∀ d ∈ ds, PySem.W.kitOne K (.ref (ga K d)) (.ref (ga K "LeanError")) = some true
  ve : ∀ d ∈ ds, PySem.W.kitOne K (.ref (ga K d)) (.type "ValueError") = some true
  lo : ∀ d ∈ ds, PySem.W.kitOne K (.ref (ga K d)) (.type "LookupError") = some false
  ar : ∀ d ∈ ds, PySem.W.kitOne K (.ref (ga K d)) (.type "ArithmeticError") = some false
def kindsB (K : PySem.W.Frag) (ds : List Str) : Bool := ds.all fun d => ecB K (ga K d) && ((ds.all fun c => decide (PySem.W.kitOne K (.ref (ga K d)) (.ref (ga K c)) = some (decide (d = c)))) &&
  (decide (PySem.W.kitOne K (.ref (ga K d)) (.ref (ga K "LeanError")) = some true) && (decide (PySem.W.kitOne K (.ref (ga K d)) (.type "ValueError") = some true) &&
    (decide (PySem.W.kitOne K (.ref (ga K d)) (.type "LookupError") = some false) && decide (PySem.W.kitOne K (.ref (ga K d)) (.type "ArithmeticError") = some false)))))
theorem kindsB_ok {K : PySem.W.Frag} {ds : List Str} (h : kindsB K ds = true) : Kinds K ds := by
  have z := List.all_eq_true.mp h
  have y : ∀ d ∈ ds, ExcC K (ga K d) ∧ (∀ c ∈ ds, PySem.W.kitOne K (.ref (ga K d)) (.ref (ga K c)) = some (decide (d = c))) ∧ PySem.W.kitOne K (.ref (ga K d)) (.ref (ga K "LeanError")) = some true ∧ PySem.W.kitOne K (.ref (ga K d)) (.type "ValueError") = some true ∧
      PySem.W.kitOne K (.ref (ga K d)) (.type "LookupError") = some false ∧ PySem.W.kitOne K (.ref (ga K d)) (.type "ArithmeticError") = some false := fun d hd => by
    obtain ⟨h1, h⟩ := ba (z d hd)
    obtain ⟨h2, h⟩ := ba h
    obtain ⟨h3, h⟩ := ba h
    obtain ⟨h4, h⟩ := ba h
    obtain ⟨h5, h6⟩ := ba h
    exact ⟨ecB_ok h1, fun c hc => of_decide_eq_true (List.all_eq_true.mp h2 c hc), of_decide_eq_true h3, of_decide_eq_true h4, of_decide_eq_true h5, of_decide_eq_true h6⟩
  exact ⟨fun d hd => (y d hd).1, fun d hd => (y d hd).2.1, fun d hd => (y d hd).2.2.1, fun d hd => (y d hd).2.2.2.1, fun d hd => (y d hd).2.2.2.2.1, fun d hd => (y d hd).2.2.2.2.2⟩
/-! ### calls with keywords and defaults, no keyword-only parameters -/
theorem kbn1 {K : PySem.W.Frag} {x qual : Str} {params : Arguments} {body : List Stmt} {scope : Scope} {dvs : List V} {f : Addr} {fd : FuncData} {ps : List Str} (F : FunD K x qual params body scope dvs [] f fd) (n : Nat) (ks : List Str) (g : {α : Type} → List α → List α → List α → List α) (hd : dvs ≠ [])
    (hrel : ∀ {vs ds zs : List V} {us its ws : List Value}, Vals vs us → Vals ds its → Vals zs ws → Vals (g vs ds zs) (g us its ws))
    (h : ∀ (T : Addr) (kV doc pm : Value) (an : Option Addr) (cdv ct : Value) (us its ws : List Value), us.length = n → its.length = dvs.length → ws.length = ks.length →
      ∃ k, bindArgs (PySem.W.fnOf x qual params body scope (.ref T) kV doc pm an cdv ct) ⟨us, ks.zip ws⟩ = seqItems? (.ref T) >>= k ∧ k (some its.toArray) = pure (ps.zip (g us its ws))) :
    ∃ gv : List Value → List Value → List Value, KBn K fd ps n ks gv (fun vs zs => g vs dvs zs) := by
  obtain ⟨oc, od, dV, kV, doc, pm, an, cdv, ct, osl, rfl, lk, hcd, hD, hK⟩ := F.ex
  rcases hD with ⟨e, _⟩ | ⟨_, T, o, its, m, rfl, lT, oT, rT⟩
  · exact absurd e hd
  · refine ⟨fun us ws => g us its ws, ⟨fun s us ws X l1 l2 => ?_, fun r1 r2 => hrel r1 rT r2⟩⟩
    obtain ⟨k, e1, e2⟩ := h T kV doc pm an cdv ct us its ws l1 rT.length.symm l2
    refine BindsTo.of_looks fun M => ?_
    rw [e1]
    exact looks_items X lT oT (.of_pure e2)
/-! ### an __init__ that hands its values on to fields -/
def spInit (C : Addr) (names : List Str) : Sp := fun vs H Q _ => ∃ (a : Addr) (ws : List V), vs = .ref a :: ws ∧ ws.length = names.length ∧ H a = some (exo a C none) ∧
  ∀ dx H', H dx = none → dx ≠ a → H' a = some (exo a C (some dx)) → H' dx = some (exd dx (names.zip ws).reverse) → (∀ b, b ≠ a → b ≠ dx → H' b = H b) → Q .non H'
/-- an error with its fields -/
structure ErrAt (H : Hp) (a C : Addr) (fs : List (Str × V)) : Prop where
  ex : ∃ (d : Addr) (fr : Bool), H a = some (exK a (.ref C) (some d) fr) ∧ H d = some (.xd fs)
theorem ErrAt.same {H H' : Hp} {a C : Addr} {fs : List (Str × V)} (k : ErrAt H a C fs) (e : Same H H') : ErrAt H' a C fs := by
  obtain ⟨d, fr, e1, e2⟩ := k.ex
  exact ⟨d, fr, e _ _ e1, e _ _ e2⟩
/-- an error, whatever its dict -/
structure Err (H : Hp) (a C : Addr) : Prop where
  ex : ∃ (d : Option Addr) (fr : Bool), H a = some (exK a (.ref C) d fr) ∧ DictAt H d
theorem Err.same {H H' : Hp} {a C : Addr} (k : Err H a C) (e : Same H H') : Err H' a C := by
  obtain ⟨d, fr, e1, e2⟩ := k.ex
  exact ⟨d, fr, e _ _ e1, e2.same e⟩
theorem ErrAt.err {H : Hp} {a C : Addr} {fs : List (Str × V)} (k : ErrAt H a C fs) : Err H a C := by
  obtain ⟨d, fr, e1, e2⟩ := k.ex
  exact ⟨some d, fr, e1, .inr ⟨d, fs, rfl, e2⟩⟩
theorem mkO_read {C : Addr} {n : Nat} {ks names : List Str} {gV : List V → List V → List V} {xs zs ws : List V} {H : Hp} {Q : VK} (hn : xs.length = n) (hz : zs.length = ks.length) (hg : ∀ a, gV (.ref a :: xs) zs = .ref a :: ws) (hw : ws.length = names.length)
    (h : ∀ a H', H a = none → Same H H' → ErrAt H' a C (names.zip ws).reverse → Q (.ref a) H') : rMkO C n ks (spInit C names) gV xs zs H Q := by
  refine ⟨hn, hz, fun a ha => ⟨a, ws, hg a, hw, upd_same, fun dx H' hdx nda e1 e2 ho => ⟨rfl, dx, _, e1, e2, h a _ ha (fun b u hb => ?_) ⟨dx, true, ?_, ?_⟩⟩⟩⟩
  · have n1 : b ≠ a := ne_of_none hb ha
    have hdx' : H dx = none := by rw [← upd_ne (H := H) (o := exo a C none) nda]; exact hdx
    have n2 : b ≠ dx := ne_of_none hb hdx'
    rw [upd_ne n1, upd_ne n2, ho b n1 n2, upd_ne n1]
    exact hb
  · rw [upd_same]
  · rw [upd_ne nda, upd_same]
theorem mkN_read {C : Addr} {xs : List V} {H : Hp} {Q : VK} (hl : xs.length ≤ 1000) (h : ∀ a H', H a = none → Same H H' → Err H' a C → Q (.ref a) H') : rMkN C xs [] H Q :=
  ⟨rfl, hl, fun a ha => h a _ ha (Same.new ha) ⟨none, true, upd_same, .inl rfl⟩⟩
/-- one isinstance of an error -/
theorem isx_read {K : PySem.W.Frag} {a C : Addr} {c : V} {cv : Value} {b : Bool} {H : Hp} {Q : VK} (k : Err H a C) (T : ExcC K C) (hc : ClsV c cv) (e : PySem.W.kitOne K (.ref C) cv = some b) (h : Q (.bl b) H) : rIsx K [.ref a, c] H Q := by
  obtain ⟨d, fr, e1, e2⟩ := k.ex
  exact .inr ⟨a, C, c, cv, d, fr, b, rfl, T, e1, e2, hc, e, h⟩
/-- two things of the same content -/
theorem neD {K : PySem.W.Frag} {x y : V} {d : PyData} {H : Hp} {Q : VK} (dx : Dp K H x d) (dy : Dp K H y d) (sh : PySem.SeqAt.shaped d = true) (h : Q (.bl false) H) : rNeM K x y H Q := by
  refine .inr ⟨d, d, dx, dy, sh, sh, ?_⟩
  rw [PySem.SeqAt.eqv_refl _ (PySem.SeqAt.canLay_of_shaped sh)]
  exact h
theorem eqD {K : PySem.W.Frag} {x y : V} {d : PyData} {H : Hp} {Q : VK} (dx : Dp K H x d) (dy : Dp K H y d) (sh : PySem.SeqAt.shaped d = true) (h : Q (.bl true) H) : rEqM K x y H Q := by
  refine .inr ⟨d, d, dx, dy, sh, sh, ?_⟩
  rw [PySem.SeqAt.eqv_refl _ (PySem.SeqAt.canLay_of_shaped sh)]
  exact h
/-- an empty tuple of the written part -/
def etB (K : PySem.W.Frag) (a : Addr) : Bool := match K.lookup a with
  | some ⟨.type c, _, .seq its _, _⟩ => decide (c = "tuple") && decide (its.toList = [])
  | _ => false
theorem etB_ok {K : PySem.W.Frag} {a : Addr} (h : etB K a = true) (H : Hp) : SqT K H a [] := by
  unfold etB at h
  split at h
  · rename_i c dd its n sl e
    obtain ⟨h1, h2⟩ := ba h
    have e1 : its.toList = [] := of_decide_eq_true h2
    have e2 : its.size = 0 := by rw [← Array.length_toList, e1] <;> rfl
    exact .inr ⟨_, its, n, e, congrArg Value.type (of_decide_eq_true h1), rfl, by rw [e2]; exact Nat.zero_le _, by rw [e1]; exact .nil⟩
  · cases h
/-- targets in a comprehension's block -/
theorem pgTup {X : Cx} {K : PySem.W.Frag} {es : List Expr} {k : Nat} {t : TGs} {n : Nat} {pos : Pos} (hc : X.calm = true) (h : PGs X es t) (hK : X.K = K := by rfl)
    (hn : (assignEach es X.env).length = n := by rfl) (hst : (assignEach es X.env).findIdx? (·.1) = none := by rfl) : PG X (.Tuple es k pos) (gTup K n t) := hK ▸ pg_tup hc h hn hst
/-- the statics too -/
def obsSG (n : Nat) (ck : PySem.W.Frag → Bool) (fn : List DefD) (g : Addr → Option Obj) : AlD := obsM ck fn (frG g (cStatics :: asD g n))
def hookS (n : Nat) (ck : PySem.W.Frag → Bool) (fn : List DefD) : PySem.W.Hook where
  α := AlD
  obs := fun s => obsSG n ck fn s.heap.get?
  val := fun _ => valD fn
  says := fun _ h => ∃ K : PySem.W.Frag, K.In h ∧ SaysM ck fn K
  of := fun _ _ e => ⟨_, frG_in, e⟩
  keeps := fun _ _ _ ⟨K, hK, c⟩ k => ⟨K, PySem.W.Frag.In.keeps hK k, c⟩
theorem obsSG_eq {n : Nat} {ck : PySem.W.Frag → Bool} {fn : List DefD} {g : Addr → Option Obj} {s : Shared} (h : ∀ a, g a = s.heap.get? a) : obsSG n ck fn g = (hookS n ck fn).obs s := by
  have e : g = s.heap.get? := funext h
  rw [e]
  rfl
end LK
namespace LK
open PySem PySem.Spec PyProof.Rows L2
theorem xf_at {K : PySem.W.Frag} {a C : Addr} {fs : List (Str × V)} {f : Str} {v : V} {H : Hp} {Q : VK} (k : ErrAt H a C fs) (c : ExcC K C) (no : PySem.W.findIn K (.ref C) f = some none) (l : fs.lookup f = some v) (h : Q v H) : rXfK K f (.ref a) H Q := by
  obtain ⟨d, fr, e1, e2⟩ := k.ex
  exact ⟨a, C, d, fr, fs, v, rfl, ExcC.xf c, no, e1, e2, l, h⟩
end LK

set_option Elab.async false
set_option linter.all false
set_option maxRecDepth 100000
set_option maxHeartbeats 4000000
namespace P14
open PySem L2 LK
def top (i : Nat) : Stmt := PySem.Challenge.pw_leanscript_k14_refusals.main.body.getD i (.Pass ⟨0, 0, 0, 0⟩)
abbrev s_NoText_init : Stmt := inClass (top 2) 0
abbrev N_NoText_init : List Str := ["self", "at"]
theorem sc_NoText_init : FnScope N_NoText_init ["self", "at"] (defScope s_NoText_init) := ⟨rfl, rfl, rfl, by decide +kernel, rfl, by decide +kernel, by decide +kernel⟩

abbrev s_NoTree_init : Stmt := inClass (top 3) 0
abbrev N_NoTree_init : List Str := ["self", "path", "why"]
theorem sc_NoTree_init : FnScope N_NoTree_init ["self", "path", "why"] (defScope s_NoTree_init) := ⟨rfl, rfl, rfl, by decide +kernel, rfl, by decide +kernel, by decide +kernel⟩

abbrev s_NoNaming_init : Stmt := inClass (top 5) 0
abbrev N_NoNaming_init : List Str := ["self", "one", "other"]
theorem sc_NoNaming_init : FnScope N_NoNaming_init ["self", "one", "other"] (defScope s_NoNaming_init) := ⟨rfl, rfl, rfl, by decide +kernel, rfl, by decide +kernel, by decide +kernel⟩

abbrev s__law_mixed : Stmt := top 13
abbrev N__law_mixed : List Str := ["cell", "k", "mix"]
theorem sc__law_mixed : FnScope N__law_mixed ["cell", "k"] (defScope s__law_mixed) := ⟨rfl, rfl, rfl, by decide +kernel, rfl, by decide +kernel, by decide +kernel⟩

abbrev s__law_cell : Stmt := top 14
abbrev N__law_cell : List Str := ["script", "k", "cell", "found", "j"]
theorem sc__law_cell : FnScope N__law_cell ["script", "k"] (defScope s__law_cell) := ⟨rfl, rfl, rfl, by decide +kernel, rfl, by decide +kernel, by decide +kernel⟩

abbrev s__law_take : Stmt := top 15
abbrev N__law_take : List Str := ["pile", "size", "digit"]
theorem sc__law_take : FnScope N__law_take ["pile", "size"] (defScope s__law_take) := ⟨rfl, rfl, rfl, by decide +kernel, rfl, by decide +kernel, by decide +kernel⟩

abbrev s__law_only : Stmt := top 16
abbrev N__law_only : List Str := ["caught", "name", "names", "some", "first", "here"]
theorem sc__law_only : FnScope N__law_only ["caught", "name"] (defScope s__law_only) := ⟨rfl, rfl, rfl, by decide +kernel, rfl, by decide +kernel, by decide +kernel⟩

abbrev s__law_bare : Stmt := top 17
abbrev N__law_bare : List Str := ["some"]
theorem sc__law_bare : FnScope N__law_bare [] (defScope s__law_bare) := ⟨rfl, rfl, rfl, by decide +kernel, rfl, by decide +kernel, by decide +kernel⟩

abbrev s__law_names : Stmt := top 18
abbrev N__law_names : List Str := ["names"]
theorem sc__law_names : FnScope N__law_names [] (defScope s__law_names) := ⟨rfl, rfl, rfl, by decide +kernel, rfl, by decide +kernel, by decide +kernel⟩

abbrev s_law : Stmt := top 19
abbrev N_law : List Str := ["script", "word", "k", "error", "name", "text", "tree", "naming", "made", "names", "pile", "where", "spot", "what", "first", "second", "turn"]
theorem sc_law : FnScope N_law ["script"] (defScope s_law) := ⟨rfl, rfl, rfl, by decide +kernel, rfl, by decide +kernel, by decide +kernel⟩

structure Env (K : PySem.W.Frag) (mg : Str → Option Value) where
  fd_NoText_init : FuncData
  F_NoText_init : FunD K "__init__" "NoText.__init__" (defArgs s_NoText_init) (defBody s_NoText_init) (defScope s_NoText_init) [.int 0] [] (He.ma K (He.ga K "NoText") "__init__") fd_NoText_init
  fd_NoTree_init : FuncData
  F_NoTree_init : FunD K "__init__" "NoTree.__init__" (defArgs s_NoTree_init) (defBody s_NoTree_init) (defScope s_NoTree_init) [.ref (He.dflAt ("NoTree", some "__init__") 0 K), .str ""] [] (He.ma K (He.ga K "NoTree") "__init__") fd_NoTree_init
  fd_NoNaming_init : FuncData
  F_NoNaming_init : FunD K "__init__" "NoNaming.__init__" (defArgs s_NoNaming_init) (defBody s_NoNaming_init) (defScope s_NoNaming_init) [.non, .non] [] (He.ma K (He.ga K "NoNaming") "__init__") fd_NoNaming_init
  fd__law_mixed : FuncData
  F__law_mixed : FunD K "_law_mixed" "_law_mixed" (defArgs s__law_mixed) (defBody s__law_mixed) (defScope s__law_mixed) [] [] (He.ga K "_law_mixed") fd__law_mixed
  m__law_mixed : mg "_law_mixed" = some (.ref (He.ga K "_law_mixed"))
  b__law_mixed : Binds K fd__law_mixed ["cell", "k"] []
  fd__law_cell : FuncData
  F__law_cell : FunD K "_law_cell" "_law_cell" (defArgs s__law_cell) (defBody s__law_cell) (defScope s__law_cell) [] [] (He.ga K "_law_cell") fd__law_cell
  m__law_cell : mg "_law_cell" = some (.ref (He.ga K "_law_cell"))
  b__law_cell : Binds K fd__law_cell ["script", "k"] []
  fd__law_take : FuncData
  F__law_take : FunD K "_law_take" "_law_take" (defArgs s__law_take) (defBody s__law_take) (defScope s__law_take) [] [] (He.ga K "_law_take") fd__law_take
  m__law_take : mg "_law_take" = some (.ref (He.ga K "_law_take"))
  b__law_take : Binds K fd__law_take ["pile", "size"] []
  fd__law_only : FuncData
  F__law_only : FunD K "_law_only" "_law_only" (defArgs s__law_only) (defBody s__law_only) (defScope s__law_only) [] [] (He.ga K "_law_only") fd__law_only
  m__law_only : mg "_law_only" = some (.ref (He.ga K "_law_only"))
  b__law_only : Binds K fd__law_only ["caught", "name"] []
  fd__law_bare : FuncData
  F__law_bare : FunD K "_law_bare" "_law_bare" (defArgs s__law_bare) (defBody s__law_bare) (defScope s__law_bare) [] [] (He.ga K "_law_bare") fd__law_bare
  m__law_bare : mg "_law_bare" = some (.ref (He.ga K "_law_bare"))
  b__law_bare : Binds K fd__law_bare [] []
  fd__law_names : FuncData
  F__law_names : FunD K "_law_names" "_law_names" (defArgs s__law_names) (defBody s__law_names) (defScope s__law_names) [] [] (He.ga K "_law_names") fd__law_names
  m__law_names : mg "_law_names" = some (.ref (He.ga K "_law_names"))
  b__law_names : Binds K fd__law_names [] []
  fd_law : FuncData
  F_law : FunD K "law" "law" (defArgs s_law) (defBody s_law) (defScope s_law) [] [] (He.ga K "law") fd_law
  m_law : mg "law" = some (.ref (He.ga K "law"))
  b_law : Binds K fd_law ["script"] []
  m_LeanError : mg "LeanError" = some (.ref (He.ga K "LeanError"))
  m_NoCount : mg "NoCount" = some (.ref (He.ga K "NoCount"))
  m_NoLetters : mg "NoLetters" = some (.ref (He.ga K "NoLetters"))
  m_NoLine : mg "NoLine" = some (.ref (He.ga K "NoLine"))
  m_NoMap : mg "NoMap" = some (.ref (He.ga K "NoMap"))
  m_NoNaming : mg "NoNaming" = some (.ref (He.ga K "NoNaming"))
  m_NoPath : mg "NoPath" = some (.ref (He.ga K "NoPath"))
  m_NoText : mg "NoText" = some (.ref (He.ga K "NoText"))
  m_NoTree : mg "NoTree" = some (.ref (He.ga K "NoTree"))
  m_NoTurning : mg "NoTurning" = some (.ref (He.ga K "NoTurning"))
  m_TooMany : mg "TooMany" = some (.ref (He.ga K "TooMany"))
  k_NoCount : PySem.W.keepIn K (.ref (He.ga K "NoCount")) = true
  x_NoCount : PySem.W.excIn K (He.ga K "NoCount") He.veBase "ValueError.__new__" = true
  k_NoLetters : PySem.W.keepIn K (.ref (He.ga K "NoLetters")) = true
  x_NoLetters : PySem.W.excIn K (He.ga K "NoLetters") He.veBase "ValueError.__new__" = true
  k_NoLine : PySem.W.keepIn K (.ref (He.ga K "NoLine")) = true
  x_NoLine : PySem.W.excIn K (He.ga K "NoLine") He.veBase "ValueError.__new__" = true
  k_NoMap : PySem.W.keepIn K (.ref (He.ga K "NoMap")) = true
  x_NoMap : PySem.W.excIn K (He.ga K "NoMap") He.veBase "ValueError.__new__" = true
  k_NoNaming : PySem.W.keepIn K (.ref (He.ga K "NoNaming")) = true
  o_NoNaming : OexC K (He.ga K "NoNaming")
  i_NoNaming : PySem.W.findIn K (.ref (He.ga K "NoNaming")) "__init__" = some (some (.ref (He.ma K (He.ga K "NoNaming") "__init__")))
  t_NoNaming : PySem.W.typeIn K (.ref (He.ma K (He.ga K "NoNaming") "__init__")) = some (.type "function")
  na_NoNaming_one : PySem.W.findIn K (.ref (He.ga K "NoNaming")) "one" = some none
  na_NoNaming_other : PySem.W.findIn K (.ref (He.ga K "NoNaming")) "other" = some none
  kb_NoNaming_0 : ∃ g : List Value → List Value → List Value, KBn K fd_NoNaming_init ["self", "one", "other"] 1 [] g (fun vs zs => (vs.drop 0).take 1 ++ (([.non, .non].drop 0).take 1 ++ (([.non, .non].drop 1).take 1)))
  kb_NoNaming_0_other_one : ∃ g : List Value → List Value → List Value, KBn K fd_NoNaming_init ["self", "one", "other"] 1 ["other", "one"] g (fun vs zs => (vs.drop 0).take 1 ++ ((zs.drop 1).take 1 ++ ((zs.drop 0).take 1)))
  kb_NoNaming_1 : ∃ g : List Value → List Value → List Value, KBn K fd_NoNaming_init ["self", "one", "other"] 2 [] g (fun vs zs => (vs.drop 0).take 1 ++ ((vs.drop 1).take 1 ++ (([.non, .non].drop 1).take 1)))
  kb_NoNaming_2 : ∃ g : List Value → List Value → List Value, KBn K fd_NoNaming_init ["self", "one", "other"] 3 [] g (fun vs zs => (vs.drop 0).take 1 ++ ((vs.drop 1).take 1 ++ ((vs.drop 2).take 1)))
  k_NoPath : PySem.W.keepIn K (.ref (He.ga K "NoPath")) = true
  x_NoPath : PySem.W.excIn K (He.ga K "NoPath") He.veBase "ValueError.__new__" = true
  k_NoText : PySem.W.keepIn K (.ref (He.ga K "NoText")) = true
  o_NoText : OexC K (He.ga K "NoText")
  i_NoText : PySem.W.findIn K (.ref (He.ga K "NoText")) "__init__" = some (some (.ref (He.ma K (He.ga K "NoText") "__init__")))
  t_NoText : PySem.W.typeIn K (.ref (He.ma K (He.ga K "NoText") "__init__")) = some (.type "function")
  na_NoText_at : PySem.W.findIn K (.ref (He.ga K "NoText")) "at" = some none
  kb_NoText_0 : ∃ g : List Value → List Value → List Value, KBn K fd_NoText_init ["self", "at"] 1 [] g (fun vs zs => (vs.drop 0).take 1 ++ (([.int 0].drop 0).take 1))
  kb_NoText_0_at : ∃ g : List Value → List Value → List Value, KBn K fd_NoText_init ["self", "at"] 1 ["at"] g (fun vs zs => (vs.drop 0).take 1 ++ ((zs.drop 0).take 1))
  kb_NoText_1 : ∃ g : List Value → List Value → List Value, KBn K fd_NoText_init ["self", "at"] 2 [] g (fun vs zs => (vs.drop 0).take 1 ++ ((vs.drop 1).take 1))
  k_NoTree : PySem.W.keepIn K (.ref (He.ga K "NoTree")) = true
  o_NoTree : OexC K (He.ga K "NoTree")
  i_NoTree : PySem.W.findIn K (.ref (He.ga K "NoTree")) "__init__" = some (some (.ref (He.ma K (He.ga K "NoTree") "__init__")))
  t_NoTree : PySem.W.typeIn K (.ref (He.ma K (He.ga K "NoTree") "__init__")) = some (.type "function")
  na_NoTree_path : PySem.W.findIn K (.ref (He.ga K "NoTree")) "path" = some none
  na_NoTree_why : PySem.W.findIn K (.ref (He.ga K "NoTree")) "why" = some none
  et_NoTree_0 : ∀ H, SqT K H (He.dflAt ("NoTree", some "__init__") 0 K) []
  kb_NoTree_0 : ∃ g : List Value → List Value → List Value, KBn K fd_NoTree_init ["self", "path", "why"] 1 [] g (fun vs zs => (vs.drop 0).take 1 ++ (([.ref (He.dflAt ("NoTree", some "__init__") 0 K), .str ""].drop 0).take 1 ++ (([.ref (He.dflAt ("NoTree", some "__init__") 0 K), .str ""].drop 1).take 1)))
  kb_NoTree_0_why : ∃ g : List Value → List Value → List Value, KBn K fd_NoTree_init ["self", "path", "why"] 1 ["why"] g (fun vs zs => (vs.drop 0).take 1 ++ (([.ref (He.dflAt ("NoTree", some "__init__") 0 K), .str ""].drop 0).take 1 ++ ((zs.drop 0).take 1)))
  kb_NoTree_0_why_path : ∃ g : List Value → List Value → List Value, KBn K fd_NoTree_init ["self", "path", "why"] 1 ["why", "path"] g (fun vs zs => (vs.drop 0).take 1 ++ ((zs.drop 1).take 1 ++ ((zs.drop 0).take 1)))
  kb_NoTree_1 : ∃ g : List Value → List Value → List Value, KBn K fd_NoTree_init ["self", "path", "why"] 2 [] g (fun vs zs => (vs.drop 0).take 1 ++ ((vs.drop 1).take 1 ++ (([.ref (He.dflAt ("NoTree", some "__init__") 0 K), .str ""].drop 1).take 1)))
  kb_NoTree_1_why : ∃ g : List Value → List Value → List Value, KBn K fd_NoTree_init ["self", "path", "why"] 2 ["why"] g (fun vs zs => (vs.drop 0).take 1 ++ ((vs.drop 1).take 1 ++ ((zs.drop 0).take 1)))
  kb_NoTree_2 : ∃ g : List Value → List Value → List Value, KBn K fd_NoTree_init ["self", "path", "why"] 3 [] g (fun vs zs => (vs.drop 0).take 1 ++ ((vs.drop 1).take 1 ++ ((vs.drop 2).take 1)))
  k_NoTurning : PySem.W.keepIn K (.ref (He.ga K "NoTurning")) = true
  x_NoTurning : PySem.W.excIn K (He.ga K "NoTurning") He.veBase "ValueError.__new__" = true
  k_TooMany : PySem.W.keepIn K (.ref (He.ga K "TooMany")) = true
  x_TooMany : PySem.W.excIn K (He.ga K "TooMany") He.veBase "ValueError.__new__" = true
  ic_LeanError : InitC K (He.ga K "LeanError")
  kinds : Kinds K ["NoText", "NoTree", "NoPath", "NoNaming", "NoLetters", "NoCount", "NoTurning", "NoMap", "NoLine", "TooMany"]
  z_ArithmeticError : mg "ArithmeticError" = none
  z_LookupError : mg "LookupError" = none
  z_ValueError : mg "ValueError" = none
  z_isinstance : mg "isinstance" = none
  z_len : mg "len" = none
  z_range : mg "range" = none
  z_tuple : mg "tuple" = none
  z_zip : mg "zip" = none

abbrev ten : List Str := ["NoText", "NoTree", "NoPath", "NoNaming", "NoLetters", "NoCount", "NoTurning", "NoMap", "NoLine", "TooMany"]
theorem only_map : ∀ d ∈ ten, (List.range 10).filterMap (fun k => if decide (d = ten.getD k "") = true then some (V.str (ten.getD k "")) else none) = [V.str d] := by decide +kernel
theorem map_at {α : Type} {f : Str → α} {l : List Str} {i : Nat} {v : α} (h : (l.map f)[i]? = some v) : v = f (l.getD i "") := by
  rw [List.getElem?_map] at h
  obtain ⟨x, hx, rfl⟩ := Option.map_eq_some_iff.mp h
  rw [List.getD_eq_getElem?_getD, hx]
  rfl
theorem shaped_one : ∀ d ∈ ten, PySem.SeqAt.shaped (.list [.str d]) = true := by decide +kernel
theorem canLay_ints : ∀ ds : List Int, PyData.canLayAll0 (ds.map PyData.int) = true := PySem.W.canLayAll0_ints
theorem shaped_spot (ds : List Int) : ∀ wh ∈ (["kind", "twice", "great", ""] : List Str), PySem.SeqAt.shaped (.tuple [.tuple (ds.map PyData.int), .str wh]) = true := fun wh hw => by
  have h1 : PyData.canLay0 (.str wh) = true := by
    simp only [List.mem_cons, List.not_mem_nil, or_false] at hw
    rcases hw with rfl | rfl | rfl | rfl <;> decide +kernel
  have h2 := PySem.W.depthAll_ints ds
  have h3 : PyData.depth (.tuple [.tuple (ds.map PyData.int), .str wh]) ≤ 64 := by
    simp only [PyData.depth, PyData.depthAll]
    omega
  show (PyData.canLay0 (.tuple [.tuple (ds.map PyData.int), .str wh]) && decide (PyData.depth (.tuple [.tuple (ds.map PyData.int), .str wh]) ≤ 64)) = true
  rw [decide_eq_true h3, Bool.and_true]
  simp only [PyData.canLay0, PyData.canLayAll0] at h1 ⊢
  rw [canLay_ints ds, h1]
  rfl
theorem shaped_two (d1 d2 : PyData) (h1 : d1 = .none ∨ ∃ i, d1 = .int i) (h2 : d2 = .str "a" ∨ d2 = .none ∨ ∃ i, d2 = .int i) : PySem.SeqAt.shaped (.tuple [d1, d2]) = true := by
  have ha : PyData.canLay0 (.str "a") = true := by decide +kernel
  rcases h1 with rfl | ⟨i, rfl⟩ <;> rcases h2 with rfl | rfl | ⟨j, rfl⟩ <;> simp [PySem.SeqAt.shaped, PyData.canLay0, PyData.canLayAll0, PyData.depth, PyData.depthAll] at ha ⊢ <;> exact ha
abbrev dPath (K : PySem.W.Frag) : Addr := He.dflAt ("NoTree", some "__init__") 0 K
def sp_only (K : PySem.W.Frag) : Sp := fun vs H Q _ => ∃ (a : Addr) (d : Str), vs = [.ref a, .str d] ∧ d ∈ ten ∧ Err H a (He.ga K d) ∧ ∀ H', Same H H' → Q (.bl true) H'
def sp_bare (K : PySem.W.Frag) : Sp := fun vs H Q _ => vs = [] ∧ ∀ H' p (es : List Addr), Same H H' → H p = none → H' p = some (.lst (es.map V.ref)) → es.length = 10 → (∀ (i : Nat) a d, es[i]? = some a → ten[i]? = some d → Err H' a (He.ga K d)) → Q (.ref p) H'
def sp_names : Sp := fun vs H Q _ => vs = [] ∧ ∀ H' p, Same H H' → H p = none → H' p = some (.lst (ten.map V.str)) → Q (.ref p) H'
def sp_law (K : PySem.W.Frag) : Sp := fun vs H Q _ => ∃ (a : Addr) (ns : List Int), vs = [.ref a] ∧ SqL K H a (ns.map V.int) ∧ ns.length ≤ 63 ∧ ∀ H', Q (.bl true) H'
section
variable {P : Program} {w : World} {K : PySem.W.Frag} {mg : Str → Option Value} {base : Heap}
theorem ok_NoText_init (T : Env K mg) : FnOk P w K mg base CX0 1 (He.ma K (He.ga K "NoText") "__init__") T.fd_NoText_init ["self", "at"] (spInit (He.ga K "NoText") ["at"]) := by
  refine T.F_NoText_init.ok sc_NoText_init (fun vs H Q E h => ?_) (fun cdv A outer s H vs Q E hr h => ?_)
  · obtain ⟨a, ws, rfl, hl, _⟩ := h
    rw [List.length_cons, hl]
    rfl
  · have nd := sc_NoText_init.nd
    refine ⟨_, PSs.nox (pss_cons (ps_expr (pe_cinit T.ic_LeanError (by rfl) T.m_LeanError (pa_cons (pv 0) (pa_cons pe_str pa_nil))))
      (pss_one (ps_ost (pv 0) (pv 1)))), ?_⟩
    obtain ⟨a, ws, rfl, hl, e, h⟩ := h
    obtain ⟨v, rfl⟩ := List.length_eq_one_iff.mp hl
    refine ⟨_, rfl, a, He.ga K "NoText", _, rfl, by simp, T.o_NoText, e, ?_⟩
    refine ⟨_, rfl, _, rfl, a, He.ga K "NoText", rfl, T.o_NoText, T.na_NoText_at, .inl ⟨e, fun dx hdx nda => ?_⟩⟩
    exact h dx _ hdx nda upd_same (by rw [upd_ne nda]; exact upd_same) fun b n1 n2 => by rw [upd_ne n1, upd_ne n2]
theorem ok_NoTree_init (T : Env K mg) : FnOk P w K mg base CX0 1 (He.ma K (He.ga K "NoTree") "__init__") T.fd_NoTree_init ["self", "path", "why"] (spInit (He.ga K "NoTree") ["path", "why"]) := by
  refine T.F_NoTree_init.ok sc_NoTree_init (fun vs H Q E h => ?_) (fun cdv A outer s H vs Q E hr h => ?_)
  · obtain ⟨a, ws, rfl, hl, _⟩ := h
    rw [List.length_cons, hl]
    rfl
  · have nd := sc_NoTree_init.nd
    refine ⟨_, PSs.nox (pss_cons (ps_expr (pe_cinit T.ic_LeanError (by rfl) T.m_LeanError (pa_cons (pv 0) (pa_cons pe_str pa_nil))))
      (pss_cons (ps_ost (pv 0) (pv 1))
      (pss_one (ps_ost (pv 0) (pv 2))))), ?_⟩
    obtain ⟨a, ws, rfl, hl, e, h⟩ := h
    obtain ⟨v1, v2, rfl⟩ : ∃ v1 v2, ws = [v1, v2] := match ws, hl with
      | [v1, v2], _ => ⟨v1, v2, rfl⟩
    refine ⟨_, rfl, a, He.ga K "NoTree", _, rfl, by simp, T.o_NoTree, e, ?_⟩
    refine ⟨_, rfl, _, rfl, a, He.ga K "NoTree", rfl, T.o_NoTree, T.na_NoTree_path, .inl ⟨e, fun dx hdx nda => ?_⟩⟩
    refine ⟨_, rfl, _, rfl, a, He.ga K "NoTree", rfl, T.o_NoTree, T.na_NoTree_why, .inr ⟨dx, _, upd_same, (by rw [upd_ne nda]; exact upd_same), by simp, ?_⟩⟩
    exact h dx _ hdx nda (by rw [upd_ne nda.symm]; exact upd_same) upd_same fun b n1 n2 => by rw [upd_ne n2, upd_ne n1, upd_ne n2]
theorem ok_NoNaming_init (T : Env K mg) : FnOk P w K mg base CX0 1 (He.ma K (He.ga K "NoNaming") "__init__") T.fd_NoNaming_init ["self", "one", "other"] (spInit (He.ga K "NoNaming") ["one", "other"]) := by
  refine T.F_NoNaming_init.ok sc_NoNaming_init (fun vs H Q E h => ?_) (fun cdv A outer s H vs Q E hr h => ?_)
  · obtain ⟨a, ws, rfl, hl, _⟩ := h
    rw [List.length_cons, hl]
    rfl
  · have nd := sc_NoNaming_init.nd
    refine ⟨_, PSs.nox (pss_cons (ps_expr (pe_cinit T.ic_LeanError (by rfl) T.m_LeanError (pa_cons (pv 0) (pa_cons pe_str pa_nil))))
      (pss_cons (ps_ost (pv 0) (pv 1))
      (pss_one (ps_ost (pv 0) (pv 2))))), ?_⟩
    obtain ⟨a, ws, rfl, hl, e, h⟩ := h
    obtain ⟨v1, v2, rfl⟩ : ∃ v1 v2, ws = [v1, v2] := match ws, hl with
      | [v1, v2], _ => ⟨v1, v2, rfl⟩
    refine ⟨_, rfl, a, He.ga K "NoNaming", _, rfl, by simp, T.o_NoNaming, e, ?_⟩
    refine ⟨_, rfl, _, rfl, a, He.ga K "NoNaming", rfl, T.o_NoNaming, T.na_NoNaming_one, .inl ⟨e, fun dx hdx nda => ?_⟩⟩
    refine ⟨_, rfl, _, rfl, a, He.ga K "NoNaming", rfl, T.o_NoNaming, T.na_NoNaming_other, .inr ⟨dx, _, upd_same, (by rw [upd_ne nda]; exact upd_same), by simp, ?_⟩⟩
    exact h dx _ hdx nda (by rw [upd_ne nda.symm]; exact upd_same) upd_same fun b n1 n2 => by rw [upd_ne n2, upd_ne n1, upd_ne n2]
theorem ok__law_mixed (T : Env K mg) : FnOk P w K mg base CX0 1 (He.ga K "_law_mixed") T.fd__law_mixed ["cell", "k"] spMixed := by
  refine T.F__law_mixed.ok sc__law_mixed (fun vs H Q E h => ?_) (fun cdv A outer s H vs Q E hr h => ⟨t_mixed K, PSs.nox ?_, ?_⟩)
  · obtain ⟨c, k, rfl, _⟩ := h
    rfl
  · have nd := sc__law_mixed.nd
    exact (pss_cons (ps_set (i := 2) nd rfl (Or.inl rfl) (pe_op op_modN (pe_op (oAdd (K := K)) (pe_op (oAdd (K := K)) (pe_op (oMul (K := K)) (pe_op op_modN (pv 0) pe_int) pe_int) (pe_op (oMul (K := K)) (pv 1) pe_int)) pe_int) pe_int))
      (pss_cons (ps_set (i := 2) nd rfl (Or.inl rfl) (pe_op op_modN (pe_op (oMul (K := K)) (pv 2) (pv 2)) pe_int))
      (pss_one (ps_ret (pe_op op_modN (pe_op (oMul (K := K)) (pv 2) (pe_op (oAdd (K := K)) (pv 2) pe_int)) pe_int)))))
  · obtain ⟨c, k, rfl, h⟩ := h
    exact mixed_run h
theorem ok__law_cell (T : Env K mg) : FnOk P w K mg base CX0 2 (He.ga K "_law_cell") T.fd__law_cell ["script", "k"] (spCell' K) := by
  refine T.F__law_cell.ok sc__law_cell (fun vs H Q E h => ?_) (fun cdv A outer s H vs Q E hr h => ⟨t_cell K, PSs.nox ?_, ?_⟩)
  · obtain ⟨c, ns, k, rfl, _⟩ := h
    rfl
  · have nd := sc__law_cell.nd
    exact (pss_cons (ps_set (i := 2) nd rfl (Or.inl rfl) pe_int)
      (pss_cons (ps_if (pt_cmpR op_ltM (pv 1) (pe_callB (cLen (K := K)) (by rfl) T.z_len (by decide +kernel) (pa_cons (pv 0) pa_nil)) (nomark _)) (pss_one (ps_set (i := 2) nd rfl (Or.inl rfl) (pe_ix (ixM (K := K)) (pv 0) (pv 1) (fun _ _ => rfl)))) pss_nil)
      (pss_cons (ps_if (pt_cmpR op_geM (pv 2) (pe_op op_pow pe_int pe_int) (nomark _)) (pss_one (ps_ret (pe_op op_modN (pe_op op_sub (pv 2) (pe_op op_pow pe_int pe_int)) (pe_op (oMul (K := K)) (pe_op (oMul (K := K)) (pe_op (oMul (K := K)) (pe_op op_pow pe_int pe_int) (pe_op op_pow pe_int pe_int)) (pe_op op_pow pe_int pe_int)) (pe_op op_pow pe_int pe_int))))) pss_nil)
      (pss_cons (ps_set (i := 3) nd rfl (Or.inl rfl) pe_int)
      (pss_cons (ps_for PassesOwn.never rfl (pi_range1 (by rfl) T.z_range (pa_cons pe_int pa_nil)) (pg_name (i := 4) nd rfl (Or.inl rfl)) (pss_one (ps_set (i := 3) nd rfl (Or.inl rfl) (pe_op (oAdd (K := K)) (pe_op (oMul (K := K)) (pv 3) pe_int) (pe_call (ok__law_mixed T) hr (by rfl) T.m__law_mixed T.F__law_mixed.kp T.b__law_mixed .nil pass0 (pa_cons (pv 2) (pa_cons (pe_op (oAdd (K := K)) (pe_op (oAdd (K := K)) (pe_op (oMul (K := K)) pe_int (pv 1)) (pe_op (oMul (K := K)) pe_int (pv 4))) (pe_op (oMul (K := K)) (pv 4) (pv 4))) pa_nil)))))))
      (pss_one (ps_ret (pv 3))))))))
  · obtain ⟨c, ns, k, rfl, h1, h2, h3, h⟩ := h
    exact cell_run h1 h2 h3 h
theorem ok__law_take (T : Env K mg) : FnOk P w K mg base CX0 1 (He.ga K "_law_take") T.fd__law_take ["pile", "size"] spTakeS := by
  refine T.F__law_take.ok sc__law_take (fun vs H Q E h => ?_) (fun cdv A outer s H vs Q E hr h => ⟨t_take K, PSs.nox ?_, ?_⟩)
  · obtain ⟨p, c, b, rfl, _⟩ := h
    rfl
  · have nd := sc__law_take.nd
    exact (pss_cons (ps_set (i := 2) nd rfl (Or.inl rfl) (pe_op op_modN (pe_ix (ixM (K := K)) (pv 0) pe_int (fun _ _ => rfl)) (pv 1)))
      (pss_cons (ps_asg (pe_op op_fdivN (pe_ix (ixM (K := K)) (pv 0) pe_int (fun _ _ => rfl)) (pv 1)) (pg_sub (pv 0) pe_int set_M))
      (pss_one (ps_ret (pv 2)))))
  · obtain ⟨p, c, b, rfl, h1, h2, h⟩ := h
    exact take_runS h1 h2 h
theorem ok__law_only (T : Env K mg) : FnOk P w K mg base CX0 1 (He.ga K "_law_only") T.fd__law_only ["caught", "name"] (sp_only K) := by
  refine T.F__law_only.ok sc__law_only (fun vs H Q E h => ?_) (fun cdv A outer s H vs Q E hr h => ?_)
  · obtain ⟨a, d, rfl, _⟩ := h
    rfl
  · have nd := sc__law_only.nd
    refine ⟨_, PSs.nox (pss_cons (ps_set (i := 2) nd rfl (Or.inl rfl) (pe_lstS (pa_cons pe_str (pa_cons pe_str (pa_cons pe_str (pa_cons pe_str (pa_cons pe_str (pa_cons pe_str (pa_cons pe_str (pa_cons pe_str (pa_cons pe_str pa_nil)))))))))))
      (pss_cons (ps_expr (peBm (K := K) PySem.F.plainAttrs_list PySem.F.slot_list_append PySem.F.type_list_append mt_appendS (pv 2) (pa_cons pe_str pa_nil)))
      (pss_cons (ps_set (i := 3) nd rfl (Or.inl rfl) (pe_lstS (pa_cons (pe_callB (cIsx (K := K)) (by rfl) T.z_isinstance (by decide +kernel) (pa_cons (pv 0) (pa_cons (pe_glob (v := .ref (He.ga K "NoText")) rfl T.m_NoText rfl) pa_nil))) (pa_cons (pe_callB (cIsx (K := K)) (by rfl) T.z_isinstance (by decide +kernel) (pa_cons (pv 0) (pa_cons (pe_glob (v := .ref (He.ga K "NoTree")) rfl T.m_NoTree rfl) pa_nil))) (pa_cons (pe_callB (cIsx (K := K)) (by rfl) T.z_isinstance (by decide +kernel) (pa_cons (pv 0) (pa_cons (pe_glob (v := .ref (He.ga K "NoPath")) rfl T.m_NoPath rfl) pa_nil))) pa_nil)))))
      (pss_cons (ps_set (i := 3) nd rfl (Or.inl rfl) (pe_op (oAddS (K := K)) (pv 3) (pe_lstS (pa_cons (pe_callB (cIsx (K := K)) (by rfl) T.z_isinstance (by decide +kernel) (pa_cons (pv 0) (pa_cons (pe_glob (v := .ref (He.ga K "NoNaming")) rfl T.m_NoNaming rfl) pa_nil))) (pa_cons (pe_callB (cIsx (K := K)) (by rfl) T.z_isinstance (by decide +kernel) (pa_cons (pv 0) (pa_cons (pe_glob (v := .ref (He.ga K "NoLetters")) rfl T.m_NoLetters rfl) pa_nil))) (pa_cons (pe_callB (cIsx (K := K)) (by rfl) T.z_isinstance (by decide +kernel) (pa_cons (pv 0) (pa_cons (pe_glob (v := .ref (He.ga K "NoCount")) rfl T.m_NoCount rfl) pa_nil))) pa_nil))))))
      (pss_cons (ps_set (i := 3) nd rfl (Or.inl rfl) (pe_op (oAddS (K := K)) (pv 3) (pe_lstS (pa_cons (pe_callB (cIsx (K := K)) (by rfl) T.z_isinstance (by decide +kernel) (pa_cons (pv 0) (pa_cons (pe_glob (v := .ref (He.ga K "NoTurning")) rfl T.m_NoTurning rfl) pa_nil))) (pa_cons (pe_callB (cIsx (K := K)) (by rfl) T.z_isinstance (by decide +kernel) (pa_cons (pv 0) (pa_cons (pe_glob (v := .ref (He.ga K "NoMap")) rfl T.m_NoMap rfl) pa_nil))) (pa_cons (pe_callB (cIsx (K := K)) (by rfl) T.z_isinstance (by decide +kernel) (pa_cons (pv 0) (pa_cons (pe_glob (v := .ref (He.ga K "NoLine")) rfl T.m_NoLine rfl) pa_nil))) pa_nil))))))
      (pss_cons (ps_expr (peBm (K := K) PySem.F.plainAttrs_list PySem.F.slot_list_append PySem.F.type_list_append mt_appendS (pv 3) (pa_cons (pe_callB (cIsx (K := K)) (by rfl) T.z_isinstance (by decide +kernel) (pa_cons (pv 0) (pa_cons (pe_glob (v := .ref (He.ga K "TooMany")) rfl T.m_TooMany rfl) pa_nil))) pa_nil)))
      (pss_cons (ps_if (pt_cmpR (oNe (K := K) hr.units) (pe_lc (own := [("first", 4), ("here", 5)]) (g := _) rfl nd (pi_zip (by rfl) T.z_zip (pa_cons (pv 2) (pa_cons (pv 3) pa_nil))) (blkOk_by (own := [("first", 4), ("here", 5)]) (N := N__law_only) (sc := defScope s__law_only) (by decide +kernel)) (fun _ _ _ _ _ => (pgTup (K := K) (n := 2) rfl (pgs_cons (pg_name (i := 4) nd rfl (Or.inl rfl)) (pgs_cons (pg_name (i := 5) nd rfl (Or.inl rfl)) pgs_nil)))) (fun _ _ _ _ _ => (pts_one (ptT (K := K) (pv 5)))) (fun _ _ _ _ _ => (pv 4))) (pe_lstS (pa_cons (pv 1) pa_nil)) (nomark _)) (pss_one (ps_ret pe_bl)) pss_nil)
      (pss_cons (ps_if (PW.pt (pw_or (ptT (K := K) (pe_callB (cIsx (K := K)) (by rfl) T.z_isinstance (by decide +kernel) (pa_cons (pv 0) (pa_cons (pe_bltn (v := .ty "LookupError") (u := .type "LookupError") rfl T.z_LookupError (by decide +kernel) rfl) pa_nil)))) (pw_or1 (ptT (K := K) (pe_callB (cIsx (K := K)) (by rfl) T.z_isinstance (by decide +kernel) (pa_cons (pv 0) (pa_cons (pe_bltn (v := .ty "ArithmeticError") (u := .type "ArithmeticError") rfl T.z_ArithmeticError (by decide +kernel) rfl) pa_nil))))))) (pss_one (ps_ret pe_bl)) pss_nil)
      (pss_one (ps_ret (pe_and (pe_callB (cIsx (K := K)) (by rfl) T.z_isinstance (by decide +kernel) (pa_cons (pv 0) (pa_cons (pe_glob (v := .ref (He.ga K "LeanError")) rfl T.m_LeanError rfl) pa_nil))) (pe_one (pe_callB (cIsx (K := K)) (by rfl) T.z_isinstance (by decide +kernel) (pa_cons (pv 0) (pa_cons (pe_bltn (v := .ty "ValueError") (u := .type "ValueError") rfl T.z_ValueError (by decide +kernel) rfl) pa_nil))))))))))))))), ?_⟩
    obtain ⟨a, d, rfl, hd, he, h⟩ := h
    have ec := T.kinds.ec d hd
    have own := T.kinds.own d hd
    refine ⟨(by show 9 ≤ sizeLine; decide), fun q H1 nq s1 k1 => ?_⟩
    -- names.append('TooMany')
    refine ⟨_, rfl, .inl ⟨rfl, _, SqL.of k1⟩, q, _, _, rfl, rfl, k1, (by show 9 < sizeLine; decide), fun H2 k2 b2 => ?_⟩
    have s2 : Same H H2 := Same.but s1 nq b2
    have e2 := he.same s2
    -- some = [..]
    refine ⟨_, rfl, isx_read e2 ec (.own _) (own "NoText" (by simp)) ⟨_, rfl, isx_read e2 ec (.own _) (own "NoTree" (by simp)) ⟨_, rfl, isx_read e2 ec (.own _) (own "NoPath" (by simp)) ⟨(by show 3 ≤ sizeLine; decide), fun q3 H3 n3 s3 k3 => ?_⟩⟩⟩⟩
    have e3 := e2.same s3
    refine ⟨_, rfl, ⟨_, rfl, isx_read e3 ec (.own _) (own "NoNaming" (by simp)) ⟨_, rfl, isx_read e3 ec (.own _) (own "NoLetters" (by simp)) ⟨_, rfl, isx_read e3 ec (.own _) (own "NoCount" (by simp)) ⟨(by show 3 ≤ sizeLine; decide), fun q4 H4 n4 s4 k4 => ?_⟩⟩⟩⟩⟩
    refine .inl ⟨_, _, s4 _ _ k3, k4, (by show 6 ≤ sizeLine; decide), fun q5 H5 n5 s5 k5 => ?_⟩
    have e5 := (e3.same s4).same s5
    refine ⟨_, rfl, ⟨_, rfl, isx_read e5 ec (.own _) (own "NoTurning" (by simp)) ⟨_, rfl, isx_read e5 ec (.own _) (own "NoMap" (by simp)) ⟨_, rfl, isx_read e5 ec (.own _) (own "NoLine" (by simp)) ⟨(by show 3 ≤ sizeLine; decide), fun q6 H6 n6 s6 k6 => ?_⟩⟩⟩⟩⟩
    refine .inl ⟨_, _, s6 _ _ k5, k6, (by show 9 ≤ sizeLine; decide), fun q7 H7 n7 s7 k7 => ?_⟩
    have e7 := (e5.same s6).same s7
    refine ⟨_, rfl, .inl ⟨rfl, _, SqL.of k7⟩, ?_⟩
    refine ⟨_, rfl, isx_read e7 ec (.own _) (own "TooMany" (by simp)) ⟨q7, _, _, rfl, rfl, k7, (by show 9 < sizeLine; decide), fun H8 k8 b8 => ?_⟩⟩
    have t6 : Same H2 H6 := Same.trans (Same.trans (Same.trans s3 s4) s5) s6
    have t7 : Same H2 H7 := Same.trans t6 s7
    have s8 : Same H2 H8 := Same.but t7 (Same.free t6 n7) b8
    have e8 := e2.same s8
    have kq := s8 _ _ k2
    have t8 := Same.trans s2 s8
    -- the names told
    refine ⟨_, rfl, _, rfl, q, q7, _, _, rfl, SqL.of kq, SqL.of k8, fun D hD => ?_⟩
    refine lc_map (walk_zip (n := 10) rfl) (fun k => if decide (d = ten.getD k "") = true then some (V.str (ten.getD k "")) else none) hD (by decide) (fun H' s' => ⟨SqL.of (s' _ _ kq), SqL.of (s' _ _ k8)⟩) (fun i x H3 H4 hi s' y Ry Rn hy hn => ?_) (fun H' s' kD => ?_)
    · obtain ⟨T1, v1, v2, rfl, hT, rfl, g1, g2⟩ := y
      have w1 : v1 = .str (ten.getD i "") := map_at (f := V.str) (l := ten) g1
      have w2 : v2 = .bl (decide (d = ten.getD i "")) := map_at (f := fun c => V.bl (decide (d = c))) (l := ten) g2
      subst w1 w2
      refine ⟨_, _, rfl, sqT_new, rfl, _, _, rfl, _, _, rfl, rfl, rfl, ?_⟩
      refine ⟨_, rfl, decide (d = ten.getD i ""), rfl, ?_⟩
      by_cases hb : d = ten.getD i ""
      · rw [decide_eq_true hb] at hy ⊢
        exact ⟨_, rfl, hy _ _ (Same.new hT) rfl⟩
      · rw [decide_eq_false hb] at hn ⊢
        exact hn _ (Same.new hT) rfl
    · rw [only_map d hd] at kD
      have e9 := e8.same s'
      refine ⟨_, rfl, (by show 1 ≤ sizeLine; decide), fun p H9 np s9 k9 => neD (.lst (SqL.of (s9 _ _ kD)) (dp_strs [d])) (.lst (SqL.of k9) (dp_strs [d])) (shaped_one d hd) ⟨false, rfl, ?_⟩⟩
      have e10 := e9.same s9
      refine ⟨_, rfl, isx_read e10 ec (.ty _) (T.kinds.lo d hd) ⟨false, rfl, ?_⟩⟩
      refine ⟨_, rfl, isx_read e10 ec (.ty _) (T.kinds.ar d hd) ⟨false, rfl, ?_⟩⟩
      refine ⟨_, rfl, isx_read e10 ec (.own _) (T.kinds.top d hd) ⟨true, rfl, ?_⟩⟩
      exact ⟨_, rfl, isx_read e10 ec (.ty _) (T.kinds.ve d hd) (h _ (Same.trans t8 (Same.trans s' s9)))⟩
theorem ok__law_names (T : Env K mg) : FnOk P w K mg base CX0 1 (He.ga K "_law_names") T.fd__law_names [] sp_names := by
  refine T.F__law_names.ok sc__law_names (fun vs H Q E h => ?_) (fun cdv A outer s H vs Q E hr h => ?_)
  · rw [h.1]
    rfl
  · have nd := sc__law_names.nd
    refine ⟨_, PSs.nox (pss_cons (ps_set (i := 0) nd rfl (Or.inl rfl) (pe_lstS (pa_cons pe_str (pa_cons pe_str (pa_cons pe_str (pa_cons pe_str (pa_cons pe_str (pa_cons pe_str (pa_cons pe_str (pa_cons pe_str (pa_cons pe_str pa_nil)))))))))))
      (pss_one (ps_ret (pe_op (oAddS (K := K)) (pv 0) (pe_lstS (pa_cons pe_str pa_nil)))))), ?_⟩
    obtain ⟨rfl, h⟩ := h
    refine ⟨(by show 9 ≤ sizeLine; decide), fun q H1 nq s1 k1 => ?_⟩
    refine ⟨_, rfl, (by show 1 ≤ sizeLine; decide), fun q2 H2 n2 s2 k2 => .inl ⟨_, _, s2 _ _ k1, k2, (by show 10 ≤ sizeLine; decide), fun q3 H3 n3 s3 k3 => ?_⟩⟩
    have t := Same.trans s1 s2
    exact h _ _ (Same.trans t s3) (Same.free t n3) k3
theorem ok__law_bare (T : Env K mg) : FnOk P w K mg base CX0 3 (He.ga K "_law_bare") T.fd__law_bare [] (sp_bare K) := by
  refine T.F__law_bare.ok sc__law_bare (fun vs H Q E h => ?_) (fun cdv A outer s H vs Q E hr h => ?_)
  · rw [h.1]
    rfl
  · have nd := sc__law_bare.nd
    refine ⟨_, PSs.nox (pss_cons (ps_set (i := 0) nd rfl (Or.inl rfl) (pe_lstS (pa_cons (pe_gk0 (ck_mkO T.o_NoText T.i_NoText T.t_NoText (ok_NoText_init T) hr (T.kb_NoText_0).choose_spec pass0) (by rfl) T.m_NoText T.k_NoText pk_nil) (pa_cons (pe_gk0 (ck_mkO T.o_NoTree T.i_NoTree T.t_NoTree (ok_NoTree_init T) hr (T.kb_NoTree_0).choose_spec pass0) (by rfl) T.m_NoTree T.k_NoTree pk_nil) (pa_cons (pe_gk0 (ck_mkN PySem.F.excBase_ValueError T.x_NoPath) (by rfl) T.m_NoPath T.k_NoPath pk_nil) (pa_cons (pe_gk0 (ck_mkO T.o_NoNaming T.i_NoNaming T.t_NoNaming (ok_NoNaming_init T) hr (T.kb_NoNaming_0).choose_spec pass0) (by rfl) T.m_NoNaming T.k_NoNaming pk_nil) (pa_cons (pe_gk0 (ck_mkN PySem.F.excBase_ValueError T.x_NoLetters) (by rfl) T.m_NoLetters T.k_NoLetters pk_nil) (pa_cons (pe_gk0 (ck_mkN PySem.F.excBase_ValueError T.x_NoCount) (by rfl) T.m_NoCount T.k_NoCount pk_nil) (pa_cons (pe_gk0 (ck_mkN PySem.F.excBase_ValueError T.x_NoTurning) (by rfl) T.m_NoTurning T.k_NoTurning pk_nil) (pa_cons (pe_gk0 (ck_mkN PySem.F.excBase_ValueError T.x_NoMap) (by rfl) T.m_NoMap T.k_NoMap pk_nil) pa_nil))))))))))
      (pss_one (ps_ret (pe_op (oAddS (K := K)) (pv 0) (pe_lstS (pa_cons (pe_gk0 (ck_mkN PySem.F.excBase_ValueError T.x_NoLine) (by rfl) T.m_NoLine T.k_NoLine pk_nil) (pa_cons (pe_gk0 (ck_mkN PySem.F.excBase_ValueError T.x_TooMany) (by rfl) T.m_TooMany T.k_TooMany pk_nil) pa_nil))))))), ?_⟩
    obtain ⟨rfl, h⟩ := h
    (refine LK.mkO_read (names := ["at"]) (ws := [.int 0]) ?_ ?_ ?_ ?_ ?_; exact rfl; exact rfl; exact fun _ => rfl; exact rfl; intro a1 H1 n1 s1 e1)
    (refine LK.mkO_read (names := ["path", "why"]) (ws := [.ref (dPath K), .str ""]) ?_ ?_ ?_ ?_ ?_; exact rfl; exact rfl; exact fun _ => rfl; exact rfl; intro a2 H2 n2 s2 e2)
    refine mkN_read (by decide) fun a3 H3 n3 s3 e3 => ?_
    (refine LK.mkO_read (names := ["one", "other"]) (ws := [.non, .non]) ?_ ?_ ?_ ?_ ?_; exact rfl; exact rfl; exact fun _ => rfl; exact rfl; intro a4 H4 n4 s4 e4)
    refine mkN_read (by decide) fun a5 H5 n5 s5 e5 => ?_
    refine mkN_read (by decide) fun a6 H6 n6 s6 e6 => ?_
    refine mkN_read (by decide) fun a7 H7 n7 s7 e7 => ?_
    refine mkN_read (by decide) fun a8 H8 n8 s8 e8 => ?_
    refine ⟨(by show 8 ≤ sizeLine; decide), fun q H9 nq s9 k9 => ?_⟩
    refine ⟨_, rfl, mkN_read (by decide) fun a9 H10 n9 s10 e9 => ?_⟩
    refine mkN_read (by decide) fun a10 H11 n10 s11 e10 => ?_
    refine ⟨(by show 2 ≤ sizeLine; decide), fun q2 H12 nq2 s12 k12 => .inl ⟨_, _, s12 _ _ (s11 _ _ (s10 _ _ k9)), k12, (by show 10 ≤ sizeLine; decide), fun q3 H13 nq3 s13 k13 => ?_⟩⟩
    have u12 := Same.trans s12 s13
    have u11 := Same.trans s11 u12
    have u9 := Same.trans s9 (Same.trans s10 u11)
    have u8 := Same.trans s8 u9
    have u7 := Same.trans s7 u8
    have u6 := Same.trans s6 u7
    have u5 := Same.trans s5 u6
    have u4 := Same.trans s4 u5
    have u3 := Same.trans s3 u4
    have u2 := Same.trans s2 u3
    have u1 := Same.trans s1 u2
    refine h H13 q3 [a1, a2, a3, a4, a5, a6, a7, a8, a9, a10] u1 ?_ k13 rfl fun i a d h1 h2 => ?_
    · have hq := Same.free (Same.trans s10 (Same.trans s11 s12)) nq3
      exact Same.free (Same.trans s1 (Same.trans s2 (Same.trans s3 (Same.trans s4 (Same.trans s5 (Same.trans s6 (Same.trans s7 (Same.trans s8 s9)))))))) hq
    · have z1 := (e1.same u2).err
      have z2 := (e2.same u3).err
      have z3 := e3.same u4
      have z4 := (e4.same u5).err
      have z5 := e5.same u6
      have z6 := e6.same u7
      have z7 := e7.same u8
      have z8 := e8.same u9
      have z9 := e9.same u11
      have z10 := e10.same u12
      match i, h1, h2 with
      | 0, h1, h2 => cases h1; cases h2; exact z1
      | 1, h1, h2 => cases h1; cases h2; exact z2
      | 2, h1, h2 => cases h1; cases h2; exact z3
      | 3, h1, h2 => cases h1; cases h2; exact z4
      | 4, h1, h2 => cases h1; cases h2; exact z5
      | 5, h1, h2 => cases h1; cases h2; exact z6
      | 6, h1, h2 => cases h1; cases h2; exact z7
      | 7, h1, h2 => cases h1; cases h2; exact z8
      | 8, h1, h2 => cases h1; cases h2; exact z9
      | 9, h1, h2 => cases h1; cases h2; exact z10
      | i + 10, h1, h2 => cases h1
end
end P14

set_option Elab.async false
set_option linter.all false
set_option maxRecDepth 100000
set_option maxHeartbeats 4000000
namespace P14
open PySem L2 LK
section
variable {P : Program} {w : World} {K : PySem.W.Frag} {mg : Str → Option Value} {base : Heap}
theorem ok_law (T : Env K mg) : FnOk P w K mg base CX0 4 (He.ga K "law") T.fd_law ["script"] (sp_law K) := by
  refine T.F_law.ok sc_law (fun vs H Q E h => ?_) (fun cdv A outer s H vs Q E hr h => ?_)
  · obtain ⟨a, ns, rfl, _⟩ := h
    rfl
  · have nd := sc_law.nd
    refine ⟨_, PSs.nox (pss_cons (ps_for PassesOwn.never rfl (pi_zip (by rfl) T.z_zip (pa_cons (pe_call0 (ok__law_bare T) hr (by rfl) T.m__law_bare T.F__law_bare.kp T.b__law_bare .nil pass0) (pa_cons (pe_call0 (ok__law_names T) (hr.mono (by decide)) (by rfl) T.m__law_names T.F__law_names.kp T.b__law_names .nil pass0) pa_nil))) (pgTup (K := K) (n := 2) rfl (pgs_cons (pg_name (i := 3) nd rfl (Or.inl rfl)) (pgs_cons (pg_name (i := 4) nd rfl (Or.inl rfl)) pgs_nil))) (pss_one (ps_if (pt_not (ptT (K := K) (pe_call (ok__law_only T) (hr.mono (by decide)) (by rfl) T.m__law_only T.F__law_only.kp T.b__law_only .nil pass0 (pa_cons (pv 3) (pa_cons (pv 4) pa_nil))))) (pss_one (ps_ret pe_bl)) pss_nil)))
      (pss_cons (ps_par3 (i := 5) (j := 6) (l := 7) rfl nd rfl rfl rfl (by decide) (by decide) (by decide) rfl rfl rfl (pa_cons (pe_gk0 (ck_mkO T.o_NoText T.i_NoText T.t_NoText (ok_NoText_init T) (hr.mono (by decide)) (T.kb_NoText_0).choose_spec pass0) (by rfl) T.m_NoText T.k_NoText pk_nil) (pa_cons (pe_gk0 (ck_mkO T.o_NoTree T.i_NoTree T.t_NoTree (ok_NoTree_init T) (hr.mono (by decide)) (T.kb_NoTree_0).choose_spec pass0) (by rfl) T.m_NoTree T.k_NoTree pk_nil) (pa_cons (pe_gk0 (ck_mkO T.o_NoNaming T.i_NoNaming T.t_NoNaming (ok_NoNaming_init T) (hr.mono (by decide)) (T.kb_NoNaming_0).choose_spec pass0) (by rfl) T.m_NoNaming T.k_NoNaming pk_nil) pa_nil))) rfl)
      (pss_cons (ps_if (pt_cmpR (oNe (K := K) hr.units) (pe_lstS (pa_cons (pe_xfK (K := K) (pv 5)) (pa_cons (pe_xfK (K := K) (pv 6)) (pa_cons (pe_xfK (K := K) (pv 6)) (pa_cons (pe_xfK (K := K) (pv 7)) (pa_cons (pe_xfK (K := K) (pv 7)) pa_nil)))))) (pe_lstS (pa_cons pe_int (pa_cons (pe_tupS pa_nil) (pa_cons pe_str (pa_cons pe_non (pa_cons pe_non pa_nil)))))) (nomark _)) (pss_one (ps_ret pe_bl)) pss_nil)
      (pss_cons (ps_for PassesOwn.never rfl (piAny (K := K) (pe_lstS (pa_cons pe_str (pa_cons pe_str pa_nil)))) (pg_name (i := 1) nd rfl (Or.inl rfl)) (pss_cons (ps_set (i := 8) nd rfl (Or.inl rfl) (pe_lstS (pa_cons (pe_gk (ck_mkN PySem.F.excBase_ValueError T.x_NoPath) (by rfl) T.m_NoPath T.k_NoPath (pa_cons (pv 1) pa_nil) pk_nil) (pa_cons (pe_gk (ck_mkN PySem.F.excBase_ValueError T.x_NoLetters) (by rfl) T.m_NoLetters T.k_NoLetters (pa_cons (pv 1) pa_nil) pk_nil) (pa_cons (pe_gk (ck_mkN PySem.F.excBase_ValueError T.x_NoCount) (by rfl) T.m_NoCount T.k_NoCount (pa_cons (pv 1) pa_nil) pk_nil) (pa_cons (pe_gk (ck_mkN PySem.F.excBase_ValueError T.x_NoTurning) (by rfl) T.m_NoTurning T.k_NoTurning (pa_cons (pv 1) pa_nil) pk_nil) (pa_cons (pe_gk (ck_mkN PySem.F.excBase_ValueError T.x_NoMap) (by rfl) T.m_NoMap T.k_NoMap (pa_cons (pv 1) pa_nil) pk_nil) (pa_cons (pe_gk (ck_mkN PySem.F.excBase_ValueError T.x_NoLine) (by rfl) T.m_NoLine T.k_NoLine (pa_cons (pv 1) pa_nil) pk_nil) pa_nil))))))))
      (pss_cons (ps_expr (peBm (K := K) PySem.F.plainAttrs_list PySem.F.slot_list_append PySem.F.type_list_append mt_appendS (pv 8) (pa_cons (pe_gk (ck_mkN PySem.F.excBase_ValueError T.x_TooMany) (by rfl) T.m_TooMany T.k_TooMany (pa_cons (pv 1) pa_nil) pk_nil) pa_nil)))
      (pss_cons (ps_set (i := 9) nd rfl (Or.inl rfl) (pe_lstS (pa_cons pe_str (pa_cons pe_str (pa_cons pe_str (pa_cons pe_str (pa_cons pe_str (pa_cons pe_str (pa_cons pe_str pa_nil)))))))))
      (pss_one (ps_if (pt_cmpR (oNe (K := K) hr.units) (pe_lc (own := [("error", 3), ("name", 4)]) (g := _) rfl nd (pi_zip (by rfl) T.z_zip (pa_cons (pv 8) (pa_cons (pv 9) pa_nil))) (blkOk_by (own := [("error", 3), ("name", 4)]) (N := N_law) (sc := defScope s_law) (by decide +kernel)) (fun _ _ _ _ _ => (pgTup (K := K) (n := 2) rfl (pgs_cons (pg_name (i := 3) nd rfl (Or.inl rfl)) (pgs_cons (pg_name (i := 4) nd rfl (Or.inl rfl)) pgs_nil)))) (fun _ _ _ _ _ => (pts_one (pt_not (ptT (K := K) (pe_call (ok__law_only T) (hr.mono (by decide)) (by rfl) T.m__law_only T.F__law_only.kp T.b__law_only .nil pass0 (pa_cons (pv 3) (pa_cons (pv 4) pa_nil))))))) (fun _ _ _ _ _ => (pv 4))) (pe_lstS pa_nil) (nomark _)) (pss_one (ps_ret pe_bl)) pss_nil))))))
      (pss_cons (ps_for PassesOwn.never rfl (pi_range1 (by rfl) T.z_range (pa_cons pe_int pa_nil)) (pg_name (i := 2) nd rfl (Or.inl rfl)) (pss_cons (ps_set (i := 10) nd rfl (Or.inr rfl) (pe_lstS (pa_cons (pe_call (ok__law_cell T) (hr.mono (by decide)) (by rfl) T.m__law_cell T.F__law_cell.kp T.b__law_cell .nil pass0 (pa_cons (pv 0) (pa_cons (pv 2) pa_nil))) pa_nil)))
      (pss_cons (ps_set (i := 11) nd rfl (Or.inl rfl) (pe_call (ok__law_take T) (hr.mono (by decide)) (by rfl) T.m__law_take T.F__law_take.kp T.b__law_take .nil pass0 (pa_cons (pv 10) (pa_cons pe_int pa_nil))))
      (pss_cons (ps_set (i := 12) nd rfl (Or.inl rfl) (pe_callTy (cTupS (K := K)) (by rfl) T.z_tuple (by decide +kernel) (pa_cons (pe_lc (own := [("turn", 16)]) (g := (gName 16)) rfl nd (pi_range1 (by rfl) T.z_range (pa_cons (pe_call (ok__law_take T) (hr.mono (by decide)) (by rfl) T.m__law_take T.F__law_take.kp T.b__law_take .nil pass0 (pa_cons (pv 10) (pa_cons pe_int pa_nil))) pa_nil)) (blkOk_by (own := [("turn", 16)]) (N := N_law) (sc := defScope s_law) (by decide +kernel)) (fun _ _ _ _ _ => (pg_name (i := 16) nd rfl (Or.inl rfl))) (fun _ _ _ _ _ => pts_nil) (fun _ _ _ _ _ => (pe_call (ok__law_take T) (hr.mono (by decide)) (by rfl) T.m__law_take T.F__law_take.kp T.b__law_take .nil pass0 (pa_cons (pv 10) (pa_cons pe_int pa_nil))))) pa_nil)))
      (pss_cons (ps_set (i := 13) nd rfl (Or.inl rfl) (pe_ix (ixM (K := K)) (pe_lstS (pa_cons pe_str (pa_cons pe_str (pa_cons pe_str (pa_cons pe_str pa_nil))))) (pe_call (ok__law_take T) (hr.mono (by decide)) (by rfl) T.m__law_take T.F__law_take.kp T.b__law_take .nil pass0 (pa_cons (pv 10) (pa_cons pe_int pa_nil))) (fun _ _ => rfl)))
      (pss_cons (ps_set (i := 14) nd rfl (Or.inl rfl) (pe_ix (ixM (K := K)) (pe_lstS (pa_cons pe_non (pa_cons pe_int (pa_cons (pv 11) pa_nil)))) (pe_call (ok__law_take T) (hr.mono (by decide)) (by rfl) T.m__law_take T.F__law_take.kp T.b__law_take .nil pass0 (pa_cons (pv 10) (pa_cons pe_int pa_nil))) (fun _ _ => rfl)))
      (pss_cons (ps_set (i := 15) nd rfl (Or.inl rfl) (pe_ix (ixM (K := K)) (pe_lstS (pa_cons pe_str (pa_cons pe_int (pa_cons pe_non pa_nil)))) (pe_call (ok__law_take T) (hr.mono (by decide)) (by rfl) T.m__law_take T.F__law_take.kp T.b__law_take .nil pass0 (pa_cons (pv 10) (pa_cons pe_int pa_nil))) (fun _ _ => rfl)))
      (pss_cons (ps_if (PW.pt (pw_or (pt_cmpR (oNe (K := K) hr.units) (pe_xfK (K := K) (pe_gk (ck_mkO T.o_NoText T.i_NoText T.t_NoText (ok_NoText_init T) (hr.mono (by decide)) (T.kb_NoText_1).choose_spec pass0) (by rfl) T.m_NoText T.k_NoText (pa_cons (pv 11) pa_nil) pk_nil)) (pv 11) (nomark _)) (pw_or1 (pt_cmpR (oNe (K := K) hr.units) (pe_xfK (K := K) (pe_gk0 (ck_mkO T.o_NoText T.i_NoText T.t_NoText (ok_NoText_init T) (hr.mono (by decide)) (T.kb_NoText_0_at).choose_spec pass0) (by rfl) T.m_NoText T.k_NoText (pk_cons (pv 11) pk_nil))) (pv 11) (nomark _))))) (pss_one (ps_ret pe_bl)) pss_nil)
      (pss_cons (ps_for PassesOwn.never rfl (piAny (K := K) (pe_lstS (pa_cons (pe_gk (ck_mkO T.o_NoTree T.i_NoTree T.t_NoTree (ok_NoTree_init T) (hr.mono (by decide)) (T.kb_NoTree_2).choose_spec pass0) (by rfl) T.m_NoTree T.k_NoTree (pa_cons (pv 12) (pa_cons (pv 13) pa_nil)) pk_nil) (pa_cons (pe_gk0 (ck_mkO T.o_NoTree T.i_NoTree T.t_NoTree (ok_NoTree_init T) (hr.mono (by decide)) (T.kb_NoTree_0_why_path).choose_spec pass0) (by rfl) T.m_NoTree T.k_NoTree (pk_cons (pv 13) (pk_cons (pv 12) pk_nil))) (pa_cons (pe_gk (ck_mkO T.o_NoTree T.i_NoTree T.t_NoTree (ok_NoTree_init T) (hr.mono (by decide)) (T.kb_NoTree_1_why).choose_spec pass0) (by rfl) T.m_NoTree T.k_NoTree (pa_cons (pv 12) pa_nil) (pk_cons (pv 13) pk_nil)) pa_nil))))) (pg_name (i := 3) nd rfl (Or.inl rfl)) (pss_one (ps_if (PW.pt (pw_or (pt_cmpR (oNe (K := K) hr.units) (pe_tupS (pa_cons (pe_xfK (K := K) (pv 3)) (pa_cons (pe_xfK (K := K) (pv 3)) pa_nil))) (pe_tupS (pa_cons (pv 12) (pa_cons (pv 13) pa_nil))) (nomark _)) (pw_or1 (pt_not (ptT (K := K) (pe_call (ok__law_only T) (hr.mono (by decide)) (by rfl) T.m__law_only T.F__law_only.kp T.b__law_only .nil pass0 (pa_cons (pv 3) (pa_cons pe_str pa_nil)))))))) (pss_one (ps_ret pe_bl)) pss_nil)))
      (pss_cons (ps_for PassesOwn.never rfl (piAny (K := K) (pe_lstS (pa_cons (pe_gk (ck_mkO T.o_NoNaming T.i_NoNaming T.t_NoNaming (ok_NoNaming_init T) (hr.mono (by decide)) (T.kb_NoNaming_2).choose_spec pass0) (by rfl) T.m_NoNaming T.k_NoNaming (pa_cons (pv 14) (pa_cons (pv 15) pa_nil)) pk_nil) (pa_cons (pe_gk0 (ck_mkO T.o_NoNaming T.i_NoNaming T.t_NoNaming (ok_NoNaming_init T) (hr.mono (by decide)) (T.kb_NoNaming_0_other_one).choose_spec pass0) (by rfl) T.m_NoNaming T.k_NoNaming (pk_cons (pv 15) (pk_cons (pv 14) pk_nil))) pa_nil)))) (pg_name (i := 3) nd rfl (Or.inl rfl)) (pss_one (ps_if (PW.pt (pw_or (pt_cmpR (oNe (K := K) hr.units) (pe_tupS (pa_cons (pe_xfK (K := K) (pv 3)) (pa_cons (pe_xfK (K := K) (pv 3)) pa_nil))) (pe_tupS (pa_cons (pv 14) (pa_cons (pv 15) pa_nil))) (nomark _)) (pw_or1 (pt_not (ptT (K := K) (pe_call (ok__law_only T) (hr.mono (by decide)) (by rfl) T.m__law_only T.F__law_only.kp T.b__law_only .nil pass0 (pa_cons (pv 3) (pa_cons pe_str pa_nil)))))))) (pss_one (ps_ret pe_bl)) pss_nil)))
      (pss_one (ps_if (PW.pt (pw_or (pt_cmpR (oNe (K := K) hr.units) (pe_xfK (K := K) (pe_gk (ck_mkO T.o_NoTree T.i_NoTree T.t_NoTree (ok_NoTree_init T) (hr.mono (by decide)) (T.kb_NoTree_1).choose_spec pass0) (by rfl) T.m_NoTree T.k_NoTree (pa_cons (pv 12) pa_nil) pk_nil)) pe_str (nomark _)) (pw_or (pt_cmpR op_notN (pe_xfK (K := K) (pe_gk (ck_mkO T.o_NoNaming T.i_NoNaming T.t_NoNaming (ok_NoNaming_init T) (hr.mono (by decide)) (T.kb_NoNaming_1).choose_spec pass0) (by rfl) T.m_NoNaming T.k_NoNaming (pa_cons (pv 14) pa_nil) pk_nil)) pe_non (nomark _)) (pw_or1 (pt_cmpR (oNe (K := K) hr.units) (pe_xfK (K := K) (pe_gk0 (ck_mkO T.o_NoTree T.i_NoTree T.t_NoTree (ok_NoTree_init T) (hr.mono (by decide)) (T.kb_NoTree_0_why).choose_spec pass0) (by rfl) T.m_NoTree T.k_NoTree (pk_cons (pv 13) pk_nil))) (pe_tupS pa_nil) (nomark _)))))) (pss_one (ps_ret pe_bl)) pss_nil))))))))))))
      (pss_one (ps_ret pe_bl))))))), ?_⟩
    obtain ⟨a, ns, rfl, hsl, hn, h⟩ := h
    -- for error, name in zip(_law_bare(), _law_names())
    refine ⟨rfl, fun H1 p1 es s1 np1 kp1 le al => ⟨rfl, fun H2 p2 s2 np2 kp2 => ?_⟩⟩
    have kp1' := s2 _ _ kp1
    refine ⟨p1, p2, _, _, rfl, SqL.of kp1', SqL.of kp2, for_it (walk_zip (xs := es.map V.ref) (ys := ten.map V.str) (n := 10) (by simp [le]))
      (fun i σ H' => ∃ x3 x4, σ = [some (.ref a), none, none, x3, x4, none, none, none, none, none, none, none, none, none, none, none, none] ∧ Same H2 H')
      ⟨_, _, rfl, Same.refl _⟩ (fun i σ H' _ hp => ?_) (fun i x σ H3 H4 hi hp y => ?_) (fun σ H3 hp => ?_)⟩
    · obtain ⟨_, _, _, e⟩ := hp
      exact ⟨SqL.of (e _ _ kp1'), SqL.of (e _ _ kp2)⟩
    · obtain ⟨x3, x4, rfl, e⟩ := hp
      obtain ⟨T1, v1, v2, rfl, hT, rfl, g1, g2⟩ := y
      obtain ⟨ai, hai, rfl⟩ := mget (l := es) (f := V.ref) g1
      obtain ⟨di, hdi, rfl⟩ := mget (l := ten) (f := V.str) g2
      have e2 : Same H1 (upd H3 T1 (.tup [.ref ai, .str di])) := Same.trans s2 (Same.trans e (Same.new hT))
      refine ⟨_, _, rfl, sqT_new, rfl, _, _, rfl, _, _, rfl, rfl, ?_⟩
      refine ⟨_, rfl, _, rfl, ai, di, rfl, List.mem_of_getElem? hdi, (al i ai di hai hdi).same e2, fun H5 e5 => ⟨true, rfl, ?_⟩⟩
      exact ⟨_, _, rfl, Same.trans (Same.trans e (Same.new hT)) e5⟩
    obtain ⟨x3, x4, rfl, e⟩ := hp
    have e03 : Same H H3 := Same.trans (Same.trans s1 s2) e
    -- text, tree, naming = ..
    (refine LK.mkO_read (names := ["at"]) (ws := [.int 0]) ?_ ?_ ?_ ?_ ?_; exact rfl; exact rfl; exact fun _ => rfl; exact rfl; intro a1 H4 n4 s4 e4)
    (refine LK.mkO_read (names := ["path", "why"]) (ws := [.ref (dPath K), .str ""]) ?_ ?_ ?_ ?_ ?_; exact rfl; exact rfl; exact fun _ => rfl; exact rfl; intro a2 H5 n5 s5 e5)
    (refine LK.mkO_read (names := ["one", "other"]) (ws := [.non, .non]) ?_ ?_ ?_ ?_ ?_; exact rfl; exact rfl; exact fun _ => rfl; exact rfl; intro a3 H6 n6 s6 e6)
    refine ⟨_, _, _, rfl, ?_⟩
    have f1 := (e4.same s5).same s6
    have f2 := e5.same s6
    have f3 := e6
    have ecT := T.kinds.ec "NoText" (by simp)
    have ecR := T.kinds.ec "NoTree" (by simp)
    have ecN := T.kinds.ec "NoNaming" (by simp)
    refine ⟨_, rfl, xf_at f1 ecT T.na_NoText_at rfl ?_⟩
    refine ⟨_, rfl, xf_at f2 ecR T.na_NoTree_path rfl ?_⟩
    refine ⟨_, rfl, xf_at f2 ecR T.na_NoTree_why rfl ?_⟩
    refine ⟨_, rfl, xf_at f3 ecN T.na_NoNaming_one rfl ?_⟩
    refine ⟨_, rfl, xf_at f3 ecN T.na_NoNaming_other rfl ?_⟩
    refine ⟨(by show 5 ≤ sizeLine; decide), fun q8 H8 n8 s8 k8 => ?_⟩
    refine ⟨(by show 0 ≤ sizeLine; decide), fun q9 H9 n9 s9 k9 => ⟨(by show 5 ≤ sizeLine; decide), fun q10 H10 n10 s10 k10 => ?_⟩⟩
    refine neD (d := .list [.int 0, .tuple [], .str "", .none, .none]) (.lst (SqL.of (s10 _ _ (s9 _ _ k8))) (.cons (.int 0) (.cons (.tup (T.et_NoTree_0 _) .nil) (.cons (.str "") (.cons .non (.cons .non .nil))))))
      (.lst (SqL.of k10) (.cons (.int 0) (.cons (.tup (.inl (.inl (s10 _ _ k9))) .nil) (.cons (.str "") (.cons .non (.cons .non .nil)))))) (by decide +kernel) ?_
    refine ⟨false, rfl, ?_⟩
    have e010 : Same H H10 := Same.trans e03 (Same.trans s4 (Same.trans s5 (Same.trans s6 (Same.trans s8 (Same.trans s9 s10)))))
    -- for word in ["", "why not"]
    refine ⟨(by show 2 ≤ sizeLine; decide), fun q11 H11 n11 s11 k11 => .inl ⟨⟨_, SqL.of k11⟩, for_it (walk_list (xs := ([.str "", .str "why not"] : List V)))
      (fun i σ H' => ∃ x1 x3 x4 x8 x9, σ = [some (.ref a), x1, none, x3, x4, some (.ref a1), some (.ref a2), some (.ref a3), x8, x9, none, none, none, none, none, none, none] ∧ Same H11 H')
      ⟨_, _, _, _, _, rfl, L2.Same.refl _⟩ (fun i σ H' _ hp => ?_) (fun i x σ G1 G2 hi hp y => ?_) (fun σ G1 hp => ?_)⟩⟩
    · obtain ⟨_, _, _, _, _, _, e⟩ := hp
      exact SqL.of (e _ _ k11)
    · obtain ⟨x1, y3, y4, x8, x9, rfl, e⟩ := hp
      obtain ⟨rfl, _⟩ := y
      refine ⟨_, rfl, mkN_read (by simp) fun b1 J1 m1 t1 f1 => ⟨_, rfl, mkN_read (by simp) fun b2 J2 m2 t2 f2 => ⟨_, rfl, mkN_read (by simp) fun b3 J3 m3 t3 f3 => ⟨_, rfl, mkN_read (by simp) fun b4 J4 m4 t4 f4 => ⟨_, rfl, mkN_read (by simp) fun b5 J5 m5 t5 f5 =>
        ⟨_, rfl, mkN_read (by simp) fun b6 J6 m6 t6 f6 => ?_⟩⟩⟩⟩⟩⟩
      refine ⟨(by show 6 ≤ sizeLine; decide), fun r J7 m7 t7 k7 => ?_⟩
      refine ⟨_, rfl, .inl ⟨rfl, _, SqL.of k7⟩, _, rfl, mkN_read (by simp) fun b7 J8 m8 t8 f8 => ⟨r, _, _, rfl, rfl, t8 _ _ k7, (by show 6 < sizeLine; decide), fun J9 k9 b9 => ?_⟩⟩
      have g67 : Same J6 J8 := Same.trans t7 t8
      have g69 : Same J6 J9 := Same.but g67 m7 b9
      have nb : b7 ≠ r := (ne_of_none k7 m8).symm
      have z7 : Err J9 b7 (He.ga K "TooMany") := by
        obtain ⟨d, fr, h1, h2⟩ := f8.ex
        rcases h2 with h2 | ⟨dd, fs, h2, h3⟩
        · exact ⟨d, fr, b9 _ _ nb h1, .inl h2⟩
        · exact ⟨d, fr, b9 _ _ nb h1, .inr ⟨dd, fs, h2, b9 _ _ (fun z => by rw [z, t8 _ _ k7] at h3; cases h3) h3⟩⟩
      have g5 := Same.trans t6 g69
      have g4 := Same.trans t5 g5
      have g3 := Same.trans t4 g4
      have g2 := Same.trans t3 g3
      have g1 := Same.trans t2 g2
      have al2 : ∀ (i : Nat) b d, ([b1, b2, b3, b4, b5, b6, b7] : List Addr)[i]? = some b → (["NoPath", "NoLetters", "NoCount", "NoTurning", "NoMap", "NoLine", "TooMany"] : List Str)[i]? = some d → d ∈ ten ∧ Err J9 b (He.ga K d) := fun i b d h1 h2 => by
        match i, h1, h2 with
        | 0, h1, h2 => cases h1; cases h2; exact ⟨by simp, f1.same g1⟩
        | 1, h1, h2 => cases h1; cases h2; exact ⟨by simp, f2.same g2⟩
        | 2, h1, h2 => cases h1; cases h2; exact ⟨by simp, f3.same g3⟩
        | 3, h1, h2 => cases h1; cases h2; exact ⟨by simp, f4.same g4⟩
        | 4, h1, h2 => cases h1; cases h2; exact ⟨by simp, f5.same g5⟩
        | 5, h1, h2 => cases h1; cases h2; exact ⟨by simp, f6.same g69⟩
        | 6, h1, h2 => cases h1; cases h2; exact ⟨by simp, z7⟩
        | i + 7, h1, h2 => cases h1
      refine ⟨(by show 7 ≤ sizeLine; decide), fun r2 J10 m10 t10 k10 => ?_⟩
      have k9' := t10 _ _ k9
      refine ⟨_, rfl, _, rfl, r, r2, _, _, rfl, SqL.of k9', SqL.of k10, fun D hD => ?_⟩
      refine lc_map (walk_zip (xs := ([b1, b2, b3, b4, b5, b6, b7] : List Addr).map V.ref) (ys := (["NoPath", "NoLetters", "NoCount", "NoTurning", "NoMap", "NoLine", "TooMany"] : List Str).map V.str) (n := 7) rfl) (fun _ => none) hD (by decide)
        (fun H' s' => ⟨SqL.of (s' _ _ k9'), SqL.of (s' _ _ k10)⟩) (fun i x J11 J12 hi s' y Ry Rn hy hn => ?_) (fun J11 s' kD => ?_)
      · obtain ⟨T1, v1, v2, rfl, hT, rfl, u1, u2⟩ := y
        obtain ⟨ai, hai, rfl⟩ := mget (l := [b1, b2, b3, b4, b5, b6, b7]) (f := V.ref) u1
        obtain ⟨di, hdi, rfl⟩ := mget (l := ["NoPath", "NoLetters", "NoCount", "NoTurning", "NoMap", "NoLine", "TooMany"]) (f := V.str) u2
        obtain ⟨hm, he⟩ := al2 i ai di hai hdi
        refine ⟨_, _, rfl, sqT_new, rfl, _, _, rfl, _, _, rfl, rfl, rfl, ?_⟩
        refine ⟨_, rfl, _, rfl, ai, di, rfl, hm, he.same (Same.trans t10 (Same.trans s' (Same.new hT))), fun J13 e5 => ⟨true, rfl, ?_⟩⟩
        exact hn _ (Same.trans (Same.new hT) e5) rfl
      · have kD' : J11 D = some (.lst []) := by rw [kD]; rfl
        refine ⟨(by show 0 ≤ sizeLine; decide), fun r3 J12 m12 t12 k12 => neD (d := .list []) (.lst (SqL.of (t12 _ _ kD')) .nil) (.lst (SqL.of k12) .nil) (by decide +kernel) ⟨false, rfl, ?_⟩⟩
        exact ⟨_, _, _, _, _, rfl, Same.trans e (Same.trans t1 (Same.trans g1 (Same.trans t10 (Same.trans s' t12))))⟩
    obtain ⟨x1, y3, y4, x8, x9, rfl, e11⟩ := hp
    have e0 : Same H G1 := Same.trans e010 (Same.trans s11 e11)
    -- for k in range(3)
    refine ⟨3, rfl, by decide, by decide, for_range (lo := 0) (n := 3) (fun i σ H' => ∃ x2 x3 x10 x11 x12 x13 x14 x15, σ = [some (.ref a), x1, x2, x3, y4, some (.ref a1), some (.ref a2), some (.ref a3), x8, x9, x10, x11, x12, x13, x14, x15, none] ∧ Same H H')
      ⟨_, _, _, _, _, _, _, _, rfl, e0⟩ (fun i σ F0 hi hp => ?_) (fun σ F0 hp => ?_)⟩
    · obtain ⟨x2, x3, x10, x11, x12, x13, x14, x15, rfl, e⟩ := hp
      -- pile = [_law_cell(script, k)]
      refine ⟨_, rfl, _, rfl, a, ns, i, by rw [Int.zero_add]; rfl, e.seq hsl, hn, by omega, (by show 1 ≤ sizeLine; decide), fun p F1 np sp kp => ?_⟩
      have t1 : Pile F0 F1 p (LK.cellOf ns i) := ⟨sp, kp, np⟩
      generalize LK.cellOf ns i = c1 at t1 ⊢
      -- where
      refine ⟨_, rfl, p, _, _, rfl, t1.hp, ⟨by decide, by decide⟩, fun F2 k2 b2 => ?_⟩
      have t2 := t1.ch k2 b2
      generalize c1.fmod 4001 = where_
      generalize c1.fdiv 4001 = c2 at t2
      -- spot
      refine ⟨_, rfl, p, _, _, rfl, t2.hp, ⟨by decide, by decide⟩, fun F3 k3 b3 => ?_⟩
      have r4 := fmod_range (a := c2) (b := 4) (by decide)
      have t3 := t2.ch k3 b3
      obtain ⟨m, hm, hm4⟩ : ∃ m : Nat, c2.fmod 4 = m ∧ m < 4 := ⟨(c2.fmod 4).toNat, by omega, by omega⟩
      rw [hm]
      refine ⟨(m : Int), rfl, by omega, by omega, fun D hD => ?_⟩
      rw [Int.toNat_natCast]
      have nDp : D ≠ p := (ne_of_none t3.hp hD).symm
      refine lc_range (lo := 0) (n := m) (fun j H' => ∃ (c : Int) (ds : List Int), Pile F0 H' p c ∧ H' D = some (.lst (ds.map V.int)) ∧ ds.length = j)
        ⟨_, [], t3.go (Same.new hD), upd_same, rfl⟩ (fun j G hj hp4 => ?_) (fun G hp4 => ?_)
      · obtain ⟨c4, ds, t4, kD, hl⟩ := hp4
        refine ⟨rfl, ?_⟩
        refine ⟨_, rfl, p, _, _, rfl, t4.hp, ⟨by decide, by decide⟩, fun F4 k4 b4 => ?_⟩
        refine ⟨ds.map V.int, b4 _ _ nDp kD, by rw [List.length_map, hl]; exact Nat.lt_of_lt_of_le (Nat.lt_trans hj hm4) (by decide), ?_⟩
        have t5 := t4.ch k4 b4
        refine ⟨_, ds ++ [c4.fmod 9], ⟨Same.mut t5.s (Same.free t3.s hD), by rw [upd_ne nDp.symm]; exact t5.hp, t5.pn⟩, ?_, by rw [List.length_append, hl]; rfl⟩
        rw [upd_same, List.map_append]
        rfl
      obtain ⟨c4, ds, t4, kD, hl⟩ := hp4
      refine ⟨D, _, rfl, .inl (SqL.of kD), fun q F4 s4 kq => ?_⟩
      have t5 := t4.go s4
      -- what
      refine ⟨(by show 4 ≤ sizeLine; decide), fun q5 F5 n5 s5 k5 => ⟨_, rfl, p, _, _, rfl, s5 _ _ t5.hp, ⟨by decide, by decide⟩, fun F6 k6 b6 => ?_⟩⟩
      have n1 : q5 ≠ p := (ne_of_none t5.hp n5).symm
      obtain ⟨v1, hv1, m1⟩ := atI_mem (xs := ([.str "kind", .str "twice", .str "great", .str ""] : List V)) (fmod_range (a := c4) (b := 4) (by decide)).1 (fmod_range (a := c4) (b := 4) (by decide)).2
      obtain ⟨wh, rfl, hwh⟩ : ∃ wh : Str, v1 = .str wh ∧ wh ∈ (["kind", "twice", "great", ""] : List Str) := List.exists_of_mem_map (f := V.str) m1 |>.imp fun _ z => ⟨z.2.symm, z.1⟩
      refine .inl ⟨q5, _, _, _, rfl, rfl, SqL.of (b6 _ _ n1 k5), hv1, ?_⟩
      have t6 := (t5.go s5).ch k6 b6
      have kq6 : SqT K F6 q (ds.map V.int) := b6.seqT (t5.go s5).hp (Same.seqT s5 kq)
      -- first
      refine ⟨_, rfl, (by show 3 ≤ sizeLine; decide), fun q7 F7 n7 s7 k7 => ⟨_, rfl, p, _, _, rfl, s7 _ _ t6.hp, ⟨by decide, by decide⟩, fun F8 k8 b8 => ?_⟩⟩
      have n2 : q7 ≠ p := (ne_of_none t6.hp n7).symm
      obtain ⟨f1v, hf1, m2⟩ := atI_mem (xs := ([.non, .int 3, .int where_] : List V)) (fmod_range (b := 3) (by decide)).1 (fmod_range (b := 3) (by decide)).2
      refine .inl ⟨q7, _, _, _, rfl, rfl, SqL.of (b8 _ _ n2 k7), hf1, ?_⟩
      have t8 := (t6.go s7).ch k8 b8
      have kq8 : SqT K F8 q (ds.map V.int) := b8.seqT (t6.go s7).hp (Same.seqT s7 kq6)
      -- second
      refine ⟨(by show 3 ≤ sizeLine; decide), fun q9 F9 n9 s9 k9 => ⟨_, rfl, p, _, _, rfl, s9 _ _ t8.hp, ⟨by decide, by decide⟩, fun F10 k10 b10 => ?_⟩⟩
      have n3 : q9 ≠ p := (ne_of_none t8.hp n9).symm
      obtain ⟨f2v, hf2, m3⟩ := atI_mem (xs := ([.str "a", .int 7, .non] : List V)) (fmod_range (b := 3) (by decide)).1 (fmod_range (b := 3) (by decide)).2
      refine .inl ⟨q9, _, _, _, rfl, rfl, SqL.of (b10 _ _ n3 k9), hf2, ?_⟩
      have t10 := (t8.go s9).ch k10 b10
      have kq10 : SqT K F10 q (ds.map V.int) := b10.seqT (t8.go s9).hp (Same.seqT s9 kq8)
      have e10 : Same H F10 := Same.trans e t10.s
      clear t1 t2 t3 t4 t5 t6 t8 t10 kq6 kq8 hv1 hf1 hf2
      obtain ⟨d1, dd1, sd1⟩ : ∃ d1, (∀ H, Dp K H f1v d1) ∧ (d1 = .none ∨ ∃ i, d1 = .int i) := by
        simp only [List.mem_cons, List.not_mem_nil, or_false] at m2
        rcases m2 with rfl | rfl | rfl
        · exact ⟨_, fun _ => .non, .inl rfl⟩
        · exact ⟨_, fun _ => .int 3, .inr ⟨_, rfl⟩⟩
        · exact ⟨_, fun _ => .int _, .inr ⟨_, rfl⟩⟩
      obtain ⟨d2, dd2, sd2⟩ : ∃ d2, (∀ H, Dp K H f2v d2) ∧ (d2 = .str "a" ∨ d2 = .none ∨ ∃ i, d2 = .int i) := by
        simp only [List.mem_cons, List.not_mem_nil, or_false] at m3
        rcases m3 with rfl | rfl | rfl
        · exact ⟨_, fun _ => .str "a", .inl rfl⟩
        · exact ⟨_, fun _ => .int 7, .inr (.inr ⟨_, rfl⟩)⟩
        · exact ⟨_, fun _ => .non, .inr (.inl rfl)⟩
      have sh1 := shaped_spot ds wh hwh
      have sh2 := shaped_two d1 d2 sd1 sd2
      -- if NoText(where).at != where or NoText(at=where).at != where
      refine ⟨_, rfl, ?_⟩
      (refine LK.mkO_read (names := ["at"]) (ws := [.int where_]) ?_ ?_ ?_ ?_ ?_; exact rfl; exact rfl; exact fun _ => rfl; exact rfl; intro b1 J1 m1' u1 g1)
      refine xf_at g1 ecT T.na_NoText_at rfl ?_
      refine ⟨_, rfl, .inl ⟨rfl, false, blN rfl, ?_⟩⟩
      refine ⟨_, rfl, ?_⟩
      (refine LK.mkO_read (names := ["at"]) (ws := [.int where_]) ?_ ?_ ?_ ?_ ?_; exact rfl; exact rfl; exact fun _ => rfl; exact rfl; intro b2 J2 m2' u2 g2)
      refine xf_at g2 ecT T.na_NoText_at rfl ?_
      refine ⟨_, rfl, .inl ⟨rfl, false, blN rfl, ?_⟩⟩
      -- for error in [NoTree(spot, what), ..]
      refine ⟨_, rfl, _, rfl, ?_⟩
      (refine LK.mkO_read (names := ["path", "why"]) (ws := [.ref q, .str wh]) ?_ ?_ ?_ ?_ ?_; exact rfl; exact rfl; exact fun _ => rfl; exact rfl; intro b3 J3 m3' u3 g3)
      refine ⟨_, rfl, _, rfl, ?_⟩
      (refine LK.mkO_read (names := ["path", "why"]) (ws := [.ref q, .str wh]) ?_ ?_ ?_ ?_ ?_; exact rfl; exact rfl; exact fun _ => rfl; exact rfl; intro b4 J4 m4' u4 g4)
      refine ⟨_, rfl, _, rfl, ?_⟩
      (refine LK.mkO_read (names := ["path", "why"]) (ws := [.ref q, .str wh]) ?_ ?_ ?_ ?_ ?_; exact rfl; exact rfl; exact fun _ => rfl; exact rfl; intro b5 J5 m5' u5 g5)
      refine ⟨(by show 3 ≤ sizeLine; decide), fun r6 J6 m6 u6 l6 => ?_⟩
      have e12 : Same F10 J2 := Same.trans u1 u2
      have e16 : Same F10 J6 := Same.trans e12 (Same.trans u3 (Same.trans u4 (Same.trans u5 u6)))
      have al : ∀ (i : Nat) (x : V), ([.ref b3, .ref b4, .ref b5] : List V)[i]? = some x → ∃ b, x = .ref b ∧ ErrAt J6 b (He.ga K "NoTree") [("why", .str wh), ("path", .ref q)] := fun i x hx => by
        match i, hx with
        | 0, hx => cases hx; exact ⟨_, rfl, ((g3.same u4).same u5).same u6⟩
        | 1, hx => cases hx; exact ⟨_, rfl, (g4.same u5).same u6⟩
        | 2, hx => cases hx; exact ⟨_, rfl, g5.same u6⟩
        | i + 3, hx => cases hx
      refine .inl ⟨⟨_, SqL.of l6⟩, for_it (walk_list (xs := ([.ref b3, .ref b4, .ref b5] : List V)))
        (fun j σ H' => ∃ x3, σ = [some (.ref a), x1, some (.int (0 + (i : Nat))), x3, y4, some (.ref a1), some (.ref a2), some (.ref a3), x8, x9, some (.ref p), some (.int where_), some (.ref q), some (.str wh), some f1v, some f2v, none] ∧ Same J6 H')
        ⟨_, rfl, L2.Same.refl _⟩ (fun j σ H' _ hp => ?_) (fun j x σ G1 G2 hj hp y => ?_) (fun σ G1 hp => ?_)⟩
      · obtain ⟨_, _, z⟩ := hp
        exact SqL.of (z _ _ l6)
      · obtain ⟨y3, rfl, z⟩ := hp
        obtain ⟨rfl, hx⟩ := y
        obtain ⟨b, rfl, g⟩ := al j x hx
        have g' := g.same z
        refine ⟨_, rfl, xf_at g' ecR T.na_NoTree_path rfl ?_⟩
        refine ⟨_, rfl, xf_at g' ecR T.na_NoTree_why rfl ?_⟩
        refine ⟨(by show 2 ≤ sizeLine; decide), fun r7 J7 m7 u7 l7 => ⟨_, rfl, _, rfl, (by show 2 ≤ sizeLine; decide), fun r8 J8 m8 u8 l8 => ?_⟩⟩
        have e78 : Same J6 J8 := Same.trans z (Same.trans u7 u8)
        have kq' : SqT K J8 q (ds.map V.int) := Same.seqT (Same.trans e16 e78) kq10
        refine neD (.tup (.inl (.inl (u8 _ _ l7))) (.cons (.tup kq' (dp_ints ds)) (.cons (.str wh) .nil))) (.tup (.inl (.inl l8)) (.cons (.tup kq' (dp_ints ds)) (.cons (.str wh) .nil))) sh1 ?_
        refine ⟨false, rfl, _, rfl, b, "NoTree", rfl, by simp, (g.same e78).err, fun J9 u9 => ⟨true, rfl, ?_⟩⟩
        exact ⟨_, rfl, Same.trans e78 u9⟩
      obtain ⟨y3, rfl, z⟩ := hp
      have e1 := Same.trans e16 z
      -- for error in [NoNaming(first, second), ..]
      refine ⟨_, rfl, _, rfl, ?_⟩
      (refine LK.mkO_read (names := ["one", "other"]) (ws := [f1v, f2v]) ?_ ?_ ?_ ?_ ?_; exact rfl; exact rfl; exact fun _ => rfl; exact rfl; intro o1 L1 w1 v1 h1)
      refine ⟨_, rfl, _, rfl, ?_⟩
      (refine LK.mkO_read (names := ["one", "other"]) (ws := [f1v, f2v]) ?_ ?_ ?_ ?_ ?_; exact rfl; exact rfl; exact fun _ => rfl; exact rfl; intro o2 L2' w2 v2 h2)
      refine ⟨(by show 2 ≤ sizeLine; decide), fun r9 L3 w3 v3 l9 => ?_⟩
      have e23 : Same F10 L3 := Same.trans e1 (Same.trans v1 (Same.trans v2 v3))
      have al2 : ∀ (i : Nat) (x : V), ([.ref o1, .ref o2] : List V)[i]? = some x → ∃ b, x = .ref b ∧ ErrAt L3 b (He.ga K "NoNaming") [("other", f2v), ("one", f1v)] := fun i x hx => by
        match i, hx with
        | 0, hx => cases hx; exact ⟨_, rfl, (h1.same v2).same v3⟩
        | 1, hx => cases hx; exact ⟨_, rfl, h2.same v3⟩
        | i + 2, hx => cases hx
      refine .inl ⟨⟨_, SqL.of l9⟩, for_it (walk_list (xs := ([.ref o1, .ref o2] : List V)))
        (fun j σ H' => ∃ x3, σ = [some (.ref a), x1, some (.int (0 + (i : Nat))), x3, y4, some (.ref a1), some (.ref a2), some (.ref a3), x8, x9, some (.ref p), some (.int where_), some (.ref q), some (.str wh), some f1v, some f2v, none] ∧ Same L3 H')
        ⟨_, rfl, L2.Same.refl _⟩ (fun j σ H' _ hp => ?_) (fun j x σ G1 G2 hj hp y => ?_) (fun σ G1 hp => ?_)⟩
      · obtain ⟨_, _, z⟩ := hp
        exact SqL.of (z _ _ l9)
      · obtain ⟨y3, rfl, z⟩ := hp
        obtain ⟨rfl, hx⟩ := y
        obtain ⟨b, rfl, g⟩ := al2 j x hx
        have g' := g.same z
        refine ⟨_, rfl, xf_at g' ecN T.na_NoNaming_one rfl ?_⟩
        refine ⟨_, rfl, xf_at g' ecN T.na_NoNaming_other rfl ?_⟩
        refine ⟨(by show 2 ≤ sizeLine; decide), fun r7 J7 m7 u7 l7 => ⟨_, rfl, _, rfl, (by show 2 ≤ sizeLine; decide), fun r8 J8 m8 u8 l8 => ?_⟩⟩
        have e78 : Same L3 J8 := Same.trans z (Same.trans u7 u8)
        refine neD (.tup (.inl (.inl (u8 _ _ l7))) (.cons (dd1 _) (.cons (dd2 _) .nil))) (.tup (.inl (.inl l8)) (.cons (dd1 _) (.cons (dd2 _) .nil))) sh2 ?_
        refine ⟨false, rfl, _, rfl, b, "NoNaming", rfl, by simp, (g.same e78).err, fun J9 u9 => ⟨true, rfl, ?_⟩⟩
        exact ⟨_, rfl, Same.trans e78 u9⟩
      obtain ⟨y3', rfl, z2⟩ := hp
      -- the last three
      refine ⟨_, rfl, ?_⟩
      (refine LK.mkO_read (names := ["path", "why"]) (ws := [.ref q, .str ""]) ?_ ?_ ?_ ?_ ?_; exact rfl; exact rfl; exact fun _ => rfl; exact rfl; intro b6 N1 w6 v6 h6)
      refine xf_at h6 ecR T.na_NoTree_why rfl ?_
      refine .inl ⟨rfl, false, blN rfl, ?_⟩
      refine ⟨_, rfl, ?_⟩
      (refine LK.mkO_read (names := ["one", "other"]) (ws := [f1v, .non]) ?_ ?_ ?_ ?_ ?_; exact rfl; exact rfl; exact fun _ => rfl; exact rfl; intro b7 N2 w7 v7 h7)
      refine xf_at h7 ecN T.na_NoNaming_other rfl ?_
      refine ⟨rfl, false, blN rfl, ?_⟩
      refine ⟨_, rfl, ?_⟩
      (refine LK.mkO_read (names := ["path", "why"]) (ws := [.ref (dPath K), .str wh]) ?_ ?_ ?_ ?_ ?_; exact rfl; exact rfl; exact fun _ => rfl; exact rfl; intro b8 N3 w8 v8 h8)
      refine xf_at h8 ecR T.na_NoTree_path rfl ?_
      refine ⟨(by show 0 ≤ sizeLine; decide), fun r10 N4 w9 v9 l10 => ?_⟩
      refine neD (d := .tuple []) (.tup (T.et_NoTree_0 _) .nil) (.tup (.inl (.inl l10)) .nil) (by decide +kernel) ?_
      refine ⟨false, rfl, ?_⟩
      exact ⟨_, _, _, _, _, _, _, _, rfl, Same.trans e10 (Same.trans e23 (Same.trans z2 (Same.trans v6 (Same.trans v7 (Same.trans v8 v9)))))⟩
    · obtain ⟨x2, x3, x10, x11, x12, x13, x14, x15, rfl, e⟩ := hp
      exact h _
end
end P14

set_option Elab.async false
set_option linter.all false
set_option maxRecDepth 100000
set_option maxHeartbeats 4000000
namespace P14
open PySem L2 LK
def d_NoText_init : He.DefD := ⟨("NoText", some "__init__"), "__init__", "NoText.__init__", defArgs s_NoText_init, defBody s_NoText_init, defScope s_NoText_init, [.int 0], []⟩
def d_NoTree_init : He.DefD := ⟨("NoTree", some "__init__"), "__init__", "NoTree.__init__", defArgs s_NoTree_init, defBody s_NoTree_init, defScope s_NoTree_init, [.adr (He.dflAt ("NoTree", some "__init__") 0), .str ""], []⟩
def d_NoNaming_init : He.DefD := ⟨("NoNaming", some "__init__"), "__init__", "NoNaming.__init__", defArgs s_NoNaming_init, defBody s_NoNaming_init, defScope s_NoNaming_init, [.non, .non], []⟩
def d__law_mixed : He.DefD := ⟨("_law_mixed", none), "_law_mixed", "_law_mixed", defArgs s__law_mixed, defBody s__law_mixed, defScope s__law_mixed, [], []⟩
def d__law_cell : He.DefD := ⟨("_law_cell", none), "_law_cell", "_law_cell", defArgs s__law_cell, defBody s__law_cell, defScope s__law_cell, [], []⟩
def d__law_take : He.DefD := ⟨("_law_take", none), "_law_take", "_law_take", defArgs s__law_take, defBody s__law_take, defScope s__law_take, [], []⟩
def d__law_only : He.DefD := ⟨("_law_only", none), "_law_only", "_law_only", defArgs s__law_only, defBody s__law_only, defScope s__law_only, [], []⟩
def d__law_bare : He.DefD := ⟨("_law_bare", none), "_law_bare", "_law_bare", defArgs s__law_bare, defBody s__law_bare, defScope s__law_bare, [], []⟩
def d__law_names : He.DefD := ⟨("_law_names", none), "_law_names", "_law_names", defArgs s__law_names, defBody s__law_names, defScope s__law_names, [], []⟩
def d_law : He.DefD := ⟨("law", none), "law", "law", defArgs s_law, defBody s_law, defScope s_law, [], []⟩
def fn : List He.DefD := [d_NoText_init, d_NoTree_init, d_NoNaming_init, d__law_mixed, d__law_cell, d__law_take, d__law_only, d__law_bare, d__law_names, d_law]
def fa : List He.Fa := [.glo "_law_mixed", .glo "_law_cell", .glo "_law_take", .glo "_law_only", .glo "_law_bare", .glo "_law_names", .glo "law", .glo "LeanError", .glo "NoCount", .glo "NoLetters", .glo "NoLine", .glo "NoMap", .glo "NoNaming", .glo "NoPath", .glo "NoText", .glo "NoTree", .glo "NoTurning", .glo "TooMany", .free "ArithmeticError", .free "LookupError", .free "ValueError", .free "isinstance", .free "len", .free "range", .free "tuple", .free "zip"]
def ck (K : PySem.W.Frag) : Bool := (fa.all fun f => f.ok K) && (PySem.W.keepIn K (.ref (He.ga K "NoCount")) && (PySem.W.excIn K (He.ga K "NoCount") He.veBase "ValueError.__new__" && (PySem.W.keepIn K (.ref (He.ga K "NoLetters")) && (PySem.W.excIn K (He.ga K "NoLetters") He.veBase "ValueError.__new__" && (PySem.W.keepIn K (.ref (He.ga K "NoLine")) && (PySem.W.excIn K (He.ga K "NoLine") He.veBase "ValueError.__new__" && (PySem.W.keepIn K (.ref (He.ga K "NoMap")) && (PySem.W.excIn K (He.ga K "NoMap") He.veBase "ValueError.__new__" && (PySem.W.keepIn K (.ref (He.ga K "NoNaming")) && (oexB K (He.ga K "NoNaming") && (inB K "NoNaming" && (He.eqO (PySem.W.findIn K (.ref (He.ga K "NoNaming")) "one") (some none) && (He.eqO (PySem.W.findIn K (.ref (He.ga K "NoNaming")) "other") (some none) && (PySem.W.keepIn K (.ref (He.ga K "NoPath")) && (PySem.W.excIn K (He.ga K "NoPath") He.veBase "ValueError.__new__" && (PySem.W.keepIn K (.ref (He.ga K "NoText")) && (oexB K (He.ga K "NoText") && (inB K "NoText" && (He.eqO (PySem.W.findIn K (.ref (He.ga K "NoText")) "at") (some none) && (PySem.W.keepIn K (.ref (He.ga K "NoTree")) && (oexB K (He.ga K "NoTree") && (inB K "NoTree" && (He.eqO (PySem.W.findIn K (.ref (He.ga K "NoTree")) "path") (some none) && (He.eqO (PySem.W.findIn K (.ref (He.ga K "NoTree")) "why") (some none) && (etB K (He.dflAt ("NoTree", some "__init__") 0 K) && (PySem.W.keepIn K (.ref (He.ga K "NoTurning")) && (PySem.W.excIn K (He.ga K "NoTurning") He.veBase "ValueError.__new__" && (PySem.W.keepIn K (.ref (He.ga K "TooMany")) && (PySem.W.excIn K (He.ga K "TooMany") He.veBase "ValueError.__new__" && (icB K (He.ga K "LeanError") && (kindsB K ["NoText", "NoTree", "NoPath", "NoNaming", "NoLetters", "NoCount", "NoTurning", "NoMap", "NoLine", "TooMany"])))))))))))))))))))))))))))))))
abbrev R : PySem.W.OpenRow := PySem.W.OpenLaw.row PySem.Challenge.rw_leanscript_k14_refusals
abbrev hk : PySem.W.Hook := hookS 6 ck fn
def ob (s : PySem.W.SharedT) : He.AlD := obsSG 6 ck fn (HandSHeadRun.getT s)
theorem ob_eq (s : PySem.W.SharedT) : ob s = hk.obs s.abs := obsSG_eq (HandSHeadRun.getT_eq s)
def nm0 : List Str := ["LeanError", "NoText", "NoTree", "NoPath", "NoNaming", "NoLetters", "NoCount", "NoTurning", "NoMap", "NoLine", "TooMany", "_law_mixed", "_law_cell", "_law_take", "_law_only", "_law_bare", "_law_names"]
def nms : List Str := nm0
set_option maxHeartbeats 0 in
theorem run (w : World) : HandSHeadRun.RunEq R (PySem.W.view R.prog [19]) hk ob 4000 nms w := by
  intro os
  kernel_rfl
theorem env_of {K : PySem.W.Frag} {h : Heap} {mg : Str → Option Value} (X : K.In h) (G : h.Ns mainGlobals mg) (c : SaysM ck fn K) : Nonempty (Env K mg) := by
  obtain ⟨cA, cD⟩ := He.ba (show ck K = true from c.both.1)
  obtain ⟨c0, cD⟩ := He.ba cD
  obtain ⟨c1, cD⟩ := He.ba cD
  obtain ⟨c2, cD⟩ := He.ba cD
  obtain ⟨c3, cD⟩ := He.ba cD
  obtain ⟨c4, cD⟩ := He.ba cD
  obtain ⟨c5, cD⟩ := He.ba cD
  obtain ⟨c6, cD⟩ := He.ba cD
  obtain ⟨c7, cD⟩ := He.ba cD
  obtain ⟨c8, cD⟩ := He.ba cD
  obtain ⟨c9, cD⟩ := He.ba cD
  obtain ⟨c10, cD⟩ := He.ba cD
  obtain ⟨c11, cD⟩ := He.ba cD
  obtain ⟨c12, cD⟩ := He.ba cD
  obtain ⟨c13, cD⟩ := He.ba cD
  obtain ⟨c14, cD⟩ := He.ba cD
  obtain ⟨c15, cD⟩ := He.ba cD
  obtain ⟨c16, cD⟩ := He.ba cD
  obtain ⟨c17, cD⟩ := He.ba cD
  obtain ⟨c18, cD⟩ := He.ba cD
  obtain ⟨c19, cD⟩ := He.ba cD
  obtain ⟨c20, cD⟩ := He.ba cD
  obtain ⟨c21, cD⟩ := He.ba cD
  obtain ⟨c22, cD⟩ := He.ba cD
  obtain ⟨c23, cD⟩ := He.ba cD
  obtain ⟨c24, cD⟩ := He.ba cD
  obtain ⟨c25, cD⟩ := He.ba cD
  obtain ⟨c26, cD⟩ := He.ba cD
  obtain ⟨c27, cD⟩ := He.ba cD
  obtain ⟨c28, cD⟩ := He.ba cD
  obtain ⟨c29, cD⟩ := He.ba cD
  have c30 := cD
  obtain ⟨fd_NoText_init, F_NoText_init⟩ := c.def_ 0 (d := d_NoText_init) rfl
  obtain ⟨fd_NoTree_init, F_NoTree_init⟩ := c.def_ 1 (d := d_NoTree_init) rfl
  obtain ⟨fd_NoNaming_init, F_NoNaming_init⟩ := c.def_ 2 (d := d_NoNaming_init) rfl
  obtain ⟨fd__law_mixed, F__law_mixed⟩ := c.def_ 3 (d := d__law_mixed) rfl
  obtain ⟨fd__law_cell, F__law_cell⟩ := c.def_ 4 (d := d__law_cell) rfl
  obtain ⟨fd__law_take, F__law_take⟩ := c.def_ 5 (d := d__law_take) rfl
  obtain ⟨fd__law_only, F__law_only⟩ := c.def_ 6 (d := d__law_only) rfl
  obtain ⟨fd__law_bare, F__law_bare⟩ := c.def_ 7 (d := d__law_bare) rfl
  obtain ⟨fd__law_names, F__law_names⟩ := c.def_ 8 (d := d__law_names) rfl
  obtain ⟨fd_law, F_law⟩ := c.def_ 9 (d := d_law) rfl
  exact ⟨{
    m_LeanError := He.glo_ok X G (fa_at cA 7)
    m_NoCount := He.glo_ok X G (fa_at cA 8)
    m_NoLetters := He.glo_ok X G (fa_at cA 9)
    m_NoLine := He.glo_ok X G (fa_at cA 10)
    m_NoMap := He.glo_ok X G (fa_at cA 11)
    m_NoNaming := He.glo_ok X G (fa_at cA 12)
    m_NoPath := He.glo_ok X G (fa_at cA 13)
    m_NoText := He.glo_ok X G (fa_at cA 14)
    m_NoTree := He.glo_ok X G (fa_at cA 15)
    m_NoTurning := He.glo_ok X G (fa_at cA 16)
    m_TooMany := He.glo_ok X G (fa_at cA 17)
    k_NoCount := c0
    x_NoCount := c1
    k_NoLetters := c2
    x_NoLetters := c3
    k_NoLine := c4
    x_NoLine := c5
    k_NoMap := c6
    x_NoMap := c7
    k_NoNaming := c8
    o_NoNaming := oexB_ok c9
    i_NoNaming := (inB_ok c10).1
    t_NoNaming := (inB_ok c10).2
    na_NoNaming_one := He.eqO_ok c11
    na_NoNaming_other := He.eqO_ok c12
    kb_NoNaming_0 := kbn1 (dvs := [.non, .non]) F_NoNaming_init 1 [] (fun us ds ws => (us.drop 0).take 1 ++ ((ds.drop 0).take 1 ++ ((ds.drop 1).take 1))) (List.cons_ne_nil _ _) (fun r1 r2 r3 => (((r1.drop 0).take 1).append (((r2.drop 0).take 1).append ((r2.drop 1).take 1)))) (fun _ _ _ _ _ _ _ us its ws l1 l2 l3 => match us, its, ws, l1, l2, l3 with | [_], [_, _], [], _, _, _ => ⟨_, rfl, rfl⟩)
    kb_NoNaming_0_other_one := kbn1 (dvs := [.non, .non]) F_NoNaming_init 1 ["other", "one"] (fun us ds ws => (us.drop 0).take 1 ++ ((ws.drop 1).take 1 ++ ((ws.drop 0).take 1))) (List.cons_ne_nil _ _) (fun r1 r2 r3 => (((r1.drop 0).take 1).append (((r3.drop 1).take 1).append ((r3.drop 0).take 1)))) (fun _ _ _ _ _ _ _ us its ws l1 l2 l3 => match us, its, ws, l1, l2, l3 with | [_], [_, _], [_, _], _, _, _ => ⟨_, rfl, rfl⟩)
    kb_NoNaming_1 := kbn1 (dvs := [.non, .non]) F_NoNaming_init 2 [] (fun us ds ws => (us.drop 0).take 1 ++ ((us.drop 1).take 1 ++ ((ds.drop 1).take 1))) (List.cons_ne_nil _ _) (fun r1 r2 r3 => (((r1.drop 0).take 1).append (((r1.drop 1).take 1).append ((r2.drop 1).take 1)))) (fun _ _ _ _ _ _ _ us its ws l1 l2 l3 => match us, its, ws, l1, l2, l3 with | [_, _], [_, _], [], _, _, _ => ⟨_, rfl, rfl⟩)
    kb_NoNaming_2 := kbn1 (dvs := [.non, .non]) F_NoNaming_init 3 [] (fun us ds ws => (us.drop 0).take 1 ++ ((us.drop 1).take 1 ++ ((us.drop 2).take 1))) (List.cons_ne_nil _ _) (fun r1 r2 r3 => (((r1.drop 0).take 1).append (((r1.drop 1).take 1).append ((r1.drop 2).take 1)))) (fun _ _ _ _ _ _ _ us its ws l1 l2 l3 => match us, its, ws, l1, l2, l3 with | [_, _, _], [_, _], [], _, _, _ => ⟨_, rfl, rfl⟩)
    k_NoPath := c13
    x_NoPath := c14
    k_NoText := c15
    o_NoText := oexB_ok c16
    i_NoText := (inB_ok c17).1
    t_NoText := (inB_ok c17).2
    na_NoText_at := He.eqO_ok c18
    kb_NoText_0 := kbn1 (dvs := [.int 0]) F_NoText_init 1 [] (fun us ds ws => (us.drop 0).take 1 ++ ((ds.drop 0).take 1)) (List.cons_ne_nil _ _) (fun r1 r2 r3 => (((r1.drop 0).take 1).append ((r2.drop 0).take 1))) (fun _ _ _ _ _ _ _ us its ws l1 l2 l3 => match us, its, ws, l1, l2, l3 with | [_], [_], [], _, _, _ => ⟨_, rfl, rfl⟩)
    kb_NoText_0_at := kbn1 (dvs := [.int 0]) F_NoText_init 1 ["at"] (fun us ds ws => (us.drop 0).take 1 ++ ((ws.drop 0).take 1)) (List.cons_ne_nil _ _) (fun r1 r2 r3 => (((r1.drop 0).take 1).append ((r3.drop 0).take 1))) (fun _ _ _ _ _ _ _ us its ws l1 l2 l3 => match us, its, ws, l1, l2, l3 with | [_], [_], [_], _, _, _ => ⟨_, rfl, rfl⟩)
    kb_NoText_1 := kbn1 (dvs := [.int 0]) F_NoText_init 2 [] (fun us ds ws => (us.drop 0).take 1 ++ ((us.drop 1).take 1)) (List.cons_ne_nil _ _) (fun r1 r2 r3 => (((r1.drop 0).take 1).append ((r1.drop 1).take 1))) (fun _ _ _ _ _ _ _ us its ws l1 l2 l3 => match us, its, ws, l1, l2, l3 with | [_, _], [_], [], _, _, _ => ⟨_, rfl, rfl⟩)
    k_NoTree := c19
    o_NoTree := oexB_ok c20
    i_NoTree := (inB_ok c21).1
    t_NoTree := (inB_ok c21).2
    na_NoTree_path := He.eqO_ok c22
    na_NoTree_why := He.eqO_ok c23
    et_NoTree_0 := etB_ok c24
    kb_NoTree_0 := kbn1 (dvs := [.ref (He.dflAt ("NoTree", some "__init__") 0 K), .str ""]) F_NoTree_init 1 [] (fun us ds ws => (us.drop 0).take 1 ++ ((ds.drop 0).take 1 ++ ((ds.drop 1).take 1))) (List.cons_ne_nil _ _) (fun r1 r2 r3 => (((r1.drop 0).take 1).append (((r2.drop 0).take 1).append ((r2.drop 1).take 1)))) (fun _ _ _ _ _ _ _ us its ws l1 l2 l3 => match us, its, ws, l1, l2, l3 with | [_], [_, _], [], _, _, _ => ⟨_, rfl, rfl⟩)
    kb_NoTree_0_why := kbn1 (dvs := [.ref (He.dflAt ("NoTree", some "__init__") 0 K), .str ""]) F_NoTree_init 1 ["why"] (fun us ds ws => (us.drop 0).take 1 ++ ((ds.drop 0).take 1 ++ ((ws.drop 0).take 1))) (List.cons_ne_nil _ _) (fun r1 r2 r3 => (((r1.drop 0).take 1).append (((r2.drop 0).take 1).append ((r3.drop 0).take 1)))) (fun _ _ _ _ _ _ _ us its ws l1 l2 l3 => match us, its, ws, l1, l2, l3 with | [_], [_, _], [_], _, _, _ => ⟨_, rfl, rfl⟩)
    kb_NoTree_0_why_path := kbn1 (dvs := [.ref (He.dflAt ("NoTree", some "__init__") 0 K), .str ""]) F_NoTree_init 1 ["why", "path"] (fun us ds ws => (us.drop 0).take 1 ++ ((ws.drop 1).take 1 ++ ((ws.drop 0).take 1))) (List.cons_ne_nil _ _) (fun r1 r2 r3 => (((r1.drop 0).take 1).append (((r3.drop 1).take 1).append ((r3.drop 0).take 1)))) (fun _ _ _ _ _ _ _ us its ws l1 l2 l3 => match us, its, ws, l1, l2, l3 with | [_], [_, _], [_, _], _, _, _ => ⟨_, rfl, rfl⟩)
    kb_NoTree_1 := kbn1 (dvs := [.ref (He.dflAt ("NoTree", some "__init__") 0 K), .str ""]) F_NoTree_init 2 [] (fun us ds ws => (us.drop 0).take 1 ++ ((us.drop 1).take 1 ++ ((ds.drop 1).take 1))) (List.cons_ne_nil _ _) (fun r1 r2 r3 => (((r1.drop 0).take 1).append (((r1.drop 1).take 1).append ((r2.drop 1).take 1)))) (fun _ _ _ _ _ _ _ us its ws l1 l2 l3 => match us, its, ws, l1, l2, l3 with | [_, _], [_, _], [], _, _, _ => ⟨_, rfl, rfl⟩)
    kb_NoTree_1_why := kbn1 (dvs := [.ref (He.dflAt ("NoTree", some "__init__") 0 K), .str ""]) F_NoTree_init 2 ["why"] (fun us ds ws => (us.drop 0).take 1 ++ ((us.drop 1).take 1 ++ ((ws.drop 0).take 1))) (List.cons_ne_nil _ _) (fun r1 r2 r3 => (((r1.drop 0).take 1).append (((r1.drop 1).take 1).append ((r3.drop 0).take 1)))) (fun _ _ _ _ _ _ _ us its ws l1 l2 l3 => match us, its, ws, l1, l2, l3 with | [_, _], [_, _], [_], _, _, _ => ⟨_, rfl, rfl⟩)
    kb_NoTree_2 := kbn1 (dvs := [.ref (He.dflAt ("NoTree", some "__init__") 0 K), .str ""]) F_NoTree_init 3 [] (fun us ds ws => (us.drop 0).take 1 ++ ((us.drop 1).take 1 ++ ((us.drop 2).take 1))) (List.cons_ne_nil _ _) (fun r1 r2 r3 => (((r1.drop 0).take 1).append (((r1.drop 1).take 1).append ((r1.drop 2).take 1)))) (fun _ _ _ _ _ _ _ us its ws l1 l2 l3 => match us, its, ws, l1, l2, l3 with | [_, _, _], [_, _], [], _, _, _ => ⟨_, rfl, rfl⟩)
    k_NoTurning := c25
    x_NoTurning := c26
    k_TooMany := c27
    x_TooMany := c28
    ic_LeanError := icB_ok c29
    kinds := kindsB_ok c30
    fd_NoText_init := fd_NoText_init, F_NoText_init := F_NoText_init
    fd_NoTree_init := fd_NoTree_init, F_NoTree_init := F_NoTree_init
    fd_NoNaming_init := fd_NoNaming_init, F_NoNaming_init := F_NoNaming_init
    fd__law_mixed := fd__law_mixed, F__law_mixed := F__law_mixed, m__law_mixed := He.glo_ok X G (fa_at cA 0)
    b__law_mixed := FunD.bindsN F__law_mixed fun _ _ _ _ _ _ us hl => match us, hl with | [_, _], _ => rfl
    fd__law_cell := fd__law_cell, F__law_cell := F__law_cell, m__law_cell := He.glo_ok X G (fa_at cA 1)
    b__law_cell := FunD.bindsN F__law_cell fun _ _ _ _ _ _ us hl => match us, hl with | [_, _], _ => rfl
    fd__law_take := fd__law_take, F__law_take := F__law_take, m__law_take := He.glo_ok X G (fa_at cA 2)
    b__law_take := FunD.bindsN F__law_take fun _ _ _ _ _ _ us hl => match us, hl with | [_, _], _ => rfl
    fd__law_only := fd__law_only, F__law_only := F__law_only, m__law_only := He.glo_ok X G (fa_at cA 3)
    b__law_only := FunD.bindsN F__law_only fun _ _ _ _ _ _ us hl => match us, hl with | [_, _], _ => rfl
    fd__law_bare := fd__law_bare, F__law_bare := F__law_bare, m__law_bare := He.glo_ok X G (fa_at cA 4)
    b__law_bare := FunD.bindsN F__law_bare fun _ _ _ _ _ _ us hl => match us, hl with | [], _ => rfl
    fd__law_names := fd__law_names, F__law_names := F__law_names, m__law_names := He.glo_ok X G (fa_at cA 5)
    b__law_names := FunD.bindsN F__law_names fun _ _ _ _ _ _ us hl => match us, hl with | [], _ => rfl
    fd_law := fd_law, F_law := F_law, m_law := He.glo_ok X G (fa_at cA 6)
    b_law := FunD.bindsN F_law fun _ _ _ _ _ _ us hl => match us, hl with | [_], _ => rfl
    z_ArithmeticError := He.free_ok X G (fa_at cA 18)
    z_LookupError := He.free_ok X G (fa_at cA 19)
    z_ValueError := He.free_ok X G (fa_at cA 20)
    z_isinstance := He.free_ok X G (fa_at cA 21)
    z_len := He.free_ok X G (fa_at cA 22)
    z_range := He.free_ok X G (fa_at cA 23)
    z_tuple := He.free_ok X G (fa_at cA 24)
    z_zip := He.free_ok X G (fa_at cA 25)
  }⟩

theorem noleave (H : Hp) (s : Shared) (e : Value) (s' : Shared) (h : CX0 [] H s (fun _ _ _ => False) e s') : False := h
theorem sp_start {K : PySem.W.Frag} (H : Hp) (a : Addr) (ns : List Int) (hn : ns.length ≤ 63) (_ : Only H) (hs : SqL K H a (ns.map V.int)) : sp_law K [.ref a] H (fun v _ => v = .bl true) fun _ _ _ => False :=
  ⟨a, ns, rfl, hs, hn, fun _ => rfl⟩
end P14
open PySem PySem.W PySem.Calls PyProof.Rows
set_option maxRecDepth 100000 in
set_option maxHeartbeats 0 in
theorem PySem.Challenge.cw_leanscript_k14_refusals_holds : PySem.Challenge.rw_leanscript_k14_refusals.Holds := by
  w_on; o_law
  refine HandSHeadRun.head_any (r := OpenLaw.row PySem.Challenge.rw_leanscript_k14_refusals) (q := view (OpenLaw.row PySem.Challenge.rw_leanscript_k14_refusals).prog [19]) (H := P14.hk) (ob := P14.ob) (M := 4000) (loose := P14.nms)
    (d := HandSHeadRun.topDef (OpenLaw.row PySem.Challenge.rw_leanscript_k14_refusals).prog 19) (kwd := []) P14.ob_eq (by kernel_rfl) (fun s => by kernel_rfl) P14.run (by kernel_rfl) (by kernel_rfl) (by kernel_rfl) (by rfl)
    (by first | assumption | decide +kernel) (by decide +kernel) ⟨rfl, rfl, rfl, rfl, rfl, by decide +kernel⟩ ?hw ?hc
  case hw => w_witness2
  case hc =>
    refine L2.walk_ofE (l := PySem.Challenge.rw_leanscript_k14_refusals) (n := 63) (k := 4) (x := "script") (CX := L2.CX0) rfl (by decide) (by kernel_rfl) ⟨rfl, by decide, by decide⟩ ?F P14.noleave
    intro w mg fa h Y G hmg0
    obtain ⟨K, KX, c⟩ := Y
    have hmg : mg ("law" : PySem.Str) = some (.ref fa) := by
      have e : (HandSHeadRun.topDef (OpenLaw.row PySem.Challenge.rw_leanscript_k14_refusals).prog 19).name = ("law" : PySem.Str) := by kernel_rfl
      rw [← e]
      exact hmg0
    obtain ⟨T⟩ := P14.env_of KX G c
    have ef := hmg.symm.trans T.m_law
    cases ef
    have b := L2.FunD.bindsA (ps := ["script"]) T.F_law fun _ _ _ _ _ _ us hl => match us, hl with | [_], _ => rfl
    exact ⟨K, T.fd_law, P14.sp_law K, KX, fun s v => b s [v] rfl, P14.sp_start, fun base _ _ => P14.ok_law T⟩

#print axioms PySem.Challenge.cw_leanscript_k14_refusals_holds
