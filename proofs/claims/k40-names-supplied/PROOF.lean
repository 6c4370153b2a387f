import PyProof.Rows.All
import Wide.All
import OpenK.AllK
import Wide.FinOn
import HandS.Base
import HandS.Call
import HandS.List
import HandS.Comp
import HandS.Iter
import HandS.Text
import HandS.Ends
import HandS.Words
import HandS.WordsList
import HandS.WordsDict
import HandS.IsInst
import HandS.TupAny
import HandS.Wide
import HandS.SetKeys
import HandS.SetBool
import PyProof.ListStr
import HandS.Walk
import HandS.Defaults
import HandS.Head0
import HandS.Head1
import HandS.Head2
import HandS.HeadEnd
import HandS.HeadHook1
import HandS.HeadHook2
import PySem.Challenge.RW_leanscript_k40_names_supplied
set_option Elab.async false
set_option linter.all false
set_option maxRecDepth 100000
set_option maxHeartbeats 4000000
/-! rules of mine over the hand layer: operators by what the values are -/
namespace LK
open PySem PySem.Spec PyProof.Rows L2
section
variable {X : Cx}

/-! one operator, several kinds of values -/
def rAddM (K : PySem.W.Frag) : R2 := fun x y H Q => match x, y with
  | .int i, .int j => Q (.int (i + j)) H
  | .str a, .str b => a.length + b.length ≤ sizeLine ∧ Q (.str (a ++ b)) H
  | .ref a, .ref b => (∃ xs ys, H a = some (.lst xs) ∧ H b = some (.lst ys) ∧ xs.length + ys.length ≤ sizeLine ∧ ∀ p, H p = none → Q (.ref p) (upd H p (.lst (xs ++ ys)))) ∨
      rCatA K (.ref a) (.ref b) H Q
  | _, _ => False
theorem op_addM : OpR X (binaryOp .Add) (rAddM X.K) := by
  intro pins s σ H x y v u Q I rx ry h
  cases x <;> cases y <;> try exact (show False from h).elim
  · exact op_add pins s σ H _ _ v u Q I rx ry ⟨_, _, rfl, rfl, h⟩
  · exact op_add_str pins s σ H _ _ v u Q I rx ry ⟨_, _, rfl, rfl, h.1, h.2⟩
  · rcases h with ⟨xs, ys, h1, h2, h3, h4⟩ | h
    · exact op_cat pins s σ H _ _ v u Q I rx ry ⟨_, _, xs, ys, rfl, rfl, h1, h2, h3, h4⟩
    · exact op_catA pins s σ H _ _ v u Q I rx ry h
def rMulM (K : PySem.W.Frag) : R2 := fun x y H Q => match x, y with
  | .int i, .int j => (CMul i j ∨ CMulW i j) ∧ Q (.int (i * j)) H
  | .ref a, .int k => ∃ xs, H a = some (.lst xs) ∧ -(2 ^ 63) ≤ k ∧ k < 2 ^ 63 ∧ xs.length * k.toNat ≤ sizeLine ∧ ∀ p, H p = none → Q (.ref p) (upd H p (.lst (List.replicate k.toNat xs).flatten))
  | _, _ => False
theorem op_mulM : OpR X (binaryOp .Mult) (rMulM X.K) := by
  intro pins s σ H x y v u Q I rx ry h
  cases x <;> cases y <;> try exact (show False from h).elim
  · rcases h with ⟨h | h, q⟩
    · exact op_mul pins s σ H _ _ v u Q I rx ry ⟨_, _, rfl, rfl, h, q⟩
    · exact op_mulW pins s σ H _ _ v u Q I rx ry ⟨_, _, rfl, rfl, h, q⟩
  · obtain ⟨xs, h1, h2⟩ := h
    exact op_rep pins s σ H _ _ v u Q I rx ry ⟨_, _, xs, rfl, rfl, h1, h2⟩
def rCmpM (pi : Int → Int → Bool) (ps : Str → Str → Bool) : R2 := fun x y H Q => match x, y with
  | .int i, .int j => Q (.bl (pi i j)) H
  | .str i, .str j => Q (.bl (ps i j)) H
  | _, _ => False
theorem op_ltM : OpR X (compareOp .Lt) (rCmpM (fun i j => decide (i < j)) fun i j => decide (i.cps.toList < j.cps.toList)) := by
  intro pins s σ H x y v u Q I rx ry h
  cases x <;> cases y <;> try exact (show False from h).elim
  · exact op_lt pins s σ H _ _ v u Q I rx ry ⟨_, _, rfl, rfl, h⟩
  · exact op_lt_str pins s σ H _ _ v u Q I rx ry ⟨_, _, rfl, rfl, h⟩
theorem op_leM : OpR X (compareOp .LtE) (rCmpM (fun i j => decide (i ≤ j)) fun i j => !decide (j.cps.toList < i.cps.toList)) := by
  intro pins s σ H x y v u Q I rx ry h
  cases x <;> cases y <;> try exact (show False from h).elim
  · exact op_le pins s σ H _ _ v u Q I rx ry ⟨_, _, rfl, rfl, h⟩
  · exact op_le_str pins s σ H _ _ v u Q I rx ry ⟨_, _, rfl, rfl, h⟩
theorem op_gtM : OpR X (compareOp .Gt) (rCmpM (fun i j => decide (j < i)) fun i j => decide (j.cps.toList < i.cps.toList)) := by
  intro pins s σ H x y v u Q I rx ry h
  cases x <;> cases y <;> try exact (show False from h).elim
  · exact op_gt pins s σ H _ _ v u Q I rx ry ⟨_, _, rfl, rfl, h⟩
  · exact op_gt_str pins s σ H _ _ v u Q I rx ry ⟨_, _, rfl, rfl, h⟩
theorem op_geM : OpR X (compareOp .GtE) (rCmpM (fun i j => decide (j ≤ i)) fun i j => !decide (i.cps.toList < j.cps.toList)) := by
  intro pins s σ H x y v u Q I rx ry h
  cases x <;> cases y <;> try exact (show False from h).elim
  · exact op_ge pins s σ H _ _ v u Q I rx ry ⟨_, _, rfl, rfl, h⟩
  · exact op_ge_str pins s σ H _ _ v u Q I rx ry ⟨_, _, rfl, rfl, h⟩
theorem op_eqM (hu : X.A.units + 64 < cLine) : OpR X (compareOp .Eq) (fun x y H Q => rEq x y H Q ∨ rEqD X.K x y H Q) := op_eq.or (op_eqD hu)
theorem op_neM (hu : X.A.units + 64 < cLine) : OpR X (compareOp .NotEq) (fun x y H Q => rNe x y H Q ∨ rNeD X.K x y H Q) := op_ne.or (op_neD hu)
/-- x in a text, in a list or tuple of flat things -/
def rInM (K : PySem.W.Frag) (neg : Bool) : R2 := fun x y H Q => match y with
  | .str z => ∃ a, x = .str a ∧ Q (.bl (if neg then !(!(Builtin.Str.occurrences z a 0 z.length 1).isEmpty) else !(Builtin.Str.occurrences z a 0 z.length 1).isEmpty)) H
  | .ref _ => rIn K neg x y H Q
  | _ => False
theorem op_inM : OpR X (compareOp .In) (rInM X.K false) := by
  intro pins s σ H x y v u Q I rx ry h
  cases y <;> try exact (show False from h).elim
  · obtain ⟨a, rfl, q⟩ := h
    exact op_in_str pins s σ H _ _ v u Q I rx ry ⟨_, _, rfl, rfl, q⟩
  · exact op_in_seq pins s σ H _ _ v u Q I rx ry h
theorem op_ninM : OpR X (compareOp .NotIn) (rInM X.K true) := by
  intro pins s σ H x y v u Q I rx ry h
  cases y <;> try exact (show False from h).elim
  · obtain ⟨a, rfl, q⟩ := h
    exact op_notin_str pins s σ H _ _ v u Q I rx ry ⟨_, _, rfl, rfl, q⟩
  · exact op_notIn_seq pins s σ H _ _ v u Q I rx ry h
theorem ix_M : IxR X (rIx X.K) := ix_seq
def rSlM (K : PySem.W.Frag) : V → Option Int → Option Int → Hp → VK → Prop := fun x lo hi H Q => rSlL K x lo hi H Q ∨ rSlA K x lo hi H Q ∨ rSlS x lo hi H Q
theorem sl_M : SlR X (rSlM X.K) := sl_list.or (sl_tupA.or sl_str)
theorem set_M : PSet X rSetL := set_list
/-- list(x): of a list, a tuple, a text -/
def rListM (K : PySem.W.Frag) : List V → Hp → VK → Prop := fun xs H Q => (∃ p ys, xs = [.ref p] ∧ (SqL K H p ys ∨ SqT K H p ys) ∧ ∀ l, H l = none → Q (.ref l) (upd H l (.lst ys))) ∨
  ∃ z : Str, xs = [.str z] ∧ z.length ≤ sizeLine ∧ ∀ l, H l = none → Q (.ref l) (upd H l (.lst (z.cps.toList.map fun c => V.str ⟨#[c]⟩)))
end
end LK

set_option Elab.async false
set_option linter.all false
set_option maxRecDepth 100000
set_option maxHeartbeats 4000000
/-! a set comprehension of ints and texts; its length; list(text) -/
namespace LK
open PySem PySem.Spec PyProof.Rows L2
section
variable {X : Cx}
/-- a set's new state behind one key more -/
abbrev SetK' (P : Program) (w : World) (D : Addr) (S : Key → Bool) (n : Nat) (k : Key) : HO :=
  SetK P w D (fun j => S j || decide (j = k)) (if S k = true then n else n + 1)
/-- {elt for target in iter if ..}: D the new set -/
def tScK (P : Program) (w : World) (wi : TI) (g : TG) (tt : TT) (te : TE) (vs : List Nat) : TE := fun σ H Q => wi σ H fun J H1 => ∀ D, H1 D = none →
  ∃ W : Nat → Nat → Hp → Prop, (∃ m, W 0 m (upd H1 D (SetK P w D (fun _ => false) 0))) ∧ ∀ i m H, W i m H →
    (J.stop i H ∧ Q (.ref D) H) ∨ (J.go i H ∧ ∃ Nx : Hp → Prop, (∀ H', Nx H' → ∃ m', m' < m ∧ W (i + 1) m' H') ∧
      ∀ x H', J.yld i H x H' → g x (wipe σ vs) H' fun σ2 H2 => wipe σ2 vs = wipe σ vs ∧ tt σ2 H2 fun b H3 => if b = true
        then te σ2 H3 fun y H4 => ∃ (k : Key) (S : Key → Bool) (n : Nat), y = kV k ∧ H4 D = some (SetK P w D S n) ∧ n + 1 < scanBound ∧ Nx (upd H4 D (SetK' P w D S n k))
        else Nx H3)
theorem addK_ok {pins : List (Addr × Obj)} {σ : L2.St} {H : Hp} {s : Shared} {E : Value → Shared → Prop} {D : Addr} {S : Key → Bool} {n : Nat} {k : Key} {v : Value} {Q : Value → Shared → Prop}
    (I : Inv X pins σ H s) (r : RelV (kV k) v) (hD : H D = some (SetK X.prog X.w D S n)) (room : n + 1 < scanBound) (h : ∀ s', Inv X pins σ (upd H D (SetK' X.prog X.w D S n k)) s' → Q .none s') :
    wpAny (model X.prog X.w) X.A (call (.builtin "set.add") [.ref D, v]) Q E s :=
  call_set_add (kV_is r) (key_scan r) (setK_get I hD) room fun h' sb fresh => by
    obtain ⟨o, es, ep, t, ho, more⟩ := fresh
    exact h _ (I.write (e := D) (t' := s.toks + 1) (by rw [hD]; trivial) (.inl rfl) (fun b u hb hu => (sb.2 b hb).trans hu) ⟨o, ho⟩ (setK_new ⟨o, es, ep, t, ho, more⟩))
theorem setK_empty (P : Program) (w : World) (h : Heap) : (h.push { cls := .type "set", dict := none, data := .set #[] 0 (.fresh 0 0 (!w.params.followText "set-order")) }).SetOf (mixKind P w) h.objs.size (fun _ => false) 0 :=
  ⟨_, #[], 0, _, Heap.get?_push_size _ rfl, ⟨rfl, rfl, rfl⟩, rfl, (fun e he => by simp at he), (fun k => by simp), (by decide), (by rfl), rfl⟩
theorem pe_scK {elt tg iter : Expr} {ifs : List Expr} {scope : Scope} {own : List (Str × Nat)} {pos : Pos} {wi : TI} {g : TG} {tt : TT} {te : TE}
    (hc : X.calm = true) (hN : X.N.Nodup) (hi : PI X tg iter wi) (ok : BlkOk X.N X.env.scope scope own)
    (hg : ∀ (s : Shared) (H : Hp) (C : Addr) (cl : List (Str × Addr)) (fp : List Addr), PG (X.blk s H scope (compEnvC scope cl C X.env) fp) tg g)
    (ht : ∀ (s : Shared) (H : Hp) (C : Addr) (cl : List (Str × Addr)) (fp : List Addr), PTs (X.blk s H scope (compEnvC scope cl C X.env) fp) ifs tt)
    (he : ∀ (s : Shared) (H : Hp) (C : Addr) (cl : List (Str × Addr)) (fp : List Addr), PE (X.blk s H scope (compEnvC scope cl C X.env) fp) elt te)
    (hs : ∀ x, foldedSetIterable iter X.env x = pure x := by intro _; rfl) : PE X (.SetComp elt [⟨tg, iter, ifs, 0⟩] scope pos) (tScK X.prog X.w wi g tt te (own.map (·.2))) := by
  refine ⟨fun pins s σ H Q I h => ?_⟩
  rw [PpSet.eval_SetComp]
  have cells : ∀ y ∈ scope.names, y.2 = .free → ∃ c, X.env.cells.lookup y.1 = some c := fun y hy e => (ok.free y hy e).elim (fun k => I.ok.has _ (.inl k)) fun k => I.ok.has _ (.inr k)
  refine wpAny_comprehension_free (use := none) rfl hs (closure_ok cells) ok.kind (fun y hy e => by rw [ok.uniq y hy, e]) ?_
  refine thn (hi.run pins s σ H _ I h) fun xv s1 hx => thn hx fun itv s2 h2 => ?_
  obtain ⟨it, fp, tn, J, Ha, rfl, Ia, T, sta, fa, q⟩ := h2
  refine PpSet.newSet_ok (newEnv_comp ?_)
  obtain ⟨D, hD⟩ : ∃ D, D = s2.heap.objs.size := ⟨_, rfl⟩
  obtain ⟨W, ⟨m0, w0⟩, turn⟩ := q D (Ia.hok.fresh (Nat.le_of_eq hD.symm))
  rw [← hD]
  -- the set is laid
  obtain ⟨sb, hsb⟩ : ∃ sb : Shared, sb = { s2 with heap := s2.heap.push { cls := .type "set", dict := none, data := .set #[] 0 (.fresh 0 0 (!X.w.params.followText "set-order")) } } := ⟨_, rfl⟩
  obtain ⟨Hb, hHb⟩ : ∃ Hb : Hp, Hb = upd Ha D (SetK X.prog X.w D (fun _ => false) 0) := ⟨_, rfl⟩
  have hpb : sb.heap = s2.heap.push { cls := .type "set", dict := none, data := .set #[] 0 (.fresh 0 0 (!X.w.params.followText "set-order")) } := by rw [hsb]
  have kb : ∀ b o, s2.heap.get? b = some o → sb.heap.get? b = some o := fun b o e => by
    rw [hpb]; exact Heap.get?_push_of_some _ e
  have Ib : Inv X pins σ Hb sb := by
    rw [hsb, hHb]
    refine Ia.laid (t' := s2.toks) (fun b o e => Heap.get?_push_of_some _ e) (Nat.le_of_eq hD.symm) ?_
    rw [hD]
    exact setK_new (setK_empty X.prog X.w s2.heap)
  have fb : ∀ b ∈ fp, FpOk X pins Hb b ∧ b < sb.heap.objs.size := fun b hb => by
    obtain ⟨o, e, _⟩ := T.obj _ _ sta b hb
    have lt := Heap.lt_size e
    refine ⟨⟨?_, (fa b hb).2⟩, by rw [hpb, Heap.size_push]; exact Nat.lt_succ_of_lt lt⟩
    rw [hHb, upd_ne (by rw [hD]; exact Nat.ne_of_lt lt)]
    exact (fa b hb).1
  have stb : tn 0 sb.heap := T.keep _ _ _ sta fun b _ o e => kb b o e
  have Ic := block_start Ib ok hN fb
  have nb : ∀ b ∈ fp, Hb b = none := fun b hb => (fb b hb).1.1
  rw [← hHb] at w0
  rw [← hsb]
  show codeAny _ _ (.compStart (.SetComp elt [⟨tg, iter, ifs, 0⟩] scope pos) 0 (.ref it) (.ref D) (compEnvC scope (cellsFrom (sb.heap.objs.size + 1) scope.names (cloFrom X.env.cells scope.names [])) sb.heap.objs.size X.env)) (compPost (model X.prog X.w) X.A X.xe none _ (.ref D) sb.heap.objs.size) { sb with heap := pushCells (sb.heap.push { cls := .type "dict", data := .dict #[] }) scope.names }
  obtain ⟨ce, hce⟩ : ∃ ce, ce = compEnvC scope (cellsFrom (sb.heap.objs.size + 1) scope.names (cloFrom X.env.cells scope.names [])) sb.heap.objs.size X.env := ⟨_, rfl⟩
  have pg : PG (X.blk sb Hb scope ce fp) tg g := by rw [hce]; exact hg _ _ _ _ _
  have pt : PTs (X.blk sb Hb scope ce fp) ifs tt := by rw [hce]; exact ht _ _ _ _ _
  have pe : PE (X.blk sb Hb scope ce fp) elt te := by rw [hce]; exact he _ _ _ _ _
  have cL : ce.locals = sb.heap.objs.size := by rw [hce]; rfl
  rw [← hce] at Ic ⊢
  obtain ⟨sc, hsc⟩ : ∃ sc : Shared, sc = { sb with heap := pushCells (sb.heap.push { cls := .type "dict", data := .dict #[] }) scope.names } := ⟨_, rfl⟩
  rw [← hsc] at Ic ⊢
  have stc : tn 0 sc.heap := T.keep _ _ _ stb fun b _ o e => by
    rw [hsc]; exact pushCells_keeps _ _ _ _ (Heap.get?_push_of_some _ e)
  have stat : ∀ {σ' : L2.St} {H' : Hp} {s' : Shared}, Inv (X.blk sb Hb scope ce fp) [] σ' H' s' → (∀ b ∈ fp, H' b = none) → ∀ b ∈ fp, FpOk (X.blk sb Hb scope ce fp) [] H' b := fun {σ' H' s'} J' hn b hb =>
    ⟨hn b hb, (J'.ok.exf b hb).1, J'.ok.exfs b hb, .inl hb, fun x c e => (J'.ok.exf b hb).2 x c e, fun p hp => by cases hp⟩
  have loop : codeAny (model X.prog X.w) X.A (.compLoop (.SetComp elt [⟨tg, iter, ifs, 0⟩] scope pos) 0 (.ref it) (.ref D) ce) (compPost (model X.prog X.w) X.A X.xe none (EP X pins σ Q) (.ref D) sb.heap.objs.size) sc := by
    refine PpSet.compLoopS_any (fun n s' => ∃ i H', Inv (X.blk sb Hb scope ce fp) [] (wipe σ (own.map (·.2))) H' s' ∧ tn i s'.heap ∧ (∀ b ∈ fp, H' b = none) ∧ W i n H') ?_ m0 ⟨0, Hb, Ic, stc, nb, w0⟩
    rintro n s5 ⟨i, H5, I5, st5, n5, w5⟩
    rcases turn i n H5 w5 with ⟨halt, qq⟩ | ⟨go, Nx, hNx, step⟩
    · refine thnF (T.done (X.blk sb Hb scope ce fp) rfl rfl rfl hc i [] s5 _ H5 (fun _ _ => False) I5 (stat I5 n5) st5 halt) fun r s6 hr6 => ?_
      obtain ⟨rfl, I6⟩ := hr6
      have I7 : Inv X pins σ H5 s6 := Ib.call' (ch := fp) I6.os I6.base I6.hok I6.bare fun b hb => by
        obtain ⟨⟨_, f2, f3, f4, f5, f6⟩, _⟩ := fb b hb
        exact ⟨f4, f2, f5, f6⟩
      have nC : H5 sb.heap.objs.size = none := by
        have z : H5 ce.locals = none := I6.free
        rwa [cL] at z
      obtain ⟨mm, hmm, _⟩ := I6.loc
      have hmm : s6.heap.Ns ce.locals mm := hmm
      rw [cL] at hmm
      obtain ⟨f0, f1, f2, f3, f4, f5⟩ := Ib.fpOk (Nat.le_refl _) nC
      exact ⟨mm, hmm, fun h'' keep => ⟨.ref D, H5, I7.turned (t' := s6.toks) (fun b o hb e => (keep.2 b hb).trans e) f0 f1 f3 f4 f5, rfl, qq⟩⟩
    · refine thnF (T.item (X.blk sb Hb scope ce fp) rfl rfl rfl hc i [] s5 _ H5 (fun _ _ => False) I5 (stat I5 n5) st5 go) fun r s6 h6 => ?_
      obtain ⟨u, rfl, h6⟩ := h6
      refine thnF h6 fun _ s7 h7 => ?_
      obtain ⟨x, H7, I7, r7, y7, st7, n7⟩ := h7
      refine thnF (pg.run _ s7 _ H7 x u _ (I7.pinned (stat I7 n7) (T.obj _ _ st7)) r7 (step x H7 y7)) fun _ s8 h8 => ?_
      obtain ⟨σ8, H8, I8, hw8, q8⟩ := h8
      refine thnF (pt.run _ s8 σ8 H8 _ I8 q8) fun b s9 h9 => ?_
      obtain ⟨H9, I9, q9⟩ := h9
      have back : ∀ {s' : Shared} {H' : Hp}, Inv (X.blk sb Hb scope ce fp) ([] ++ pinsAt fp s7.heap) σ8 H' s' → Nx H' →
          ∃ m, m < n ∧ ∃ i H', Inv (X.blk sb Hb scope ce fp) [] (wipe σ (own.map (·.2))) H' s' ∧ tn i s'.heap ∧ (∀ b ∈ fp, H' b = none) ∧ W i m H' := fun {s' H'} J' nx => by
        obtain ⟨m', hm, w'⟩ := hNx H' nx
        have still : ∀ b ∈ fp, ∀ o, s7.heap.get? b = some o → s'.heap.get? b = some o ∧ H' b = none := fun b hb o e => by
          have z := J'.pin (b, o) (List.mem_append_right _ (List.mem_append_right _ (mem_pinsAt hb e)))
          exact ⟨z.1, z.2.1⟩
        refine ⟨m', hm, i + 1, H', (J'.unpinned (pins := [])).weak (by rw [← hw8, wipe_length]) (fun j v e => ?_), T.keep _ _ _ st7 fun b hb o e => (still b hb o e).1, fun b hb => ?_, w'⟩
        · rw [← hw8] at e
          exact (wipe_some e).1
        · obtain ⟨o, e, _⟩ := T.obj _ _ st7 b hb
          exact (still b hb o e).2
      cases b with
      | false => exact back I9 q9
      | true =>
        refine thnF (pe.run _ s9 σ8 H9 _ I9 q9) fun z s10 h10 => ?_
        obtain ⟨yv, H10, I10, r10, key, S0, n0, rfl, hD10, hz10, nx⟩ := h10
        exact addK_ok (X := X.blk sb Hb scope ce fp) I10 r10 hD10 hz10 fun s11 I11 => back I11 nx
  exact PpSet.codeAny_compStart_set loop (T.self X.A 0 _ _ _ stc loop)
/-- len of a set of keys -/
def rLenK (P : Program) (w : World) : List V → Hp → VK → Prop := fun xs H Q => ∃ (a : Addr) (S : Key → Bool) (n : Nat), xs = [.ref a] ∧ H a = some (SetK P w a S n) ∧ Q (.int n) H
theorem call_lenK : CallR X (.builtin "len") (rLenK X.prog X.w) := by
  intro pins s σ H xs us Q I r h
  obtain ⟨a, S, n, rfl, ha, q⟩ := h
  obtain ⟨u, rfl, rx⟩ := vals1 r
  cases rx
  obtain ⟨o, es, ep, t, ho, hex, hd, _, _, hb, hf, hn⟩ := setK_get I ha
  have hb' : es.size < 4096 := hb
  exact call_len_set ho hex hd hf (by omega) ⟨.int n, H, I.tok _, ⟨_, by rw [← hn]⟩, q⟩
theorem signs_vals {z : Str} {acc : Array Value} (h : ItemsOf (SignAt z) acc z.cps.size) : Vals (z.cps.toList.map fun c => V.str ⟨#[c]⟩) acc.toList := by
  obtain ⟨hs, hp⟩ := h
  have key : ∀ (l : List Nat) (us : List Value), l.length = us.length → (∀ (j : Nat) (u : Value), us[j]? = some u → ∃ (c : Nat) (t : Tok), l[j]? = some c ∧ u = Value.str ⟨#[c]⟩ t) → Vals (l.map fun c => V.str ⟨#[c]⟩) us := by
    intro l
    induction l with
    | nil =>
      intro us hl _
      cases us with
      | nil => exact .nil
      | cons _ _ => simp at hl
    | cons c l ih =>
      intro us hl hu
      cases us with
      | nil => simp at hl
      | cons u us =>
        obtain ⟨c', t, e1, e2⟩ := hu 0 u rfl
        have e1' : c = c' := by simpa using e1
        subst e1'
        exact .cons ⟨t, e2⟩ (ih us (by simpa using hl) fun j v e => by simpa using hu (j + 1) v (by simpa using e))
  refine key _ _ (by simp [hs]) fun j u e => ?_
  obtain ⟨c, t, e1, e2⟩ := hp j u (by simpa using e)
  exact ⟨c, t, by simpa using e1, e2⟩
theorem call_listM (hc : X.calm = true) : CallR X (.type "list") (rListM X.K) := by
  intro pins s σ H xs us Q I r h
  rcases h with ⟨p, ys, rfl, hq, q⟩ | ⟨z, rfl, hz, q⟩
  · exact call_list_of pins s σ H _ us Q I r ⟨p, ys, rfl, hq, q⟩
  · obtain ⟨u, rfl, t, rfl⟩ := vals1 r
    have hlen : z.cps.size ≤ sizeLine := hz
    refine call_list_str (I.ok.hd hc) z t (fun h' tk acc c' keep hget items => ?_) hlen
    have rv := signs_vals items
    refine ⟨.ref s.heap.objs.size, _, I.laid (t' := tk) (o := .lst (z.cps.toList.map fun c => V.str ⟨#[c]⟩)) keep (Nat.le_refl _) ⟨?_, acc.toList, c', rv, ?_⟩, rfl, q _ (I.hok.fresh (Nat.le_refl _))⟩
    · rw [List.length_map, Array.length_toList]; exact hlen
    · exact hget
end
end LK

set_option Elab.async false
set_option linter.all false
set_option maxRecDepth 100000
set_option maxHeartbeats 4000000
/-! pure walks: what a comprehension makes where its turns leave what stands -/
namespace LK
open PySem PySem.Spec PyProof.Rows L2
theorem Same.new {H : Hp} {p : Addr} {o : HO} (h : H p = none) : Same H (upd H p o) := fun b u e => by
  rw [upd_ne (ne_of_none e h)]
  exact e
theorem Same.mut {H H' : Hp} {p : Addr} {o : HO} (e : Same H H') (h : H p = none) : Same H (upd H' p o) := fun b u hb => by
  rw [upd_ne (ne_of_none hb h)]
  exact e b u hb
theorem Same.seqT {K : PySem.W.Frag} {H H' : Hp} {a : Addr} {xs : List V} (e : Same H H') (h : SqT K H a xs) : SqT K H' a xs := by
  rcases h with (h | ⟨o, h⟩) | h
  · exact .inl (.inl (e _ _ h))
  · exact .inl (.inr ⟨o, e _ _ h⟩)
  · exact .inr h
mutual
theorem dp_same {K : PySem.W.Frag} {H H' : Hp} (e : Same H H') : ∀ {v : V} {d : PyData}, Dp K H v d → Dp K H' v d
  | _, _, .non => .non
  | _, _, .bl b => .bl b
  | _, _, .int i => .int i
  | _, _, .str x => .str x
  | _, _, .lst h r => .lst (e.seq h) (dpAll_same e r)
  | _, _, .tup h r => .tup (Same.seqT e h) (dpAll_same e r)
theorem dpAll_same {K : PySem.W.Frag} {H H' : Hp} (e : Same H H') : ∀ {vs : List V} {ds : List PyData}, DpAll K H vs ds → DpAll K H' vs ds
  | _, _, .nil => .nil
  | _, _, .cons a r => .cons (dp_same e a) (dpAll_same e r)
end
/-- texts as data -/
theorem dp_strs {K : PySem.W.Frag} {H : Hp} : ∀ (l : List Str), DpAll K H (l.map V.str) (l.map PyData.str)
  | [] => .nil
  | x :: l => .cons (.str x) (dp_strs l)
theorem dp_ints {K : PySem.W.Frag} {H : Hp} : ∀ (l : List Int), DpAll K H (l.map V.int) (l.map PyData.int)
  | [] => .nil
  | x :: l => .cons (.int x) (dp_ints l)

section
variable {J : It} {n : Nat} {G : Hp → Prop} {Y : Nat → Hp → V → Hp → Prop}
/-- a comprehension whose turns only lay new things: f i is what turn i gives, or none; the turn is shown for any wish -/
theorem lc_map (w : Walk J n G Y) {g : TG} {tt : TT} {te : TE} {vs : List Nat} {σ : L2.St} {H1 : Hp} {D : Addr} {Qd : Hp → Prop} (f : Nat → Option V)
    (hD : H1 D = none) (hn : n ≤ sizeLine) (hm : ∀ H, Same H1 H → G H)
    (hs : ∀ i x H H', i < n → Same H1 H → Y i H x H' → ∀ (Ry : V → Hp → Prop) (Rn : Hp → Prop), (∀ y H4, Same H H4 → f i = some y → Ry y H4) → (∀ H3, Same H H3 → f i = none → Rn H3) →
      g x (wipe σ vs) H' fun σ2 H2 => wipe σ2 vs = wipe σ vs ∧ tt σ2 H2 fun b H3 => if b = true then te σ2 H3 Ry else Rn H3)
    (hd : ∀ H, Same H1 H → H D = some (.lst ((List.range n).filterMap f)) → Qd H) :
    ∃ W : Nat → Nat → Hp → Prop, (∃ m, W 0 m (upd H1 D (.lst []))) ∧ ∀ i m H, W i m H →
      (J.stop i H ∧ Qd H) ∨ (J.go i H ∧ ∃ Nx : Hp → Prop, (∀ H', Nx H' → ∃ m', m' < m ∧ W (i + 1) m' H') ∧ ∀ x H', J.yld i H x H' → g x (wipe σ vs) H' fun σ2 H2 => wipe σ2 vs = wipe σ vs ∧ tt σ2 H2 fun b H3 =>
        if b = true then te σ2 H3 fun y H4 => ∃ acc, H4 D = some (.lst acc) ∧ acc.length < sizeLine ∧ Nx (upd H4 D (.lst (acc ++ [y]))) else Nx H3) := by
  refine lc_it w (fun i H => i ≤ n ∧ Same H1 H ∧ H D = some (.lst ((List.range i).filterMap f))) ⟨Nat.zero_le _, Same.new hD, upd_same⟩ (fun i H _ h => hm H h.2.1) (fun i x H H' hi h y => ?_) fun H h => hd H h.2.1 h.2.2
  obtain ⟨_, e, hDl⟩ := h
  have hr : List.range (i + 1) = List.range i ++ [i] := List.range_succ
  refine hs i x H H' hi e y _ _ (fun v H4 e4 ef => ?_) fun H3 e4 ef => ?_
  · refine ⟨_, e4 D _ hDl, ?_, hi, Same.mut (e.trans e4) hD, ?_⟩
    · have : ((List.range i).filterMap f).length ≤ (List.range i).length := List.length_filterMap_le ..
      rw [List.length_range] at this
      omega
    · rw [upd_same, hr, List.filterMap_append]
      simp [ef]
  · refine ⟨hi, e.trans e4, ?_⟩
    rw [e4 D _ hDl, hr, List.filterMap_append]
    simp [ef]
/-- all but D stands as it stood -/
def But (D : Addr) (H H' : Hp) : Prop := ∀ b o, b ≠ D → H b = some o → H' b = some o
theorem But.refl (D : Addr) (H : Hp) : But D H H := fun _ _ _ h => h
theorem But.same {D : Addr} {H H' H'' : Hp} (a : But D H H') (b : Same H' H'') : But D H H'' := fun c o n h => b c o (a c o n h)
theorem But.mut {D : Addr} {H H' : Hp} {o : HO} (a : But D H H') : But D H (upd H' D o) := fun c u n h => by
  rw [upd_ne n]
  exact a c u n h
/-- the inner walk of two clauses, at H4 -/
def Inner (H1 : Hp) (D : Addr) (fi : List V) (g1 : TG) (tt1 : TT) (te : TE) (vs1 : List Nat) (σ2 : L2.St) (J1 : It) (H4 : Hp) : Prop :=
  ∃ (n1 : Nat) (G1 : Hp → Prop) (Y1 : Nat → Hp → V → Hp → Prop) (f1 : Nat → Option V), Walk J1 n1 G1 Y1 ∧ (∀ H', Same H1 H' → But D H4 H' → G1 H') ∧ fi = (List.range n1).filterMap f1 ∧
    ∀ j x H5 H5', j < n1 → Same H1 H5 → But D H4 H5 → Y1 j H5 x H5' → ∀ (Ry : V → Hp → Prop) (Rn : Hp → Prop), (∀ y H8, Same H5 H8 → f1 j = some y → Ry y H8) → (∀ H7, Same H5 H7 → f1 j = none → Rn H7) →
      g1 x (wipe σ2 vs1) H5' fun σ3 H6 => wipe σ3 vs1 = wipe σ2 vs1 ∧ tt1 σ3 H6 fun b H7 => if b = true then te σ3 H7 Ry else Rn H7
/-- two clauses: f i is the list that turn i of the outer walk gives -/
theorem lc2_map (w : Walk J n G Y) {g g1 : TG} {tt tt1 : TT} {wi1 : TI} {te : TE} {vs vs1 : List Nat} {σ : L2.St} {H1 : Hp} {D : Addr} {Qd : Hp → Prop} (f : Nat → List V)
    (hD : H1 D = none) (hm : ∀ H, Same H1 H → G H) (hf : ((List.range n).flatMap f).length ≤ sizeLine)
    (hs : ∀ i x H H', i < n → Same H1 H → Y i H x H' → ∀ (RI : L2.St → It → Hp → Prop) (Rn : Hp → Prop), (∀ σ2 J1 H4, Same H H4 → Inner H1 D (f i) g1 tt1 te vs1 σ2 J1 H4 → RI σ2 J1 H4) → (∀ H3, Same H H3 → f i = [] → Rn H3) →
      g x (wipe σ vs) H' fun σ2 H2 => wipe σ2 vs = wipe σ vs ∧ tt σ2 H2 fun b H3 => if b = true then wi1 σ2 H3 (RI σ2) else Rn H3)
    (hd : ∀ H, Same H1 H → H D = some (.lst ((List.range n).flatMap f)) → Qd H) :
    ∃ W : Nat → Nat → Hp → Prop, (∃ m, W 0 m (upd H1 D (.lst []))) ∧ ∀ i m H, W i m H →
      (J.stop i H ∧ Qd H) ∨ (J.go i H ∧ ∃ Nx : Hp → Prop, (∀ H', Nx H' → ∃ m', m' < m ∧ W (i + 1) m' H') ∧ ∀ x H', J.yld i H x H' → g x (wipe σ vs) H' fun σ2 H2 => wipe σ2 vs = wipe σ vs ∧ tt σ2 H2 fun b H3 =>
        if b = true then wi1 σ2 H3 fun J1 H4 => ∃ W1 : Nat → Nat → Hp → Prop, (∃ m, W1 0 m H4) ∧ ∀ j k H, W1 j k H →
          (J1.stop j H ∧ Nx H) ∨ (J1.go j H ∧ ∃ Nx1 : Hp → Prop, (∀ H', Nx1 H' → ∃ k', k' < k ∧ W1 (j + 1) k' H') ∧ ∀ x H', J1.yld j H x H' → g1 x (wipe σ2 vs1) H' fun σ3 H5 => wipe σ3 vs1 = wipe σ2 vs1 ∧ tt1 σ3 H5 fun b H6 =>
            if b = true then te σ3 H6 fun y H7 => ∃ acc, H7 D = some (.lst acc) ∧ acc.length < sizeLine ∧ Nx1 (upd H7 D (.lst (acc ++ [y]))) else Nx1 H6)
        else Nx H3) := by
  have sz : ∀ i, i < n → ((List.range i).flatMap f).length + (f i).length ≤ sizeLine := fun i hi => by
    refine Nat.le_trans ?_ hf
    have h1 : List.range n = List.range (i + 1) ++ (List.range (n - (i + 1))).map (fun k => (i + 1) + k) := by
      rw [← List.range_add]
      congr 1
      omega
    rw [h1, List.range_succ, List.flatMap_append, List.flatMap_append, List.length_append, List.length_append, List.flatMap_singleton]
    omega
  refine ⟨fun i m H => m = n - i ∧ i ≤ n ∧ Same H1 H ∧ H D = some (.lst ((List.range i).flatMap f)), ⟨n, by simp, Nat.zero_le _, Same.new hD, upd_same⟩, ?_⟩
  rintro i m H ⟨rfl, hi, e, hDl⟩
  by_cases hlt : i < n
  · have hr : List.range (i + 1) = List.range i ++ [i] := List.range_succ
    refine .inr ⟨w.goes i H hlt (hm H e), fun H' => Same H1 H' ∧ H' D = some (.lst ((List.range (i + 1)).flatMap f)), fun H' p => ⟨n - (i + 1), by omega, rfl, hlt, p⟩, fun x H' y => ?_⟩
    refine hs i x H H' hlt e (w.yields i H x H' hlt (hm H e) y) (fun σ2 J1 H4 => ∃ W1 : Nat → Nat → Hp → Prop, (∃ m, W1 0 m H4) ∧ ∀ j k H, W1 j k H →
          (J1.stop j H ∧ (Same H1 H ∧ H D = some (.lst ((List.range (i + 1)).flatMap f)))) ∨ (J1.go j H ∧ ∃ Nx1 : Hp → Prop, (∀ H', Nx1 H' → ∃ k', k' < k ∧ W1 (j + 1) k' H') ∧ ∀ x H', J1.yld j H x H' → g1 x (wipe σ2 vs1) H' fun σ3 H5 => wipe σ3 vs1 = wipe σ2 vs1 ∧ tt1 σ3 H5 fun b H6 =>
            if b = true then te σ3 H6 fun y H7 => ∃ acc, H7 D = some (.lst acc) ∧ acc.length < sizeLine ∧ Nx1 (upd H7 D (.lst (acc ++ [y]))) else Nx1 H6)) _ (fun σ2 J1 H4 e4 inn => ?_) fun H3 e3 ef => ?_
    · obtain ⟨n1, G1, Y1, f1, w1, hm1, ef, hs1⟩ := inn
      have hD4 : H4 D = some (.lst ((List.range i).flatMap f)) := e4 D _ hDl
      have hz := sz i hlt
      rw [ef] at hz
      refine ⟨fun j k H => k = n1 - j ∧ j ≤ n1 ∧ But D H4 H ∧ Same H1 H ∧ H D = some (.lst ((List.range i).flatMap f ++ (List.range j).filterMap f1)),
        ⟨n1, by simp, Nat.zero_le _, But.refl _ _, e.trans e4, by simpa using hD4⟩, ?_⟩
      rintro j k H5 ⟨rfl, hj, b5, s5, d5⟩
      by_cases hjl : j < n1
      · have hr1 : List.range (j + 1) = List.range j ++ [j] := List.range_succ
        refine .inr ⟨w1.goes j H5 hjl (hm1 H5 s5 b5), fun H' => But D H4 H' ∧ Same H1 H' ∧ H' D = some (.lst ((List.range i).flatMap f ++ (List.range (j + 1)).filterMap f1)), fun H' p => ⟨n1 - (j + 1), by omega, rfl, hjl, p⟩, fun x1 H5' y1 => ?_⟩
        refine hs1 j x1 H5 H5' hjl s5 b5 (w1.yields j H5 x1 H5' hjl (hm1 H5 s5 b5) y1) _ _ (fun v H8 e8 e9 => ?_) fun H7 e7 e8 => ?_
        · refine ⟨_, e8 D _ d5, ?_, (b5.same e8).mut, Same.mut (s5.trans e8) hD, ?_⟩
          · have h1 : ((List.range j).filterMap f1 ++ [v]).length ≤ ((List.range n1).filterMap f1).length := by
              have h2 : List.range n1 = List.range (j + 1) ++ (List.range (n1 - (j + 1))).map (fun k => (j + 1) + k) := by
                rw [← List.range_add]
                congr 1
                omega
              rw [h2, hr1, List.filterMap_append, List.filterMap_append, List.length_append, List.length_append, List.length_append]
              simp [e9]
            rw [List.length_append] at h1 ⊢
            have h3 : [v].length = 1 := rfl
            omega
          · rw [upd_same, hr1, List.filterMap_append]
            simp [e9]
        · refine ⟨b5.same e7, s5.trans e7, ?_⟩
          rw [e7 D _ d5, hr1, List.filterMap_append]
          simp [e8]
      · have en : j = n1 := by omega
        subst en
        refine .inl ⟨w1.stops H5 (hm1 H5 s5 b5), s5, ?_⟩
        rw [d5, hr, List.flatMap_append, List.flatMap_singleton, ef]
    · refine ⟨e.trans e3, ?_⟩
      rw [e3 D _ hDl, hr, List.flatMap_append, List.flatMap_singleton, ef, List.append_nil]
  · have en : i = n := by omega
    subst en
    exact .inl ⟨w.stops H (hm H e), hd H e hDl⟩
/-- a comprehension of a set of keys; f i: the key of turn i, unlike ones give its size -/
theorem sc_map {P : Program} {wd : World} (w : Walk J n G Y) {g : TG} {tt : TT} {te : TE} {vs : List Nat} {σ : L2.St} {H1 : Hp} {D : Addr} {Qd : Hp → Prop} (f : Nat → Key)
    (hD : H1 D = none) (hn : n + 1 < scanBound) (hm : ∀ H, Same H1 H → G H) (hu : ∀ i j, i < n → j < i → f j ≠ f i)
    (hs : ∀ i x H H', i < n → Same H1 H → Y i H x H' → ∀ (Ry : V → Hp → Prop) (Rn : Hp → Prop), (∀ H4, Same H H4 → Ry (kV (f i)) H4) →
      g x (wipe σ vs) H' fun σ2 H2 => wipe σ2 vs = wipe σ vs ∧ tt σ2 H2 fun b H3 => if b = true then te σ2 H3 Ry else Rn H3)
    (hd : ∀ H S, Same H1 H → H D = some (SetK P wd D S n) → Qd H) :
    ∃ W : Nat → Nat → Hp → Prop, (∃ m, W 0 m (upd H1 D (SetK P wd D (fun _ => false) 0))) ∧ ∀ i m H, W i m H →
      (J.stop i H ∧ Qd H) ∨ (J.go i H ∧ ∃ Nx : Hp → Prop, (∀ H', Nx H' → ∃ m', m' < m ∧ W (i + 1) m' H') ∧ ∀ x H', J.yld i H x H' → g x (wipe σ vs) H' fun σ2 H2 => wipe σ2 vs = wipe σ vs ∧ tt σ2 H2 fun b H3 =>
        if b = true then te σ2 H3 fun y H4 => ∃ (k : Key) (S : Key → Bool) (n : Nat), y = kV k ∧ H4 D = some (SetK P wd D S n) ∧ n + 1 < scanBound ∧ Nx (upd H4 D (SetK' P wd D S n k)) else Nx H3) := by
  refine ⟨fun i m H => m = n - i ∧ i ≤ n ∧ Same H1 H ∧ H D = some (SetK P wd D (fun k => decide (∃ j, j < i ∧ f j = k)) i), ⟨n, by simp, Nat.zero_le _, Same.new hD, ?_⟩, ?_⟩
  · rw [upd_same]
    simp
  rintro i m H ⟨rfl, hi, e, hDl⟩
  by_cases hlt : i < n
  · refine .inr ⟨w.goes i H hlt (hm H e), fun H' => Same H1 H' ∧ H' D = some (SetK P wd D (fun k => decide (∃ j, j < i + 1 ∧ f j = k)) (i + 1)), fun H' p => ⟨n - (i + 1), by omega, rfl, hlt, p⟩, fun x H' y => ?_⟩
    refine hs i x H H' hlt e (w.yields i H x H' hlt (hm H e) y) _ _ fun H4 e4 => ?_
    refine ⟨f i, _, i, rfl, e4 D _ hDl, by omega, Same.mut (e.trans e4) hD, ?_⟩
    rw [upd_same]
    have hno : ¬ ∃ j, j < i ∧ f j = f i := fun ⟨j, hj, ej⟩ => hu i j hlt hj ej
    unfold SetK'
    rw [if_neg (by simpa using hno)]
    congr 2
    funext k
    rw [Bool.eq_iff_iff, Bool.or_eq_true, decide_eq_true_eq, decide_eq_true_eq, decide_eq_true_eq]
    constructor
    · rintro (⟨j, hj, ej⟩ | rfl)
      · exact ⟨j, by omega, ej⟩
      · exact ⟨i, by omega, rfl⟩
    · rintro ⟨j, hj, ej⟩
      by_cases hji : j = i
      · subst hji
        exact .inr ej.symm
      · exact .inl ⟨j, by omega, ej⟩
  · have en : i = n := by omega
    subst en
    exact .inl ⟨w.stops H (hm H e), hd H _ e hDl⟩
end
/-! ranges that read a list -/
theorem range_getD {α : Type} (d : α) (xs : List α) : (List.range xs.length).map (fun i => xs.getD i d) = xs := by
  refine List.ext_getElem (by simp) fun i h1 h2 => ?_
  simp [List.getD_eq_getElem?_getD, h2]
theorem range_fm {α β : Type} (d : α) (xs : List α) (f : α → Option β) : (List.range xs.length).filterMap (fun i => f (xs.getD i d)) = xs.filterMap f := by
  conv => rhs; rw [← range_getD d xs]
  rw [List.filterMap_map]
  rfl
theorem range_flat {α β : Type} (d : α) (xs : List α) (f : α → List β) : (List.range xs.length).flatMap (fun i => f (xs.getD i d)) = xs.flatMap f := by
  conv => rhs; rw [← range_getD d xs]
  rw [List.flatMap_map]
theorem getD_of {α : Type} {d x : α} {xs : List α} {i : Nat} (h : xs[i]? = some x) : xs.getD i d = x := by
  rw [List.getD_eq_getElem?_getD, h]
  rfl
theorem vals_rev : ∀ {vs : List V} {us : List Value}, Vals vs us → Vals vs.reverse us.reverse
  | _, _, .nil => .nil
  | _, _, .cons r t => by
    rw [List.reverse_cons, List.reverse_cons]
    exact (vals_rev t).append (.cons r .nil)
theorem erase_map {α β : Type} (f : α → β) : ∀ (l : List α) (i : Nat), (l.map f).eraseIdx i = (l.eraseIdx i).map f
  | [], _ => rfl
  | _ :: _, 0 => rfl
  | a :: l, i + 1 => by
    show f a :: (l.map f).eraseIdx i = f a :: (l.eraseIdx i).map f
    rw [erase_map f l i]
theorem erase_perm {α : Type} : ∀ (l : List α) (i : Nat) (h : i < l.length), (l[i] :: l.eraseIdx i).Perm l
  | a :: l, 0, _ => List.Perm.refl _
  | a :: l, i + 1, h => by
    have ih := erase_perm l i (by simpa using h)
    exact (List.Perm.swap ..).trans (List.Perm.cons a ih)
theorem sum_ones : ∀ n : Nat, (List.replicate n 1).sum = n
  | 0 => rfl
  | n + 1 => by rw [List.replicate_succ, List.sum_cons, sum_ones n, Nat.add_comm]
/-- texts put together with nothing between -/
theorem join_nosep (ys : List Str) : (Txt.join (Str.ofString "") ys).cps.toList = ys.flatMap fun y => y.cps.toList := by
  have e0 : (Str.ofString "").cps = #[] := by decide +kernel
  have key : ∀ (l : List Str) (acc : Array Nat), (l.foldl (fun acc p => acc ++ (Str.ofString "").cps ++ p.cps) acc).toList = acc.toList ++ l.flatMap fun y => y.cps.toList := by
    intro l
    induction l with
    | nil => intro acc; simp
    | cons y l ih =>
      intro acc
      rw [List.foldl_cons, ih, e0]
      simp
  cases ys with
  | nil => rfl
  | cons y l =>
    show (l.foldl (fun acc p => acc ++ (Str.ofString "").cps ++ p.cps) y.cps).toList = _
    rw [key, List.flatMap_cons]
theorem at4 {a b c d : V} {i : Int} (h0 : 0 ≤ i) (h1 : i < 4) : ∃ v, atI [a, b, c, d] i = some v ∧ (v = a ∨ v = b ∨ v = c ∨ v = d) := by
  rcases (by omega : i = 0 ∨ i = 1 ∨ i = 2 ∨ i = 3) with rfl | rfl | rfl | rfl
  · exact ⟨a, rfl, .inl rfl⟩
  · exact ⟨b, rfl, .inr (.inl rfl)⟩
  · exact ⟨c, rfl, .inr (.inr (.inl rfl))⟩
  · exact ⟨d, rfl, .inr (.inr (.inr rfl))⟩
/-! what is walked, by what the value is -/
def iAny (K : PySem.W.Frag) (te : TE) : TI := fun σ H R => te σ H fun x H1 => match x with
  | .ref a => ((∃ xs, SqL K H1 a xs) ∧ R (Itl K a) H1) ∨ ((∃ xs, SqT K H1 a xs) ∧ R (Itt K a) H1)
  | .str z => R (Its z) H1
  | _ => False
section
variable {X : Cx} {tg e : Expr} {te : TE}
theorem pi_any (he : PE X e te) : PI X tg e (iAny X.K te) := by
  refine ⟨fun pins s σ H R I h => ?_⟩
  refine thn (he.run pins s σ H _ I h) fun v s1 hv => ?_
  obtain ⟨x, H1, I1, r1, q1⟩ := hv
  cases x with
  | ref a =>
    cases r1
    rcases q1 with ⟨⟨xs, hq⟩, q⟩ | ⟨⟨xs, hq⟩, q⟩
    · obtain ⟨its, rv, pl, _⟩ := I1.list hq
      exact wpAny_pyIter_list pl.isList (pi_one (tk := s1.toks) I1 _ (turn_list a _) ⟨_, Heap.get?_push_size _ rfl, rfl, rfl⟩ q)
    · obtain ⟨its, rv, pl, _⟩ := I1.tuple hq
      exact wpAny_pyIter_tuple (show s1.heap.IsTuple a its.toArray from pl) (pi_one (tk := s1.toks) I1 _ (turn_tuple a _) ⟨_, Heap.get?_push_size _ rfl, rfl, rfl⟩ q)
  | str z =>
    obtain ⟨t, rfl⟩ := r1
    cases ha : z.cps.all (· < 128)
    · exact wpAny_pyIter_wide ha (pi_one (tk := s1.toks) I1 _ (turn_str _ z t "str_iterator" (.inr rfl)) ⟨_, Heap.get?_push_size _ rfl, rfl, rfl⟩ q1)
    · exact wpAny_pyIter_ascii ha (pi_one (tk := s1.toks) I1 _ (turn_str _ z t "str_ascii_iterator" (.inl rfl)) ⟨_, Heap.get?_push_size _ rfl, rfl, rfl⟩ q1)
  | _ => exact (show False from q1).elim
/-- f(k = v, ..), no positional value -/
theorem pe_callK0 {CX : CXT} {k : Nat} {f : Addr} {fd : FuncData} {ps ks : List Str} {sp : Sp} {E : XK} {x : Str} {p pos : Pos} {kws : List Keyword} {tk : TA} {g : List Value → List Value → List Value} {gV : List V → List V → List V}
    (F : FnOk X.prog X.w X.K X.mg X.base CX k f fd ps sp) (hr : Room k X.A) (hg : Gl X x) (hm : X.mg x = some (.ref f)) (hk : PySem.W.keepIn X.K (.ref f) = true) (hb : KBinds X.K fd ps ks g gV) (hx : Passes CX X E)
    (hkw : PK X kws tk) (hall : (backToKw pos (keywordEach kws X.env)).all (·.1.isSome) = true := by rfl) (hks : (backToKw pos (keywordEach kws X.env)).filterMap (·.1) = ks := by rfl)
    (hdb : (x == ("__debug__" : Str)) = false := by decide) (hpl : ((backTo pos (starEach [] X.env)).any (·.1) || (backToKw pos (keywordEach kws X.env)).any (·.1.isNone)) = false := by rfl) :
    PE X (.Call (.Name x p) [] kws pos) (tCallK sp gV E tNil tk) := by
  refine ⟨fun pins s σ H Q I h => wpAny_Call_Name_kw (ld_glob I hg hm ?_ hdb)⟩
  refine PySem.W.callWith_KW0 (h₀ := X.base) I.ok.mod.kin hk hall (thn (hkw.run pos pins s σ H _ I h) fun ws s2 hz => ?_) hpl
  obtain ⟨zs, H2, I2, rz, q2⟩ := hz
  refine ⟨I2.kIn, ?_⟩
  rw [hks]
  exact run_fnk F hr hb hx I2 .nil rz q2
end
/-! the same rules with the written part as a letter of its own (a comprehension's block has the same) -/
section
variable {X : Cx} {K : PySem.W.Frag} {tg e : Expr} {te ta : TE}
theorem oAdd (hK : X.K = K := by rfl) : OpR X (binaryOp .Add) (rAddM K) := hK ▸ op_addM
theorem oMul (hK : X.K = K := by rfl) : OpR X (binaryOp .Mult) (rMulM K) := hK ▸ op_mulM
def rEqM (K : PySem.W.Frag) : R2 := fun x y H Q => rEq x y H Q ∨ rEqD K x y H Q
def rNeM (K : PySem.W.Frag) : R2 := fun x y H Q => rNe x y H Q ∨ rNeD K x y H Q
theorem oEq (hu : X.A.units + 64 < cLine) (hK : X.K = K := by rfl) : OpR X (compareOp .Eq) (rEqM K) := hK ▸ op_eqM hu
theorem oNe (hu : X.A.units + 64 < cLine) (hK : X.K = K := by rfl) : OpR X (compareOp .NotEq) (rNeM K) := hK ▸ op_neM hu
theorem oIn (hK : X.K = K := by rfl) : OpR X (compareOp .In) (rInM K false) := hK ▸ op_inM
theorem oNin (hK : X.K = K := by rfl) : OpR X (compareOp .NotIn) (rInM K true) := hK ▸ op_ninM
theorem ixM (hK : X.K = K := by rfl) : IxR X (rIx K) := hK ▸ ix_seq
theorem slM (hK : X.K = K := by rfl) : SlR X (rSlM K) := hK ▸ sl_M
def rLen (K : PySem.W.Frag) : List V → Hp → VK → Prop := fun xs H Q => ∃ x n, xs = [x] ∧ LenV K x H n ∧ Q (.int n) H
theorem cLen (hK : X.K = K := by rfl) : CallR X (.builtin "len") (rLen K) := hK ▸ call_len
theorem cIsi (hK : X.K = K := by rfl) : CallR X (.builtin "isinstance") (rIsi K) := hK ▸ call_isi
theorem cList (hc : X.calm = true) (hK : X.K = K := by rfl) : CallR X (.type "list") (rListM K) := hK ▸ call_listM hc
def rTupOf (K : PySem.W.Frag) : List V → Hp → VK → Prop := fun xs H Q => ∃ p ys, xs = [.ref p] ∧ ((SqL K H p ys ∧ ∀ l, H l = none → Q (.ref l) (upd H l (.tup ys))) ∨ (SqT K H p ys ∧ Q (.ref p) H))
theorem cTup (hK : X.K = K := by rfl) : CallR X (.type "tuple") (rTupOf K) := hK ▸ call_tuple_of
theorem cAll (hc : X.calm = true) (hK : X.K = K := by rfl) : CallR X (.builtin "all") (rAll K) := hK ▸ cr_all hc
theorem cAny (hc : X.calm = true) (hK : X.K = K := by rfl) : CallR X (.builtin "any") (rAny K) := hK ▸ cr_any hc
def rInt : List V → Hp → VK → Prop := fun xs H Q => (∃ i, xs = [.int i] ∧ Q (.int i) H) ∨ ∃ k, xs = [.bl k] ∧ Q (.int (if k then 1 else 0)) H
theorem cInt : CallR X (.type "int") rInt := call_int1
def rMax2 : List V → Hp → VK → Prop := fun xs H Q => ∃ i j, xs = [.int i, .int j] ∧ Q (.int (if j > i then j else i)) H
def rMin2 : List V → Hp → VK → Prop := fun xs H Q => ∃ i j, xs = [.int i, .int j] ∧ Q (.int (if j < i then j else i)) H
theorem cMax (hc : X.calm = true) : CallR X (.builtin "max") rMax2 := call_max2 hc
theorem cMin (hc : X.calm = true) : CallR X (.builtin "min") rMin2 := call_min2 hc
theorem piAny (he : PE X e te) (hK : X.K = K := by rfl) : PI X tg e (iAny K te) := hK ▸ pi_any he
def tTru (K : PySem.W.Frag) (ta : TE) : TT := fun σ H Q => ta σ H fun x H' => ∃ k, TruV K x H' k ∧ Q k H'
theorem ptT (ha : PE X e ta) (he : ∀ whole, isTrue e X.env whole = (do let v ← whole; standAt e.pos; holding [v] (truthy v)) := by intro _; rfl) (hK : X.K = K := by rfl) : PT X e (tTru K ta) := hK ▸ pt_truth ha he
def rJoin (K : PySem.W.Frag) : V → List V → Hp → VK → Prop := fun x xs H Q => ∃ a p, ∃ ys : List Str, x = .str a ∧ xs = [.ref p] ∧ (SqL K H p (ys.map V.str) ∨ SqT K H p (ys.map V.str)) ∧
  (ys.map (·.length)).sum + ys.length * a.length ≤ 16777216 ∧ Q (.str (Txt.join a ys)) H
theorem peJoin {o : Expr} {to : TE} {apos pos : Pos} (ho : PE X o to) (he : PE X e te) (hs : starEach [e] X.env = [(false, eval e X.env)] := by rfl) (hbase : attributeBase o "join" X.env (eval o X.env) = eval o X.env := by rfl)
    (hline : (apos.endLine == pos.line) = true := by rfl) (hK : X.K = K := by rfl) : PE X (.Call (.Attribute o "join" apos) [e] [] pos) (tM1 (rJoin K) to te) := by
  subst hK
  exact pe_join ho he hs hbase hline
section
variable {o e : Expr} {es : List Expr} {to : TE} {t : TA} {name : Str} {apos cpos : Pos} {T id : String} {r : V → List V → Hp → VK → Prop}
theorem peBm0 (pa : PlainAttrs T) (slot : Slot T name id) (hty : typeOf (.builtin id) = pure (.type "method_descriptor")) (hm : MtR X id r) (ho : PE X o to)
    (h1 : attributeBase o name X.env (eval o X.env) = eval o X.env := by rfl) (h2 : (apos.endLine == cpos.line) = true := by rfl) (hK : X.K = K := by rfl) : PE X (.Call (.Attribute o name apos) [] [] cpos) (tBM0 K T r to) := by
  subst hK
  exact pe_bm0 pa slot hty hm ho h1 h2
theorem peBm (pa : PlainAttrs T) (slot : Slot T name id) (hty : typeOf (.builtin id) = pure (.type "method_descriptor")) (hm : MtR X id r) (ho : PE X o to) (ha : PA X (e :: es) t)
    (h1 : attributeBase o name X.env (eval o X.env) = eval o X.env := by rfl)
    (h2 : ((backTo cpos (starEach (e :: es) X.env)).all (fun x => !x.1) && (backToKw cpos (keywordEach [] X.env)).all (fun x => x.1.isSome) && decide ((e :: es).length + ([] : List Keyword).length + (if ([] : List Keyword).isEmpty then 0 else 1) < 30)) = true := by rfl)
    (h3 : (apos.endLine == cpos.line) = true := by rfl) (h4 : starEach (e :: es) X.env = (false, eval e X.env) :: starEach es X.env := by rfl) (h5 : (backTo cpos (starEach es X.env)).any (·.1) = false := by rfl) (hK : X.K = K := by rfl) :
    PE X (.Call (.Attribute o name apos) (e :: es) [] cpos) (tBM K T r to t) := by
  subst hK
  exact pe_bm pa slot hty hm ho ha h1 h2 h3 h4 h5
end
end
end LK

set_option Elab.async false
set_option linter.all false
set_option maxRecDepth 100000
set_option maxHeartbeats 4000000
/-! the helpers that all laws bear: mixed, cell, take: their readings, once -/
namespace LK
open PySem PySem.Spec PyProof.Rows L2
theorem blT {p : Prop} [Decidable p] (h : p) : V.bl (decide p) = V.bl true := by rw [decide_eq_true h]
theorem blF {p : Prop} [Decidable p] (h : ¬ p) : V.bl (decide p) = V.bl false := by rw [decide_eq_false h]
theorem blN {p : Prop} [Decidable p] (h : p) : V.bl (!decide p) = V.bl false := by rw [decide_eq_true h]; rfl
theorem blNF {p : Prop} [Decidable p] (h : ¬ p) : V.bl (!decide p) = V.bl true := by rw [decide_eq_false h]; rfl
/-- one sign in a text -/
theorem sign_in (z : Str) (c : Nat) : (!(Builtin.Str.occurrences z (⟨#[c]⟩ : Str) 0 z.length 1).isEmpty) = decide (c ∈ z.cps.toList) := PySem.StrLaws.found_one z c
abbrev rMd : R2 := rI (fun _ j => j ≠ 0) fun i j => .int (i.fmod j)
abbrev rDv : R2 := rI CDivN fun i j => .int (i.fdiv j)
abbrev rSb : R2 := rI0 fun i j => .int (i - j)
abbrev rPw : R2 := rI CPow fun i j => .int (i ^ j.toNat)
def mixed (cell k : Int) : Int :=
  let m := (cell.fmod 2147483647 * 48271 + k * 69621 + 1048583).fmod 2147483629
  let m := (m * m).fmod 2147483587
  (m * (m + 2)).fmod 2147483579
def t_mixed (K : PySem.W.Frag) : TS :=
  tSeq (tAsg (tOp rMd (tOp (rAddM K) (tOp (rAddM K) (tOp (rMulM K) (tOp rMd (tVar 0) (tC (.int 2147483647))) (tC (.int 48271))) (tOp (rMulM K) (tVar 1) (tC (.int 69621)))) (tC (.int 1048583))) (tC (.int 2147483629))) (gName 2))
  (tSeq (tAsg (tOp rMd (tOp (rMulM K) (tVar 2) (tVar 2)) (tC (.int 2147483587))) (gName 2))
  (tRet (tOp rMd (tOp (rMulM K) (tVar 2) (tOp (rAddM K) (tVar 2) (tC (.int 2)))) (tC (.int 2147483579)))))
theorem fmod_range {a b : Int} (hb : 0 < b) : 0 ≤ a.fmod b ∧ a.fmod b < b := by
  rw [Int.fmod_eq_emod_of_nonneg a (by omega)]
  exact ⟨Int.emod_nonneg a (by omega), Int.emod_lt_of_pos a hb⟩
theorem mixed_range (c k : Int) : 0 ≤ mixed c k ∧ mixed c k < 2147483579 := fmod_range (by decide)
theorem mixed_run {K : PySem.W.Frag} {c k : Int} {H : Hp} {D : Ends} (h : D.rt (.int (mixed c k)) H) : t_mixed K D [some (.int c), some (.int k), none] H := by
  have e1 := fmod_range (a := c.fmod 2147483647 * 48271 + k * 69621 + 1048583) (b := 2147483629) (by decide)
  have e2 := fmod_range (a := (c.fmod 2147483647 * 48271 + k * 69621 + 1048583).fmod 2147483629 * (c.fmod 2147483647 * 48271 + k * 69621 + 1048583).fmod 2147483629) (b := 2147483587) (by decide)
  refine ⟨_, rfl, _, _, rfl, rfl, Int.ne_of_gt (by decide), .inl (.inr ⟨by decide, by decide⟩), _, rfl, .inl (.inr ⟨by decide, by decide⟩), _, _, rfl, rfl, Int.ne_of_gt (by decide), ?_⟩
  refine ⟨_, rfl, _, rfl, .inl (.inl ⟨by omega, by omega⟩), _, _, rfl, rfl, Int.ne_of_gt (by decide), ?_⟩
  exact ⟨_, rfl, _, rfl, .inl (.inl ⟨by omega, by omega⟩), _, _, rfl, rfl, Int.ne_of_gt (by decide), h⟩
/-- what the cell k of a script is worth, a pile of digits -/
def cellAt (ns : List Int) (k : Nat) : Int := ns.getD k 0
def mixUp (c k : Int) (j : Nat) (found : Int) : Int := found * 2147483579 + mixed c (7 * k + 100 * j + j * j)
def mixTo (c k : Int) : Nat → Int
  | 0 => 0
  | n + 1 => mixUp c k n (mixTo c k n)
def cellOf (ns : List Int) (k : Nat) : Int :=
  if 1000000000000000000 ≤ cellAt ns k then (cellAt ns k - 1000000000000000000).fmod (10 ^ 60 * 10 ^ 60 * 10 ^ 60 * 10 ^ 60) else mixTo (cellAt ns k) k 24
def spMixed : Sp := fun vs H Q _ => ∃ c k : Int, vs = [.int c, .int k] ∧ Q (.int (mixed c k)) H
def spCell' (K : PySem.W.Frag) : Sp := fun vs H Q _ => ∃ (a : Addr) (ns : List Int) (k : Nat), vs = [.ref a, .int k] ∧ SqL K H a (ns.map V.int) ∧ ns.length ≤ 63 ∧ k ≤ 1000 ∧ Q (.int (cellOf ns k)) H
def t_cell2 (K : PySem.W.Frag) : TS :=
(tSeq (tIfS (tTest (tOp (rCmpM (fun i j => decide (j ≤ i)) fun i j => !decide (i.cps.toList < j.cps.toList)) (tVar 2) (tOp rPw (tC (.int 10)) (tC (.int 18)))))
      (tRet (tOp rMd (tOp rSb (tVar 2) (tOp rPw (tC (.int 10)) (tC (.int 18))))
        (tOp (rMulM K) (tOp (rMulM K) (tOp (rMulM K) (tOp rPw (tC (.int 10)) (tC (.int 60))) (tOp rPw (tC (.int 10)) (tC (.int 60)))) (tOp rPw (tC (.int 10)) (tC (.int 60)))) (tOp rPw (tC (.int 10)) (tC (.int 60))))))
      tNext)
  (tSeq (tAsg (tC (.int 0)) (gName 3))
  (tSeq (tFor (iRng1 (tCons (tC (.int 24)) tNil)) (gName 4)
      (tAsg (tOp (rAddM K) (tOp (rMulM K) (tVar 3) (tC (.int 2147483579)))
        (tCall spMixed [] E0 (tCons (tVar 2) (tCons (tOp (rAddM K) (tOp (rAddM K) (tOp (rMulM K) (tC (.int 7)) (tVar 1)) (tOp (rMulM K) (tC (.int 100)) (tVar 4))) (tOp (rMulM K) (tVar 4) (tVar 4))) tNil)))) (gName 3)))
    (tRet (tVar 3)))))
def t_cell (K : PySem.W.Frag) : TS :=
  tSeq (tAsg (tC (.int 0)) (gName 2))
  (tSeq (tIfS (tTest (tOp (rCmpM (fun i j => decide (i < j)) fun i j => decide (i.cps.toList < j.cps.toList)) (tVar 1) (tCB (LK.rLen K) (tCons (tVar 0) tNil)))) (tAsg (tOp (rIx K) (tVar 0) (tVar 1)) (gName 2)) tNext)
  (t_cell2 K))
theorem pw60 : CPow 10 60 := ⟨by decide, by decide, by decide⟩
theorem pw18 : CPow 10 18 := ⟨by decide, by decide, by decide⟩
theorem w1 : CMulW ((10 : Int) ^ (60 : Int).toNat) ((10 : Int) ^ (60 : Int).toNat) := wide_mul (a := 200) (b := 200) (by decide) (by decide) (by decide) (by decide) (by decide)
set_option exponentiation.threshold 4000 in
theorem w2 : CMulW ((10 : Int) ^ (60 : Int).toNat * (10 : Int) ^ (60 : Int).toNat) ((10 : Int) ^ (60 : Int).toNat) := wide_mul (a := 400) (b := 200) (by decide) (by decide) (by decide) (by decide) (by decide)
set_option exponentiation.threshold 4000 in
theorem w3 : CMulW ((10 : Int) ^ (60 : Int).toNat * (10 : Int) ^ (60 : Int).toNat * (10 : Int) ^ (60 : Int).toNat) ((10 : Int) ^ (60 : Int).toNat) := wide_mul (a := 600) (b := 200) (by decide) (by decide) (by decide) (by decide) (by decide)
theorem e18 : (10 : Int) ^ (18 : Int).toNat = 1000000000000000000 := by decide
theorem e60 : (10 : Int) ^ (60 : Int).toNat = 10 ^ 60 := rfl
theorem nz60 : (10 : Int) ^ (60 : Int).toNat * (10 : Int) ^ (60 : Int).toNat * (10 : Int) ^ (60 : Int).toNat * (10 : Int) ^ (60 : Int).toNat ≠ 0 := by decide
theorem at_of_list {ns : List Int} {k : Nat} (h : k < ns.length) : atI (ns.map V.int) (k : Int) = some (.int (cellAt ns k)) := by
  refine atI_nat ?_
  rw [List.getElem?_map, List.getElem?_eq_getElem h]
  show some (V.int ns[k]) = _
  rw [cellAt, List.getD_eq_getElem?_getD, List.getElem?_eq_getElem h]
  rfl
theorem mix_range (c k : Int) : ∀ n, 0 ≤ mixTo c k n
  | 0 => Int.le_refl 0
  | n + 1 => by
    have h1 := mix_range c k n
    have h2 := (mixed_range c (7 * k + 100 * n + n * n)).1
    have h3 : 0 ≤ mixTo c k n * 2147483579 := Int.mul_nonneg h1 (by decide)
    show 0 ≤ mixTo c k n * 2147483579 + _
    omega
theorem cell_run {K : PySem.W.Frag} {a : Addr} {ns : List Int} {k : Nat} {H : Hp} {D : Ends} (hs : SqL K H a (ns.map V.int)) (hn : ns.length ≤ 63) (hk : k ≤ 1000) (h : D.rt (.int (cellOf ns k)) H) :
    t_cell K D [some (.ref a), some (.int k), none, none, none] H := by
  -- behind the reading of the cell
  have rest : ∀ c : Int, c = cellAt ns k → t_cell2 K D [some (.ref a), some (.int k), some (.int c), none, none] H := by
    intro c hc
    refine ⟨_, rfl, _, _, rfl, rfl, pw18, _, rfl, ?_⟩
    rw [e18]
    refine ite2 (fun hge => ?_) fun hlt => ?_
    · have hge := of_decide_eq_true hge
      refine ⟨_, rfl, _, _, rfl, rfl, pw18, _, _, rfl, rfl, _, _, rfl, rfl, pw60, _, _, rfl, rfl, pw60, .inr w1, _, _, rfl, rfl, pw60, .inr w2, _, _, rfl, rfl, pw60, .inr w3, _, _, rfl, rfl, nz60, ?_⟩
      have e : cellOf ns k = (c - 10 ^ (18 : Int).toNat).fmod ((10 : Int) ^ (60 : Int).toNat * (10 : Int) ^ (60 : Int).toNat * (10 : Int) ^ (60 : Int).toNat * (10 : Int) ^ (60 : Int).toNat) := by
        unfold cellOf
        rw [← hc, if_pos hge, e18]
        rfl
      rw [e] at h
      exact h
    · have hlt : ¬ 1000000000000000000 ≤ c := fun z => hlt (decide_eq_true z)
      refine ⟨24, rfl, by decide, by decide, for_range (lo := 0) (n := 24) (fun i σ H' => H' = H ∧ ∃ j, σ = [some (.ref a), some (.int k), some (.int c), some (.int (mixTo c k i)), j]) ⟨rfl, none, rfl⟩ ?_ ?_⟩
      · rintro i σ H' hi ⟨rfl, j, rfl⟩
        refine ⟨_, rfl, .inl (.inr ⟨by decide, by decide⟩), _, rfl, _, rfl, .inl (.inl ⟨by decide, by decide⟩), _, rfl, .inl (.inl ⟨by decide, by decide⟩), _, rfl, _, rfl, .inl (.inl ⟨by omega, by omega⟩), c, _, rfl, ?_⟩
        refine ⟨rfl, some (.int (0 + i)), ?_⟩
        have e : mixTo c k (i + 1) = mixTo c k i * 2147483579 + mixed c (7 * k + 100 * (0 + i) + (0 + i) * (0 + i)) := by
          rw [Int.zero_add]
          rfl
        rw [e]
        rfl
      · rintro σ H' ⟨rfl, j, rfl⟩
        refine ⟨_, rfl, ?_⟩
        have e : cellOf ns k = mixTo c k 24 := by
          unfold cellOf
          rw [← hc, if_neg hlt]
        rw [e] at h
        exact h
  refine ⟨_, rfl, _, rfl, _, _, rfl, .inl ⟨_, hs, rfl⟩, _, rfl, ?_⟩
  refine ite2 (fun hge => ?_) fun hlt => ?_
  · have hge := of_decide_eq_true hge
    rw [List.length_map] at hge
    have hk : k < ns.length := by omega
    refine ⟨_, rfl, _, rfl, .inl ⟨_, _, _, _, rfl, rfl, hs, at_of_list hk, ?_⟩⟩
    exact rest _ rfl
  · have hlt : ¬ (k : Int) < ((ns.map V.int).length : Int) := fun z => hlt (decide_eq_true z)
    rw [List.length_map] at hlt
    refine rest 0 ?_
    unfold cellAt
    rw [List.getD_eq_getElem?_getD, List.getElem?_eq_none (by omega)]
    rfl
/-- the pile, a list of one number -/
def t_take (K : PySem.W.Frag) : TS :=
  tSeq (tAsg (tOp rMd (tOp (rIx K) (tVar 0) (tC (.int 0))) (tVar 1)) (gName 2))
  (tSeq (tAsg (tOp rDv (tOp (rIx K) (tVar 0) (tC (.int 0))) (tVar 1)) (gSub (tVar 0) (tC (.int 0)) rSetL))
  (tRet (tVar 2)))
def spTake : Sp := fun vs H Q _ => ∃ (p : Addr) (c m : Int), vs = [.ref p, .int m] ∧ H p = some (.lst [.int c]) ∧ (0 < m ∧ m < 1073741824) ∧ Q (.int (c.fmod m)) (upd H p (.lst [.int (c.fdiv m)]))
theorem take_run {K : PySem.W.Frag} {p : Addr} {c m : Int} {H : Hp} {D : Ends} (hp : H p = some (.lst [.int c])) (hm : 0 < m ∧ m < 1073741824) (h : D.rt (.int (c.fmod m)) (upd H p (.lst [.int (c.fdiv m)]))) :
    t_take K D [some (.ref p), some (.int m), none] H := by
  refine ⟨_, rfl, .inl ⟨_, _, _, _, rfl, rfl, SqL.of hp, rfl, _, rfl, _, _, rfl, rfl, Int.ne_of_gt hm.1, ?_⟩⟩
  refine ⟨_, rfl, .inl ⟨_, _, _, _, rfl, rfl, SqL.of hp, rfl, _, rfl, _, _, rfl, rfl, ⟨Int.ne_of_gt hm.1, by omega⟩, ?_⟩⟩
  refine ⟨_, rfl, _, _, _, 0, rfl, rfl, hp, rfl, ?_⟩
  exact ⟨_, rfl, h⟩
end LK

set_option Elab.async false
set_option linter.all false
set_option maxRecDepth 100000
set_option maxHeartbeats 4000000
/-! the head's facts: a test of mine beside the defs -/
namespace LK
open PySem PySem.Spec PyProof.Rows L2 He
def obsM (ck : PySem.W.Frag → Bool) (fn : List DefD) (K : PySem.W.Frag) : AlD := (ck K && fn.all fun d => d.ok K, fn.map fun d => fnW K d.at_)
def SaysM (ck : PySem.W.Frag → Bool) (fn : List DefD) (K : PySem.W.Frag) : Prop := obsM ck fn K = valD fn
def obsMG (n : Nat) (ck : PySem.W.Frag → Bool) (fn : List DefD) (g : Addr → Option Obj) : AlD := obsM ck fn (frG g (asD g n))
def hookM (n : Nat) (ck : PySem.W.Frag → Bool) (fn : List DefD) : PySem.W.Hook where
  α := AlD
  obs := fun s => obsMG n ck fn s.heap.get?
  val := fun _ => valD fn
  says := fun _ h => ∃ K : PySem.W.Frag, K.In h ∧ SaysM ck fn K
  of := fun _ _ e => ⟨_, frG_in, e⟩
  keeps := fun _ _ _ ⟨K, hK, c⟩ k => ⟨K, PySem.W.Frag.In.keeps hK k, c⟩
theorem obsMG_eq {n : Nat} {ck : PySem.W.Frag → Bool} {fn : List DefD} {g : Addr → Option Obj} {s : Shared} (h : ∀ a, g a = s.heap.get? a) : obsMG n ck fn g = (hookM n ck fn).obs s := by
  have e : g = s.heap.get? := funext h
  rw [e]
  rfl
section
variable {ck : PySem.W.Frag → Bool} {fn : List DefD} {K : PySem.W.Frag}
theorem SaysM.both (c : SaysM ck fn K) : ck K = true ∧ (fn.all fun d => d.ok K) = true :=
  ba (show (ck K && fn.all fun d => d.ok K) = true from congrArg (fun z : AlD => z.1) c)
theorem SaysM.def_ (c : SaysM ck fn K) (i : Nat) {d : DefD} (h : fn[i]? = some d := by rfl) : ∃ fd, FunD K d.name d.qual d.params d.body d.scope (d.dvs K) (d.kws K) (fAd K d.at_) fd := by
  have e : fn.map (fun d => fnW K d.at_) = fn.map DefD.val := congrArg (fun z : AlD => z.2) c
  have e2 : (fn.map fun d => fnW K d.at_)[i]? = (fn.map DefD.val)[i]? := by rw [e]
  rw [List.getElem?_map, List.getElem?_map, h] at e2
  exact DefD.funD (Option.some.inj e2) (List.all_eq_true.mp c.both.2 d (List.mem_of_getElem? h))
end
/-- facts by a list -/
theorem fa_at {fa : List Fa} {K : PySem.W.Frag} (c : (fa.all fun f => f.ok K) = true) (i : Nat) {f : Fa} (h : fa[i]? = some f := by rfl) : f.ok K = true :=
  List.all_eq_true.mp c f (List.mem_of_getElem? h)
/-- a tuple of texts at the module's name x -/
theorem tup_at {K : PySem.W.Frag} {x : Str} {vs : List Dv} {ws : List V} (h : tupB K x vs = true) (e : vs.map (Dv.v K) = ws := by rfl) (H : Hp) : SqT K H (ga K x) ws := e ▸ tupB_ok h H
end LK

set_option linter.all false
/-! names of some letters, by levels: plain lists of codes -/
namespace K40
def ext (L : List Nat) (ws : List (List Nat)) : List (List Nat) := ws.flatMap fun w => L.map fun c => w ++ [c]
def lev (L : List Nat) : Nat → List (List Nat)
  | 0 => [[]]
  | n + 1 => ext L (lev L n)
def keptW : List (List Nat) := ["let", "if", "else", "while", "return", "fail", "try", "catch", "out", "fn"].map fun s => s.toList.map Char.toNat
def ok (w : List Nat) : Bool := !keptW.contains w
def filt (ws : List (List Nat)) : List (List Nat) := ws.filter ok
def Fd (L : List Nat) (n : Nat) : List (List Nat) := (List.range n).flatMap fun i => filt (lev L (i + 1))
def sup (L : List Nat) (count : Nat) : List (List Nat) := (Fd L count).take count
structure Good (L : List Nat) : Prop where
  nd : L.Nodup
  lo : 2 ≤ L.length
  hi : L.length ≤ 26
  al : ∀ c ∈ L, 97 ≤ c ∧ c ≤ 122
theorem Fd_zero (L : List Nat) : Fd L 0 = [] := rfl
theorem Fd_succ (L : List Nat) (n : Nat) : Fd L (n + 1) = Fd L n ++ filt (lev L (n + 1)) := by
  unfold Fd
  rw [List.range_succ, List.flatMap_append, List.flatMap_singleton]
theorem ext_length (L : List Nat) : ∀ ws : List (List Nat), (ext L ws).length = ws.length * L.length
  | [] => by simp [ext]
  | w :: ws => by
    have ih := ext_length L ws
    unfold ext at ih ⊢
    rw [List.flatMap_cons, List.length_append, ih, List.length_map, List.length_cons, Nat.succ_mul, Nat.add_comm]
theorem lev_mem {L : List Nat} : ∀ {n : Nat} {w : List Nat}, w ∈ lev L n → w.length = n ∧ ∀ c ∈ w, c ∈ L
  | 0, w, h => by
    have e : w = [] := by simpa [lev] using h
    subst e
    exact ⟨rfl, fun c hc => by cases hc⟩
  | n + 1, w, h => by
    unfold lev ext at h
    obtain ⟨v, hv, h⟩ := List.mem_flatMap.mp h
    obtain ⟨c, hc, e⟩ := List.mem_map.mp h
    subst e
    obtain ⟨h1, h2⟩ := lev_mem hv
    refine ⟨by rw [List.length_append, h1]; rfl, fun d hd => ?_⟩
    rcases List.mem_append.mp hd with hd | hd
    · exact h2 d hd
    · have : d = c := by simpa using hd
      rw [this]; exact hc
theorem ext_nodup {L : List Nat} (hL : L.Nodup) : ∀ {ws : List (List Nat)}, ws.Nodup → (ext L ws).Nodup
  | [], _ => List.nodup_nil
  | w :: ws, h => by
    obtain ⟨h1, h2⟩ := List.nodup_cons.mp h
    have ih := ext_nodup hL h2
    unfold ext at ih ⊢
    rw [List.flatMap_cons]
    refine List.nodup_append.mpr ⟨?_, ih, fun a ha b hb e => ?_⟩
    · refine List.Pairwise.map _ (fun a b hne e => hne ?_) hL
      exact List.singleton_inj.mp (List.append_cancel_left e)
    · subst e
      obtain ⟨c, _, ec⟩ := List.mem_map.mp ha
      obtain ⟨v, hv, hb⟩ := List.mem_flatMap.mp hb
      obtain ⟨d, _, ed⟩ := List.mem_map.mp hb
      have := ec.trans ed.symm
      have e2 := (List.append_inj' this rfl).1
      subst e2
      exact h1 hv
theorem lev_nodup {L : List Nat} (hL : L.Nodup) : ∀ n, (lev L n).Nodup
  | 0 => by simp [lev]
  | n + 1 => ext_nodup hL (lev_nodup hL n)
theorem sub_len {α : Type} [BEq α] [LawfulBEq α] : ∀ {l m : List α}, l.Nodup → (∀ x ∈ l, x ∈ m) → l.length ≤ m.length
  | [], m, _, _ => Nat.zero_le _
  | a :: l, m, h, hs => by
    obtain ⟨h1, h2⟩ := List.nodup_cons.mp h
    have hm : a ∈ m := hs a List.mem_cons_self
    have ih := sub_len (m := m.erase a) h2 fun x hx => (List.mem_erase_of_ne (fun e : x = a => h1 (e ▸ hx))).mpr (hs x (List.mem_cons_of_mem _ hx))
    rw [List.length_erase_of_mem hm] at ih
    have := List.length_pos_of_mem hm
    rw [List.length_cons]
    omega
theorem len_parts {α : Type} (p : α → Bool) : ∀ l : List α, l.length = (l.filter p).length + (l.filter fun w => !p w).length
  | [] => rfl
  | a :: l => by
    have ih := len_parts p l
    cases h : p a <;> simp [h] <;> omega
theorem filt_ge {ws : List (List Nat)} (h : ws.Nodup) : ws.length ≤ (filt ws).length + 10 := by
  have h1 := len_parts ok ws
  have h2 : (ws.filter fun w => !ok w).length ≤ keptW.length := by
    refine sub_len (h.filter _) fun x hx => ?_
    have := (List.mem_filter.mp hx).2
    unfold ok at this
    simpa using this
  have h3 : keptW.length = 10 := by decide
  unfold filt
  omega
/-- a word of one letter alone is no kept word -/
theorem rep_mem {L : List Nat} {c : Nat} (hc : c ∈ L) : ∀ n, List.replicate n c ∈ lev L n
  | 0 => by simp [lev]
  | n + 1 => by
    unfold lev ext
    refine List.mem_flatMap.mpr ⟨_, rep_mem hc n, List.mem_map.mpr ⟨c, hc, ?_⟩⟩
    rw [List.replicate_succ']
theorem rep_ok (c n : Nat) : ok (List.replicate n c) = true := by
  unfold ok
  have : ¬ List.replicate n c ∈ keptW := by
    intro h
    have key : ∀ w ∈ keptW, 2 ≤ w.length ∧ w.getD 0 0 ≠ w.getD 1 0 := by decide
    obtain ⟨h1, h2⟩ := key _ h
    rw [List.length_replicate] at h1
    refine h2 ?_
    rw [List.getD_eq_getElem?_getD, List.getD_eq_getElem?_getD, List.getElem?_replicate, List.getElem?_replicate, if_pos (by omega), if_pos (by omega)]
  simp [this]
theorem filt_pos {L : List Nat} (G : Good L) (n : Nat) : 0 < (filt (lev L n)).length := by
  obtain ⟨c, hc⟩ : ∃ c, c ∈ L := by
    cases L with
    | nil => have := G.lo; simp at this
    | cons c r => exact ⟨c, List.mem_cons_self⟩
  exact List.length_pos_of_mem (List.mem_filter.mpr ⟨rep_mem hc n, rep_ok c n⟩)
theorem Fd_ge {L : List Nat} (G : Good L) : ∀ n, n ≤ (Fd L n).length
  | 0 => Nat.zero_le _
  | n + 1 => by
    have h1 := Fd_ge G n
    have h2 := filt_pos G (n + 1)
    rw [Fd_succ, List.length_append]
    omega
theorem Fd_prefix (L : List Nat) (n : Nat) : ∀ k, ∃ t, Fd L (n + k) = Fd L n ++ t
  | 0 => ⟨[], by simp⟩
  | k + 1 => by
    obtain ⟨t, ht⟩ := Fd_prefix L n k
    refine ⟨t ++ filt (lev L (n + k + 1)), ?_⟩
    rw [← Nat.add_assoc, Fd_succ, ht, List.append_assoc]
theorem take_eq {L : List Nat} {a b count : Nat} (ha : count ≤ (Fd L a).length) (hb : count ≤ (Fd L b).length) : (Fd L a).take count = (Fd L b).take count := by
  rcases Nat.le_total a b with h | h
  · obtain ⟨t, ht⟩ := Fd_prefix L a (b - a)
    rw [show a + (b - a) = b by omega] at ht
    rw [ht, List.take_append_of_le_length ha]
  · obtain ⟨t, ht⟩ := Fd_prefix L b (a - b)
    rw [show b + (a - b) = a by omega] at ht
    rw [ht, List.take_append_of_le_length hb]
theorem sup_eq {L : List Nat} (G : Good L) {a count : Nat} (ha : count ≤ (Fd L a).length) : (Fd L a).take count = sup L count := take_eq ha (Fd_ge G count)
theorem lev_small {L : List Nat} (G : Good L) : ∀ {n : Nat}, (Fd L n).length < 400 → (lev L n).length ≤ 410
  | 0, _ => by simp [lev]
  | n + 1, h => by
    have h1 := filt_ge (lev_nodup G.nd (n + 1))
    rw [Fd_succ, List.length_append] at h
    omega
theorem lev_next {L : List Nat} (G : Good L) {n : Nat} (h : (Fd L n).length < 400) : (lev L (n + 1)).length ≤ 10660 := by
  have h1 := lev_small G h
  have h2 : (lev L (n + 1)).length = (lev L n).length * L.length := ext_length L _
  rw [h2]
  exact Nat.le_trans (Nat.mul_le_mul h1 G.hi) (by decide)
theorem level_lt {L : List Nat} (G : Good L) {n : Nat} (h : (Fd L n).length < 400) : n < 400 := Nat.lt_of_le_of_lt (Fd_ge G n) h
theorem filt_le (ws : List (List Nat)) : (filt ws).length ≤ ws.length := List.length_filter_le ..
theorem sup_len {L : List Nat} (G : Good L) (count : Nat) : (sup L count).length = count := by
  unfold sup
  rw [List.length_take]
  have := Fd_ge G count
  omega
end K40

set_option Elab.async false
set_option linter.all false
set_option maxRecDepth 100000
set_option maxHeartbeats 4000000
namespace P40
open PySem L2 LK K40
def top (i : Nat) : Stmt := PySem.Challenge.pw_leanscript_k40_names_supplied.main.body.getD i (.Pass ⟨0, 0, 0, 0⟩)
abbrev s_look_at_letters : Stmt := top 9
abbrev N_look_at_letters : List Str := ["letters", "letter"]
theorem sc_look_at_letters : FnScope N_look_at_letters ["letters"] (defScope s_look_at_letters) := ⟨rfl, rfl, rfl, by decide +kernel, rfl, by decide +kernel, by decide +kernel⟩

abbrev s_names_of : Stmt := top 10
abbrev N_names_of : List Str := ["letters", "many", "found", "grown", "word", "letter"]
theorem sc_names_of : FnScope N_names_of ["letters", "many"] (defScope s_names_of) := ⟨rfl, rfl, rfl, by decide +kernel, rfl, by decide +kernel, by decide +kernel⟩

abbrev s_supply : Stmt := top 11
abbrev N_supply : List Str := ["letters", "many"]
theorem sc_supply : FnScope N_supply ["letters", "many"] (defScope s_supply) := ⟨rfl, rfl, rfl, by decide +kernel, rfl, by decide +kernel, by decide +kernel⟩

abbrev s__law_mixed : Stmt := top 13
abbrev N__law_mixed : List Str := ["cell", "k", "mix"]
theorem sc__law_mixed : FnScope N__law_mixed ["cell", "k"] (defScope s__law_mixed) := ⟨rfl, rfl, rfl, by decide +kernel, rfl, by decide +kernel, by decide +kernel⟩

abbrev s__law_cell : Stmt := top 14
abbrev N__law_cell : List Str := ["script", "k", "cell", "found", "j"]
theorem sc__law_cell : FnScope N__law_cell ["script", "k"] (defScope s__law_cell) := ⟨rfl, rfl, rfl, by decide +kernel, rfl, by decide +kernel, by decide +kernel⟩

abbrev s__law_take : Stmt := top 15
abbrev N__law_take : List Str := ["pile", "size", "digit"]
theorem sc__law_take : FnScope N__law_take ["pile", "size"] (defScope s__law_take) := ⟨rfl, rfl, rfl, by decide +kernel, rfl, by decide +kernel, by decide +kernel⟩

abbrev s__law_supply : Stmt := top 16
abbrev N__law_supply : List Str := ["signs", "count", "kept", "found", "grown", "longer", "word", "letter"]
theorem sc__law_supply : FnScope N__law_supply ["signs", "count"] (defScope s__law_supply) := ⟨rfl, rfl, rfl, by decide +kernel, rfl, by decide +kernel, by decide +kernel⟩

abbrev s__law_good : Stmt := top 17
abbrev N__law_good : List Str := ["some", "count", "due", "turn", "found", "name"]
theorem sc__law_good : FnScope N__law_good ["some", "count"] (defScope s__law_good) := ⟨rfl, rfl, rfl, by decide +kernel, rfl, by decide +kernel, by decide +kernel⟩

abbrev s_law : Stmt := top 18
abbrev N_law : List Str := ["script", "k", "some", "pile", "left", "size", "turn"]
theorem sc_law : FnScope N_law ["script"] (defScope s_law) := ⟨rfl, rfl, rfl, by decide +kernel, rfl, by decide +kernel, by decide +kernel⟩

theorem kb_of {K : PySem.W.Frag} {fd : FuncData} {f : Addr} (F : FunD K "supply" "supply" (defArgs s_supply) (defBody s_supply) (defScope s_supply) [] [] f fd) :
    KBinds K fd ["letters", "many"] ["many", "letters"] (fun us ws => us ++ ws.reverse) (fun us ws => us ++ ws.reverse) := by
  obtain ⟨oc, od, dV, kV, doc, pm, an, cdv, ct, osl, rfl, lk, hcd, hD, hK⟩ := F.ex
  rcases hD with ⟨_, rfl⟩ | ⟨e, _⟩
  · refine ⟨fun s us ws _ hl => ?_, fun {vs us zs ws} r1 r2 => r1.append (vals_rev r2)⟩
    rcases us with _ | ⟨a, _ | ⟨b, _ | ⟨c, us⟩⟩⟩
    · rcases ws with _ | ⟨a, _ | ⟨b, _ | ⟨c, ws⟩⟩⟩
      · simp at hl
      · simp at hl
      · exact .of_eq rfl
      · simp at hl
    · rcases ws with _ | ⟨b, _ | ⟨c, ws⟩⟩
      · simp at hl
      · exact .of_eq rfl
      · simp at hl
    · rcases ws with _ | ⟨b, ws⟩
      · exact .of_eq rfl
      · simp at hl
    · simp at hl
  · exact absurd rfl e
structure Env (K : PySem.W.Frag) (mg : Str → Option Value) where
  fd_look_at_letters : FuncData
  F_look_at_letters : FunD K "look_at_letters" "look_at_letters" (defArgs s_look_at_letters) (defBody s_look_at_letters) (defScope s_look_at_letters) [] [] (He.ga K "look_at_letters") fd_look_at_letters
  m_look_at_letters : mg "look_at_letters" = some (.ref (He.ga K "look_at_letters"))
  b_look_at_letters : Binds K fd_look_at_letters ["letters"] []
  fd_names_of : FuncData
  F_names_of : FunD K "names_of" "names_of" (defArgs s_names_of) (defBody s_names_of) (defScope s_names_of) [] [] (He.ga K "names_of") fd_names_of
  m_names_of : mg "names_of" = some (.ref (He.ga K "names_of"))
  b_names_of : Binds K fd_names_of ["letters", "many"] []
  fd_supply : FuncData
  F_supply : FunD K "supply" "supply" (defArgs s_supply) (defBody s_supply) (defScope s_supply) [] [] (He.ga K "supply") fd_supply
  m_supply : mg "supply" = some (.ref (He.ga K "supply"))
  b_supply : Binds K fd_supply ["letters", "many"] []
  fd__law_mixed : FuncData
  F__law_mixed : FunD K "_law_mixed" "_law_mixed" (defArgs s__law_mixed) (defBody s__law_mixed) (defScope s__law_mixed) [] [] (He.ga K "_law_mixed") fd__law_mixed
  m__law_mixed : mg "_law_mixed" = some (.ref (He.ga K "_law_mixed"))
  b__law_mixed : Binds K fd__law_mixed ["cell", "k"] []
  fd__law_cell : FuncData
  F__law_cell : FunD K "_law_cell" "_law_cell" (defArgs s__law_cell) (defBody s__law_cell) (defScope s__law_cell) [] [] (He.ga K "_law_cell") fd__law_cell
  m__law_cell : mg "_law_cell" = some (.ref (He.ga K "_law_cell"))
  b__law_cell : Binds K fd__law_cell ["script", "k"] []
  fd__law_take : FuncData
  F__law_take : FunD K "_law_take" "_law_take" (defArgs s__law_take) (defBody s__law_take) (defScope s__law_take) [] [] (He.ga K "_law_take") fd__law_take
  m__law_take : mg "_law_take" = some (.ref (He.ga K "_law_take"))
  b__law_take : Binds K fd__law_take ["pile", "size"] []
  fd__law_supply : FuncData
  F__law_supply : FunD K "_law_supply" "_law_supply" (defArgs s__law_supply) (defBody s__law_supply) (defScope s__law_supply) [] [] (He.ga K "_law_supply") fd__law_supply
  m__law_supply : mg "_law_supply" = some (.ref (He.ga K "_law_supply"))
  b__law_supply : Binds K fd__law_supply ["signs", "count"] []
  fd__law_good : FuncData
  F__law_good : FunD K "_law_good" "_law_good" (defArgs s__law_good) (defBody s__law_good) (defScope s__law_good) [] [] (He.ga K "_law_good") fd__law_good
  m__law_good : mg "_law_good" = some (.ref (He.ga K "_law_good"))
  b__law_good : Binds K fd__law_good ["some", "count"] []
  fd_law : FuncData
  F_law : FunD K "law" "law" (defArgs s_law) (defBody s_law) (defScope s_law) [] [] (He.ga K "law") fd_law
  m_law : mg "law" = some (.ref (He.ga K "law"))
  b_law : Binds K fd_law ["script"] []
  z_all : mg "all" = none
  z_bool : mg "bool" = none
  z_int : mg "int" = none
  z_isinstance : mg "isinstance" = none
  z_len : mg "len" = none
  z_list : mg "list" = none
  z_max : mg "max" = none
  z_min : mg "min" = none
  z_range : mg "range" = none
  z_str : mg "str" = none
  m_KEPT : mg "KEPT" = some (.ref (He.ga K "KEPT"))
  q_KEPT : ∀ H, SqT K H (He.ga K "KEPT") [.str "let", .str "if", .str "else", .str "while", .str "return", .str "fail", .str "try", .str "catch", .str "out", .str "fn"]
  t_LEAST_LETTERS : Tok
  m_LEAST_LETTERS : mg "LEAST_LETTERS" = some (.int 2 t_LEAST_LETTERS)
  t_MOST_NAMES : Tok
  m_MOST_NAMES : mg "MOST_NAMES" = some (.int 400 t_MOST_NAMES)
  t_SMALL : Tok
  m_SMALL : mg "SMALL" = some (.str "abcdefghijklmnopqrstuvwxyz" t_SMALL)
  kb_supply_0_many_letters : KBinds K fd_supply ["letters", "many"] ["many", "letters"] (fun us ws => us ++ ws.reverse) (fun us ws => us ++ ws.reverse)

abbrev toS (w : List Nat) : Str := ⟨w.toArray⟩
def vstrs (ws : List (List Nat)) : List V := ws.map fun w => V.str (toS w)
def GoodS (z : Str) : Prop := Good z.cps.toList
def sp_look_at_letters : Sp := fun vs H Q _ => ∃ z : Str, vs = [.str z] ∧ GoodS z ∧ ∀ H', Same H H' → Q .non H'
def spNames : Sp := fun vs H Q _ => ∃ (z : Str) (n : Nat), vs = [.str z, .int n] ∧ GoodS z ∧ n ≤ 400 ∧ ∀ H' p, Same H H' → H p = none → H' p = some (.lst (vstrs (sup z.cps.toList n))) → Q (.ref p) H'
abbrev sp_names_of := spNames
abbrev sp_supply := spNames
abbrev sp__law_supply := spNames
def sp__law_good : Sp := fun vs H Q _ => ∃ (z : Str) (n : Nat), vs = [.str z, .int n] ∧ GoodS z ∧ n ≤ 400 ∧ ∀ H', Same H H' → Q (.bl true) H'
def sp_law (K : PySem.W.Frag) : Sp := fun vs H Q _ => ∃ (a : Addr) (ns : List Int), vs = [.ref a] ∧ SqL K H a (ns.map V.int) ∧ ns.length ≤ 63 ∧ ∀ H', Q (.bl true) H'
theorem filterMap_const {α : Type} (v : α) : ∀ n, (List.range n).filterMap (fun _ => some v) = List.replicate n v := by
  intro n
  rw [show (fun _ : Nat => some v) = some ∘ (fun _ : Nat => v) from rfl, List.filterMap_eq_map, List.map_const', List.length_range]
section
variable {P : Program} {w : World} {K : PySem.W.Frag} {mg : Str → Option Value} {base : Heap}
theorem ok__law_mixed (T : Env K mg) : FnOk P w K mg base CX0 1 (He.ga K "_law_mixed") T.fd__law_mixed ["cell", "k"] spMixed := by
  refine T.F__law_mixed.ok sc__law_mixed (fun vs H Q E h => ?_) (fun cdv A outer s H vs Q E hr h => ⟨t_mixed K, PSs.nox ?_, ?_⟩)
  · obtain ⟨c, k, rfl, _⟩ := h
    rfl
  · have nd := sc__law_mixed.nd
    exact (pss_cons (ps_set (i := 2) nd rfl (Or.inl rfl) (pe_op op_modN (pe_op (oAdd (K := K)) (pe_op (oAdd (K := K)) (pe_op (oMul (K := K)) (pe_op op_modN (pv 0) pe_int) pe_int) (pe_op (oMul (K := K)) (pv 1) pe_int)) pe_int) pe_int))
      (pss_cons (ps_set (i := 2) nd rfl (Or.inl rfl) (pe_op op_modN (pe_op (oMul (K := K)) (pv 2) (pv 2)) pe_int))
      (pss_one (ps_ret (pe_op op_modN (pe_op (oMul (K := K)) (pv 2) (pe_op (oAdd (K := K)) (pv 2) pe_int)) pe_int)))))
  · obtain ⟨c, k, rfl, h⟩ := h
    exact mixed_run h
theorem ok__law_cell (T : Env K mg) : FnOk P w K mg base CX0 2 (He.ga K "_law_cell") T.fd__law_cell ["script", "k"] (spCell' K) := by
  refine T.F__law_cell.ok sc__law_cell (fun vs H Q E h => ?_) (fun cdv A outer s H vs Q E hr h => ⟨t_cell K, PSs.nox ?_, ?_⟩)
  · obtain ⟨c, ns, k, rfl, _⟩ := h
    rfl
  · have nd := sc__law_cell.nd
    exact (pss_cons (ps_set (i := 2) nd rfl (Or.inl rfl) pe_int)
      (pss_cons (ps_if (pt_cmpR op_ltM (pv 1) (pe_callB (cLen (K := K)) (by rfl) T.z_len (by decide +kernel) (pa_cons (pv 0) pa_nil)) (nomark _)) (pss_one (ps_set (i := 2) nd rfl (Or.inl rfl) (pe_ix (ixM (K := K)) (pv 0) (pv 1) (fun _ _ => rfl)))) pss_nil)
      (pss_cons (ps_if (pt_cmpR op_geM (pv 2) (pe_op op_pow pe_int pe_int) (nomark _)) (pss_one (ps_ret (pe_op op_modN (pe_op op_sub (pv 2) (pe_op op_pow pe_int pe_int)) (pe_op (oMul (K := K)) (pe_op (oMul (K := K)) (pe_op (oMul (K := K)) (pe_op op_pow pe_int pe_int) (pe_op op_pow pe_int pe_int)) (pe_op op_pow pe_int pe_int)) (pe_op op_pow pe_int pe_int))))) pss_nil)
      (pss_cons (ps_set (i := 3) nd rfl (Or.inl rfl) pe_int)
      (pss_cons (ps_for PassesOwn.never rfl (pi_range1 (by rfl) T.z_range (pa_cons pe_int pa_nil)) (pg_name (i := 4) nd rfl (Or.inl rfl)) (pss_one (ps_set (i := 3) nd rfl (Or.inl rfl) (pe_op (oAdd (K := K)) (pe_op (oMul (K := K)) (pv 3) pe_int) (pe_call (ok__law_mixed T) hr (by rfl) T.m__law_mixed T.F__law_mixed.kp T.b__law_mixed .nil pass0 (pa_cons (pv 2) (pa_cons (pe_op (oAdd (K := K)) (pe_op (oAdd (K := K)) (pe_op (oMul (K := K)) pe_int (pv 1)) (pe_op (oMul (K := K)) pe_int (pv 4))) (pe_op (oMul (K := K)) (pv 4) (pv 4))) pa_nil)))))))
      (pss_one (ps_ret (pv 3))))))))
  · obtain ⟨a, ns, k, rfl, hs, hn, hk, h⟩ := h
    exact cell_run hs hn hk h
theorem ok__law_take (T : Env K mg) : FnOk P w K mg base CX0 1 (He.ga K "_law_take") T.fd__law_take ["pile", "size"] spTake := by
  refine T.F__law_take.ok sc__law_take (fun vs H Q E h => ?_) (fun cdv A outer s H vs Q E hr h => ⟨t_take K, PSs.nox ?_, ?_⟩)
  · obtain ⟨c, k, m, rfl, _⟩ := h
    rfl
  · have nd := sc__law_take.nd
    exact (pss_cons (ps_set (i := 2) nd rfl (Or.inl rfl) (pe_op op_modN (pe_ix (ixM (K := K)) (pv 0) pe_int (fun _ _ => rfl)) (pv 1)))
      (pss_cons (ps_asg (pe_op op_fdivN (pe_ix (ixM (K := K)) (pv 0) pe_int (fun _ _ => rfl)) (pv 1)) (pg_sub (pv 0) pe_int set_M))
      (pss_one (ps_ret (pv 2)))))
  · obtain ⟨p, c, m, rfl, hp, hm, h⟩ := h
    exact take_run hp hm h
theorem ok_look_at_letters (T : Env K mg) : FnOk P w K mg base CX0 3 (He.ga K "look_at_letters") T.fd_look_at_letters ["letters"] sp_look_at_letters := by
  refine T.F_look_at_letters.ok sc_look_at_letters (fun vs H Q E h => ?_) (fun cdv A outer s H vs Q E hr h => ?_)
  · obtain ⟨z, rfl, _⟩ := h
    rfl
  · obtain ⟨z, rfl, G, h⟩ := h
    have nd := sc_look_at_letters.nd
    refine ⟨_, PSs.nox (pss_cons (ps_if (PW.pt (pw_or (pt_not (ptT (K := K) (pe_callB (cIsi (K := K)) (by rfl) T.z_isinstance (by decide +kernel) (pa_cons (pv 0) (pa_cons (pe_bltn (v := .ty "str") (u := .type "str") rfl T.z_str (by decide +kernel) rfl) pa_nil))))) (pw_or1 (pt_not (pt_chain op_leM op_leM (pe_glob (v := .int 2) rfl T.m_LEAST_LETTERS ⟨_, rfl⟩) (pe_callB (cLen (K := K)) (by rfl) T.z_len (by decide +kernel) (pa_cons (pv 0) pa_nil)) (pe_callB (cLen (K := K)) (by rfl) T.z_len (by decide +kernel) (pa_cons (pe_glob (v := .str "abcdefghijklmnopqrstuvwxyz") rfl T.m_SMALL ⟨_, rfl⟩) pa_nil))))))) (pss_one ps_never) pss_nil)
      (pss_one (ps_if (PW.pt (pw_or (pt_not (ptT (K := K) (pe_callB (cAll (K := K) rfl) (by rfl) T.z_all (by decide +kernel) (pa_cons (pe_lc (own := [("letter", 1)]) (g := (gName 1)) rfl nd (piAny (K := K) (pv 0)) (blkOk_by (own := [("letter", 1)]) (N := N_look_at_letters) (sc := defScope s_look_at_letters) (by decide +kernel)) (fun _ _ _ _ _ => (pg_name (i := 1) nd rfl (Or.inl rfl))) (fun _ _ _ _ _ => pts_nil) (fun _ _ _ _ _ => (pe_cmpR (oIn (K := K)) (pv 1) (pe_glob (v := .str "abcdefghijklmnopqrstuvwxyz") rfl T.m_SMALL ⟨_, rfl⟩) (by rfl)))) pa_nil)))) (pw_or1 (pt_cmpR op_ltM (pe_callB call_lenK (by rfl) T.z_len (by decide +kernel) (pa_cons (pe_scK (own := [("letter", 1)]) (g := (gName 1)) rfl nd (piAny (K := K) (pv 0)) (blkOk_by (own := [("letter", 1)]) (N := N_look_at_letters) (sc := defScope s_look_at_letters) (by decide +kernel)) (fun _ _ _ _ _ => (pg_name (i := 1) nd rfl (Or.inl rfl))) (fun _ _ _ _ _ => pts_nil) (fun _ _ _ _ _ => (pv 1))) pa_nil)) (pe_callB (cLen (K := K)) (by rfl) T.z_len (by decide +kernel) (pa_cons (pv 0) pa_nil)) (nomark _))))) (pss_one ps_never) pss_nil))), ?_⟩
    have hl : z.length = z.cps.toList.length := by simp [Str.length]
    have h1 := G.lo
    have h2 := G.hi
    have hsz : z.length ≤ sizeLine := Nat.le_trans (by omega : z.length ≤ 26) (by decide)
    have h26 : (Str.ofString "abcdefghijklmnopqrstuvwxyz").length = 26 := by decide +kernel
    have hal : ∀ c, 97 ≤ c → c ≤ 122 → c ∈ (Str.ofString "abcdefghijklmnopqrstuvwxyz").cps.toList := by
      have e : (Str.ofString "abcdefghijklmnopqrstuvwxyz").cps.toList = (List.range 26).map (97 + ·) := by decide +kernel
      intro c ha hb
      rw [e]
      exact List.mem_map.mpr ⟨c - 97, List.mem_range.mpr (by omega), by omega⟩
    refine ⟨_, rfl, _, _, _, _, true, rfl, .ty _, .base (.str _), kit_ty (by decide +kernel), true, rfl, iteF ?_⟩
    refine ⟨_, rfl, _, _, rfl, ⟨hsz, rfl⟩, true, blT (by omega), iteT ?_⟩
    refine ⟨_, _, rfl, ⟨by decide +kernel, rfl⟩, true, blT (by rw [h26]; omega), iteF ?_⟩
    -- all the signs are small letters
    refine ⟨_, rfl, fun D hD => lc_map walk_str (fun _ => some (V.bl true)) hD (by show z.cps.size ≤ _; exact hsz) (fun _ _ => True.intro) (fun i x H1 H2 hi e y Ry Rn hy hn => ?_) (fun H1 e hd => ?_)⟩
    · obtain ⟨rfl, c, hc, rfl⟩ := y
      refine ⟨rfl, ?_⟩
      refine ⟨_, rfl, _, rfl, hy _ _ (Same.refl _) ?_⟩
      have hm : c ∈ z.cps.toList := by
        rw [← Array.getElem?_toList] at hc
        exact List.mem_of_getElem? hc
      have hb := G.al c hm
      rw [if_neg (by decide), sign_in, decide_eq_true (hal c hb.1 hb.2)]
    refine ⟨D, List.replicate z.cps.size true, rfl, SqL.of ?_, true, ?_, iteF ?_⟩
    · rw [hd]
      refine congrArg (fun l => some (HO.lst l)) ?_
      rw [List.map_replicate]
      exact filterMap_const _ _
    · show true = _
      simp
    -- no sign stands twice
    refine ⟨_, rfl, fun D2 hD2 => sc_map walk_str (fun i => Sum.inr ⟨#[z.cps.toList.getD i 0]⟩) hD2 ?_ (fun _ _ => True.intro) ?_ (fun i x H3 H4 hi e3 y Ry Rn hy => ?_) (fun H3 S e3 hd3 => ?_)⟩
    · show z.cps.size + 1 < 4096
      have : z.cps.size = z.length := rfl
      omega
    · intro i j hi hj he
      have hi' : i < z.cps.toList.length := by simpa using hi
      have he' : z.cps.toList.getD j 0 = z.cps.toList.getD i 0 := by simpa using he
      rw [List.getD_eq_getElem?_getD, List.getD_eq_getElem?_getD, List.getElem?_eq_getElem hi', List.getElem?_eq_getElem (by omega : j < z.cps.toList.length)] at he'
      have := (List.getElem_inj G.nd).mp he'
      omega
    · obtain ⟨rfl, c, hc, rfl⟩ := y
      refine ⟨rfl, ?_⟩
      refine ⟨_, rfl, ?_⟩
      have e : z.cps.toList.getD i 0 = c := by
        rw [← Array.getElem?_toList] at hc
        rw [List.getD_eq_getElem?_getD, hc]
        rfl
      have h4 := hy H4 (Same.refl _)
      rw [e] at h4
      exact h4
    refine ⟨_, _, _, rfl, hd3, _, rfl, _, _, rfl, ⟨hsz, rfl⟩, false, blF (by show ¬ ((z.cps.size : Nat) : Int) < ((z.length : Nat) : Int); exact Int.lt_irrefl _), iteF ?_⟩
    exact h _ (e.trans e3)
theorem vstrs_at {ws : List (List Nat)} {i : Nat} {x : V} (h : (vstrs ws)[i]? = some x) : x = V.str (toS (ws.getD i [])) ∧ ws[i]? = some (ws.getD i []) := by
  unfold vstrs at h
  rw [List.getElem?_map] at h
  cases e : ws[i]? with
  | none => rw [e] at h; cases h
  | some w =>
    rw [e] at h
    have h2 : V.str (toS w) = x := Option.some.inj h
    rw [← h2, getD_of e]
    exact ⟨rfl, rfl⟩
theorem str_code (x : Str) (w : List Nat) (h : x.cps.toList = w) : x = toS w := by
  obtain ⟨a⟩ := x
  show Str.mk a = Str.mk w.toArray
  rw [← h]
theorem toS_inj {a b : List Nat} (h : toS a = toS b) : a = b := by
  have : a.toArray = b.toArray := congrArg Str.cps h
  simpa using congrArg Array.toList this
theorem kept_vals : ([.str "let", .str "if", .str "else", .str "while", .str "return", .str "fail", .str "try", .str "catch", .str "out", .str "fn"] : List V) = vstrs keptW := by
  decide +kernel
theorem inV_strs (w : List Nat) : ∀ ws : List (List Nat), inV (.str (toS w)) (vstrs ws) = ws.contains w
  | [] => rfl
  | a :: ws => by
    have ih := inV_strs w ws
    unfold inV vstrs at ih ⊢
    rw [List.map_cons, List.any_cons, ih, List.contains_cons]
    congr 1
    show (toS a == toS w) = (w == a)
    rw [Bool.eq_iff_iff, beq_iff_eq, beq_iff_eq]
    exact ⟨fun h => (toS_inj h).symm, fun h => by rw [h]⟩
theorem flat_strs (ws : List (List Nat)) : (vstrs ws).all flatV = true := by
  unfold vstrs
  rw [List.all_map]
  exact List.all_eq_true.mpr fun _ _ => rfl
theorem toS_app (w : List Nat) (c : Nat) : toS w ++ (⟨#[c]⟩ : Str) = toS (w ++ [c]) := by
  show Str.mk (w.toArray ++ #[c]) = Str.mk (w ++ [c]).toArray
  simp
/-- [word for word in grown if word not in KEPT]: what it is -/
theorem filt_vals (ws : List (List Nat)) : (List.range (vstrs ws).length).filterMap (fun i => if ok (ws.getD i []) then some (V.str (toS (ws.getD i []))) else none) = vstrs (filt ws) := by
  have hl : (vstrs ws).length = ws.length := List.length_map ..
  rw [hl, range_fm [] ws (fun w => if ok w then some (V.str (toS w)) else none)]
  unfold filt vstrs
  rw [← List.filterMap_eq_filter, List.map_filterMap]
  congr 1
  funext w
  by_cases h : ok w <;> simp [h, Option.guard]
theorem ext_vals (L : List Nat) (ws : List (List Nat)) : (List.range (vstrs ws).length).flatMap (fun i => L.map fun c => V.str (toS (ws.getD i [] ++ [c]))) = vstrs (ext L ws) := by
  have hl : (vstrs ws).length = ws.length := List.length_map ..
  rw [hl, range_flat [] ws (fun w => L.map fun c => V.str (toS (w ++ [c])))]
  unfold ext vstrs
  rw [List.map_flatMap]
  congr 1
  funext w
  rw [List.map_map]
  rfl
theorem vstrs_app (a b : List (List Nat)) : vstrs a ++ vstrs b = vstrs (a ++ b) := (List.map_append ..).symm
theorem slice_take {xs : List V} {n : Nat} (h : n ≤ xs.length) : cutV xs none (some (n : Int)) = xs.take n := by
  unfold cutV
  rw [HT.sIx_none, HT.sIx_nat, Nat.min_eq_left h]
  rfl
theorem ok_names_of (T : Env K mg) : FnOk P w K mg base CX0 1 (He.ga K "names_of") T.fd_names_of ["letters", "many"] sp_names_of := by
  refine T.F_names_of.ok sc_names_of (fun vs H Q E h => ?_) (fun cdv A outer s H vs Q E hr h => ?_)
  · obtain ⟨z, n, rfl, _⟩ := h
    rfl
  · obtain ⟨z, many, rfl, G, hm, h⟩ := h
    have nd := sc_names_of.nd
    refine ⟨_, PSs.nox (pss_cons (ps_set (i := 2) nd rfl (Or.inl rfl) (pe_lst pa_nil))
      (pss_cons (ps_set (i := 3) nd rfl (Or.inl rfl) (pe_lst (pa_cons pe_str pa_nil)))
      (pss_cons (ps_while PassesOwn.never (pt_cmpR op_ltM (pe_callB (cLen (K := K)) (by rfl) T.z_len (by decide +kernel) (pa_cons (pv 2) pa_nil)) (pv 1) (nomark _)) (pss_cons (ps_setLc2 (i := 3) (own := [("word", 4), ("letter", 5)]) (vs1 := [5]) (g := (gName 4)) (g1 := (gName 5)) rfl nd rfl rfl (sw_true rfl rfl rfl (by decide +kernel)) (piAny (K := K) (pv 3)) (blkOk_by (own := [("word", 4), ("letter", 5)]) (N := N_names_of) (sc := defScope s_names_of) (by decide +kernel)) (by decide) (fun _ _ _ _ _ => (pg_name (i := 4) nd rfl (Or.inl rfl))) (fun _ _ _ _ _ => pts_nil) (fun _ _ _ _ _ => (piAny (K := K) (pv 0))) (fun _ _ _ _ _ => (pg_name (i := 5) nd rfl (Or.inl rfl))) (fun _ _ _ _ _ => pts_nil) (fun _ _ _ _ _ => (pe_op (oAdd (K := K)) (pv 4) (pv 5))))
      (pss_one (ps_set (i := 2) nd rfl (Or.inl rfl) (pe_op (oAdd (K := K)) (pv 2) (pe_lc (own := [("word", 4)]) (g := (gName 4)) rfl nd (piAny (K := K) (pv 3)) (blkOk_by (own := [("word", 4)]) (N := N_names_of) (sc := defScope s_names_of) (by decide +kernel)) (fun _ _ _ _ _ => (pg_name (i := 4) nd rfl (Or.inl rfl))) (fun _ _ _ _ _ => (pts_one (pt_cmpR (oNin (K := K)) (pv 4) (pe_glob (v := .ref (He.ga K "KEPT")) rfl T.m_KEPT rfl) (by rfl)))) (fun _ _ _ _ _ => (pv 4))))))))
      (pss_one (ps_ret (pe_slice (slM (K := K)) (pv 2) po_none (po_some (pv 1)))))))), ?_⟩
    refine ⟨Nat.zero_le _, fun f0 hf0 => ⟨(by show 1 ≤ sizeLine; decide), fun g0 hg0 => ?_⟩⟩
    have hfg0 : f0 ≠ g0 := ne_of_none upd_same hg0
    refine ⟨fun m σ H1 => ∃ (n : Nat) (f g : Addr), m = many - (Fd z.cps.toList n).length ∧ (Fd z.cps.toList n).length ≤ 11060 ∧ σ = [some (.str z), some (.int many), some (.ref f), some (.ref g), none, none] ∧ Same H H1 ∧ H f = none ∧
      H1 f = some (.lst (vstrs (Fd z.cps.toList n))) ∧ H1 g = some (.lst (vstrs (lev z.cps.toList n))), ⟨_, 0, f0, g0, rfl, Nat.zero_le _, rfl, Same.mut (Same.new hf0) ?_, hf0, ?_, ?_⟩, ?_⟩
    · exact Same.free (Same.new hf0) hg0
    · rw [upd_ne hfg0, upd_same]
      rfl
    · rw [upd_same]
      rw [show Str.ofString "" = toS [] by decide +kernel]
      rfl
    rintro m σ H1 ⟨n, f, g, rfl, hlt, rfl, e, hfn, hf, hg⟩
    refine ⟨_, rfl, _, _, rfl, .inl ⟨_, SqL.of hf, rfl⟩, _, rfl, ?_⟩
    have hlen : (vstrs (Fd z.cps.toList n)).length = (Fd z.cps.toList n).length := List.length_map ..
    by_cases hgo : (Fd z.cps.toList n).length < many
    · refine ⟨true, blT (by rw [hlen]; omega), ?_⟩
      have h400 : (Fd z.cps.toList n).length < 400 := by omega
      have hn := level_lt G h400
      have hnext := lev_next G h400
      have hpos := filt_pos G (n + 1)
      have hfl := filt_le (lev z.cps.toList (n + 1))
      have hF : (Fd z.cps.toList (n + 1)).length = (Fd z.cps.toList n).length + (filt (lev z.cps.toList (n + 1))).length := by rw [Fd_succ, List.length_append]
      refine ⟨fun σ' H' => ∃ (f g : Addr), σ' = [some (.str z), some (.int many), some (.ref f), some (.ref g), none, none] ∧ Same H H' ∧ H f = none ∧
        H' f = some (.lst (vstrs (Fd z.cps.toList (n + 1)))) ∧ H' g = some (.lst (vstrs (lev z.cps.toList (n + 1)))), ?_, ?_⟩
      · rintro σ' H' ⟨f', g', rfl, e', hfn', hf', hg'⟩
        exact ⟨_, by omega, n + 1, f', g', rfl, by omega, rfl, e', hfn', hf', hg'⟩
      -- grown = [word + letter for word in grown for letter in letters]
      refine ⟨_, rfl, .inl ⟨⟨_, SqL.of hg⟩, fun D hD => lc2_map walk_list (fun i => z.cps.toList.map fun c => V.str (toS ((lev z.cps.toList n).getD i [] ++ [c]))) hD (fun H' e' => SqL.of (e' _ _ hg)) ?_ (fun i x H2 H3 hi e2 y RI Rn hI _ => ?_) (fun H2 e2 hd2 => ?_)⟩⟩
      · rw [ext_vals]
        show (vstrs (lev z.cps.toList (n + 1))).length ≤ _
        rw [show (vstrs (lev z.cps.toList (n + 1))).length = (lev z.cps.toList (n + 1)).length from List.length_map ..]
        exact Nat.le_trans hnext (by decide)
      · obtain ⟨rfl, hx⟩ := y
        obtain ⟨rfl, hw⟩ := vstrs_at hx
        refine ⟨rfl, ?_⟩
        refine ⟨_, rfl, hI _ _ _ (Same.refl _) ⟨z.cps.size, _, _, fun j => some (V.str (toS ((lev z.cps.toList n).getD i [] ++ [z.cps.toList.getD j 0]))), walk_str, fun _ _ _ => True.intro, ?_, fun j x H5 H6 hj e5 b5 y5 Ry Rn' hy _ => ?_⟩⟩
        · rw [show z.cps.size = z.cps.toList.length from (Array.length_toList ..).symm, range_fm 0 z.cps.toList (fun c => some (V.str (toS ((lev z.cps.toList n).getD i [] ++ [c]))))]
          rw [show (fun c => some (V.str (toS ((lev z.cps.toList n).getD i [] ++ [c])))) = some ∘ (fun c => V.str (toS ((lev z.cps.toList n).getD i [] ++ [c]))) from rfl, List.filterMap_eq_map]
        · obtain ⟨rfl, c, hc, rfl⟩ := y5
          have hc' : z.cps.toList.getD j 0 = c := getD_of (by rw [Array.getElem?_toList]; exact hc)
          refine ⟨rfl, ?_⟩
          have hwl := (lev_mem (List.mem_of_getElem? hw)).1
          refine ⟨_, rfl, _, rfl, ?_, hy _ _ (Same.refl _) ?_⟩
          · show ((lev z.cps.toList n).getD i []).toArray.size + 1 ≤ sizeLine
            rw [List.size_toArray, hwl]
            exact Nat.le_trans (by omega : n + 1 ≤ 400) (by decide)
          · show some (V.str (toS (_ ++ [z.cps.toList.getD j 0]))) = _
            rw [hc', toS_app]
      rw [ext_vals] at hd2
      have hd2 : H2 D = some (.lst (vstrs (lev z.cps.toList (n + 1)))) := hd2
      -- found = found + [word for word in grown if word not in KEPT]
      refine ⟨_, rfl, _, rfl, .inl ⟨⟨_, SqL.of hd2⟩, fun D2 hD2 => lc_map walk_list (fun i => if ok ((lev z.cps.toList (n + 1)).getD i []) then some (V.str (toS ((lev z.cps.toList (n + 1)).getD i []))) else none) hD2 ?_ (fun H' e' => SqL.of (e' _ _ hd2)) (fun i x H3 H4 hi e3 y Ry Rn hy hn' => ?_) (fun H3 e3 hd3 => ?_)⟩⟩
      · rw [show (vstrs (lev z.cps.toList (n + 1))).length = (lev z.cps.toList (n + 1)).length from List.length_map ..]
        exact Nat.le_trans hnext (by decide)
      · obtain ⟨rfl, hx⟩ := y
        obtain ⟨rfl, hw⟩ := vstrs_at hx
        refine ⟨rfl, ?_⟩
        refine ⟨_, rfl, _, _, rfl, .inr (T.q_KEPT _), rfl, by rw [kept_vals]; exact flat_strs _, ok ((lev z.cps.toList (n + 1)).getD i []), ?_, ?_⟩
        · rw [if_pos rfl, kept_vals, inV_strs]
          rfl
        · cases hok : ok ((lev z.cps.toList (n + 1)).getD i []) with
          | true => exact ⟨_, rfl, hy _ _ (Same.refl _) (by rw [hok]; rfl)⟩
          | false => exact hn' _ (Same.refl _) (by rw [hok]; rfl)
      rw [filt_vals] at hd3
      have hf3 : H3 f = some (.lst (vstrs (Fd z.cps.toList n))) := e3 _ _ (e2 _ _ hf)
      refine .inl ⟨_, _, hf3, hd3, ?_, fun p hp => ⟨p, D, rfl, Same.mut (e.trans (e2.trans e3)) ?_, ?_, ?_, ?_⟩⟩
      · unfold vstrs
        rw [List.length_map, List.length_map, ← hF]
        exact Nat.le_trans (by omega : _ ≤ 400 + 10660) (by decide)
      · exact Same.free (e.trans (e2.trans e3)) hp
      · exact Same.free (e.trans (e2.trans e3)) hp
      · rw [upd_same, vstrs_app, ← Fd_succ]
      · rw [upd_ne (ne_of_none (e3 _ _ hd2) hp)]
        exact e3 _ _ hd2
    · refine ⟨false, blF (by rw [hlen]; omega), ?_⟩
      refine ⟨_, rfl, _, rfl, _, rfl, .inl ⟨_, _, rfl, SqL.of hf, fun p hp => ?_⟩⟩
      have hge : many ≤ (Fd z.cps.toList n).length := by omega
      refine h _ p (Same.mut e (Same.free e hp)) (Same.free e hp) ?_
      rw [upd_same, slice_take (by rw [hlen]; exact hge)]
      unfold vstrs
      rw [← List.map_take, sup_eq G hge]
theorem ok_supply (T : Env K mg) : FnOk P w K mg base CX0 4 (He.ga K "supply") T.fd_supply ["letters", "many"] sp_supply := by
  refine T.F_supply.ok sc_supply (fun vs H Q E h => ?_) (fun cdv A outer s H vs Q E hr h => ?_)
  · obtain ⟨z, n, rfl, _⟩ := h
    rfl
  · obtain ⟨z, many, rfl, G, hm, h⟩ := h
    have nd := sc_supply.nd
    refine ⟨_, PSs.nox (pss_cons (ps_expr (pe_call (ok_look_at_letters T) hr (by rfl) T.m_look_at_letters T.F_look_at_letters.kp T.b_look_at_letters .nil pass0 (pa_cons (pv 0) pa_nil)))
      (pss_cons (ps_if (PW.pt (pw_or (pt_not (ptT (K := K) (pe_callB (cIsi (K := K)) (by rfl) T.z_isinstance (by decide +kernel) (pa_cons (pv 1) (pa_cons (pe_bltn (v := .ty "int") (u := .type "int") rfl T.z_int (by decide +kernel) rfl) pa_nil))))) (pw_or (ptT (K := K) (pe_callB (cIsi (K := K)) (by rfl) T.z_isinstance (by decide +kernel) (pa_cons (pv 1) (pa_cons (pe_bltn (v := .ty "bool") (u := .type "bool") rfl T.z_bool (by decide +kernel) rfl) pa_nil)))) (pw_or1 (pt_not (pt_chain op_leM op_leM pe_int (pv 1) (pe_glob (v := .int 400) rfl T.m_MOST_NAMES ⟨_, rfl⟩))))))) (pss_one ps_never) pss_nil)
      (pss_one (ps_ret (pe_call (ok_names_of T) (hr.mono (by decide)) (by rfl) T.m_names_of T.F_names_of.kp T.b_names_of .nil pass0 (pa_cons (pv 0) (pa_cons (pv 1) pa_nil))))))), ?_⟩
    refine ⟨_, rfl, z, rfl, G, fun H1 e1 => ?_⟩
    refine ⟨_, rfl, _, _, _, _, true, rfl, .ty _, .base (.int _), kit_ty (by decide +kernel), true, rfl, ?_⟩
    refine ⟨_, rfl, _, _, _, _, false, rfl, .ty _, .base (.int _), kit_ty (by decide +kernel), false, rfl, ?_⟩
    refine ⟨_, rfl, true, blT (by omega), true, blT (by omega), ?_⟩
    refine ⟨_, rfl, _, rfl, z, many, rfl, G, hm, fun H2 p e2 hp h2 => h H2 p (e1.trans e2) (Same.free e1 hp) h2⟩
theorem ok__law_supply (T : Env K mg) : FnOk P w K mg base CX0 1 (He.ga K "_law_supply") T.fd__law_supply ["signs", "count"] sp__law_supply := by
  refine T.F__law_supply.ok sc__law_supply (fun vs H Q E h => ?_) (fun cdv A outer s H vs Q E hr h => ?_)
  · obtain ⟨z, n, rfl, _⟩ := h
    rfl
  · obtain ⟨z, many, rfl, G, hm, h⟩ := h
    have nd := sc__law_supply.nd
    refine ⟨_, PSs.nox (pss_cons (ps_set (i := 2) nd rfl (Or.inr rfl) (pe_lst (pa_cons pe_str (pa_cons pe_str (pa_cons pe_str (pa_cons pe_str (pa_cons pe_str (pa_cons pe_str (pa_cons pe_str (pa_cons pe_str (pa_cons pe_str (pa_cons pe_str pa_nil))))))))))))
      (pss_cons (ps_set (i := 3) nd rfl (Or.inl rfl) (pe_lst pa_nil))
      (pss_cons (ps_set (i := 4) nd rfl (Or.inl rfl) (pe_callTy (cList (K := K) rfl) (by rfl) T.z_list (by decide +kernel) (pa_cons (pv 0) pa_nil)))
      (pss_cons (ps_while PassesOwn.never (pt_cmpR op_ltM (pe_callB (cLen (K := K)) (by rfl) T.z_len (by decide +kernel) (pa_cons (pv 3) pa_nil)) (pv 1) (nomark _)) (pss_cons (ps_set (i := 3) nd rfl (Or.inl rfl) (pe_op (oAdd (K := K)) (pv 3) (pe_lc (own := [("word", 6)]) (g := (gName 6)) rfl nd (piAny (K := K) (pv 4)) (blkOk_by (own := [("word", 6)]) (N := N__law_supply) (sc := defScope s__law_supply) (by decide +kernel)) (fun _ _ _ _ _ => (pg_name (i := 6) nd rfl (Or.inl rfl))) (fun _ _ _ _ _ => (pts_one (pt_cmpR (oNin (K := K)) (pv 6) (pv 2) (by rfl)))) (fun _ _ _ _ _ => (pv 6)))))
      (pss_cons (ps_set (i := 5) nd rfl (Or.inl rfl) (pe_lst pa_nil))
      (pss_cons (ps_for PassesOwn.never rfl (piAny (K := K) (pe_op (oMul (K := K)) (pv 4) (pe_callTy cInt (by rfl) T.z_int (by decide +kernel) (pa_cons (pe_cmpR op_ltM (pe_callB (cLen (K := K)) (by rfl) T.z_len (by decide +kernel) (pa_cons (pv 3) pa_nil)) (pv 1) (nomark _)) pa_nil)))) (pg_name (i := 6) nd rfl (Or.inl rfl)) (pss_one (ps_for PassesOwn.never rfl (piAny (K := K) (pv 0)) (pg_name (i := 7) nd rfl (Or.inl rfl)) (pss_one (ps_expr (peBm (K := K) PySem.F.plainAttrs_list PySem.F.slot_list_append PySem.F.type_list_append mt_append (pv 5) (pa_cons (pe_op (oAdd (K := K)) (pv 6) (pv 7)) pa_nil)))))))
      (pss_one (ps_set (i := 4) nd rfl (Or.inl rfl) (pv 5)))))))
      (pss_one (ps_ret (pe_slice (slM (K := K)) (pv 3) po_none (po_some (pv 1))))))))), ?_⟩
    have hz : z.length ≤ sizeLine := by
      have h2 := G.hi
      have hl : z.length = z.cps.toList.length := by simp [Str.length]
      exact Nat.le_trans (by omega : z.length ≤ 26) (by decide)
    have ek : ([V.str (Str.ofString "let"), V.str (Str.ofString "if"), V.str (Str.ofString "else"), V.str (Str.ofString "while"), V.str (Str.ofString "return"), V.str (Str.ofString "fail"), V.str (Str.ofString "try"), V.str (Str.ofString "catch"), V.str (Str.ofString "out"), V.str (Str.ofString "fn")] : List V) = vstrs keptW := kept_vals
    refine ⟨(by show 10 ≤ sizeLine; decide), fun k0 hk0 => ⟨Nat.zero_le _, fun f0 hf0 => ⟨_, rfl, .inr ⟨z, rfl, hz, fun g0 hg0 => ?_⟩⟩⟩⟩
    rw [ek] at hf0 hg0 ⊢
    have e1 : Same H (upd H k0 (.lst (vstrs keptW))) := Same.new hk0
    have e2 : Same H (upd (upd H k0 (.lst (vstrs keptW))) f0 (.lst [])) := Same.mut e1 (Same.free e1 hf0)
    have hkf : k0 ≠ f0 := ne_of_none upd_same hf0
    have hkg : k0 ≠ g0 := ne_of_none (by rw [upd_ne hkf]; exact upd_same) hg0
    have hfg : f0 ≠ g0 := ne_of_none upd_same hg0
    refine ⟨fun m σ H1 => ∃ (n : Nat) (f g : Addr) (gs : List (List Nat)) (a b c : Option V), m = many - (Fd z.cps.toList n).length ∧ (Fd z.cps.toList n).length ≤ 11060 ∧
      σ = [some (.str z), some (.int many), some (.ref k0), some (.ref f), some (.ref g), a, b, c] ∧ Same H H1 ∧ H f = none ∧ H1 k0 = some (.lst (vstrs keptW)) ∧
      H1 f = some (.lst (vstrs (Fd z.cps.toList n))) ∧ H1 g = some (.lst (vstrs gs)) ∧ ((Fd z.cps.toList n).length < many → gs = lev z.cps.toList (n + 1)),
      ⟨_, 0, f0, g0, lev z.cps.toList 1, none, none, none, rfl, Nat.zero_le _, rfl, Same.mut e2 (Same.free e2 hg0), Same.free e1 hf0, ?_, ?_, ?_, fun _ => rfl⟩, ?_⟩
    · rw [upd_ne hkg, upd_ne hkf, upd_same]
    · rw [upd_ne hfg, upd_same]
      rfl
    · rw [upd_same]
      refine congrArg (fun l => some (HO.lst l)) ?_
      show z.cps.toList.map (fun c => V.str (toS [c])) = vstrs (ext z.cps.toList [[]])
      unfold ext vstrs
      rw [List.flatMap_singleton, List.map_map]
      rfl
    rintro m σ H1 ⟨n, f, g, gs, a, b, c, rfl, hlt, rfl, e, hfn, hk, hf, hg, hgs⟩
    refine ⟨_, rfl, _, _, rfl, .inl ⟨_, SqL.of hf, rfl⟩, _, rfl, ?_⟩
    have hlen : (vstrs (Fd z.cps.toList n)).length = (Fd z.cps.toList n).length := List.length_map ..
    by_cases hgo : (Fd z.cps.toList n).length < many
    · refine ⟨true, blT (by rw [hlen]; omega), ?_⟩
      obtain rfl := hgs hgo
      have h400 : (Fd z.cps.toList n).length < 400 := by omega
      have hn := level_lt G h400
      have hnext := lev_next G h400
      have hpos := filt_pos G (n + 1)
      have hfl := filt_le (lev z.cps.toList (n + 1))
      have hF : (Fd z.cps.toList (n + 1)).length = (Fd z.cps.toList n).length + (filt (lev z.cps.toList (n + 1))).length := by rw [Fd_succ, List.length_append]
      refine ⟨fun σ' H' => ∃ (f g : Addr) (gs : List (List Nat)) (a b c : Option V), σ' = [some (.str z), some (.int many), some (.ref k0), some (.ref f), some (.ref g), a, b, c] ∧ Same H H' ∧ H f = none ∧ H' k0 = some (.lst (vstrs keptW)) ∧
        H' f = some (.lst (vstrs (Fd z.cps.toList (n + 1)))) ∧ H' g = some (.lst (vstrs gs)) ∧ ((Fd z.cps.toList (n + 1)).length < many → gs = lev z.cps.toList (n + 2)), ?_, ?_⟩
      · rintro σ' H' ⟨f', g', gs', a', b', c', rfl, e', hfn', hk', hf', hg', hgs'⟩
        exact ⟨_, by omega, n + 1, f', g', gs', a', b', c', rfl, by omega, rfl, e', hfn', hk', hf', hg', hgs'⟩
      -- found = found + [word for word in grown if word not in kept]
      refine ⟨_, rfl, _, rfl, .inl ⟨⟨_, SqL.of hg⟩, fun D2 hD2 => lc_map walk_list (fun i => if ok ((lev z.cps.toList (n + 1)).getD i []) then some (V.str (toS ((lev z.cps.toList (n + 1)).getD i []))) else none) hD2 ?_ (fun H' e' => SqL.of (e' _ _ hg)) (fun i x H3 H4 hi e3 y Ry Rn hy hn' => ?_) (fun H3 e3 hd3 => ?_)⟩⟩
      · rw [show (vstrs (lev z.cps.toList (n + 1))).length = (lev z.cps.toList (n + 1)).length from List.length_map ..]
        exact Nat.le_trans hnext (by decide)
      · obtain ⟨rfl, hx⟩ := y
        obtain ⟨rfl, hw⟩ := vstrs_at hx
        refine ⟨rfl, ?_⟩
        refine ⟨_, rfl, _, rfl, _, _, rfl, .inl (SqL.of (e3 _ _ hk)), rfl, flat_strs _, ok ((lev z.cps.toList (n + 1)).getD i []), ?_, ?_⟩
        · rw [if_pos rfl, inV_strs]
          rfl
        · cases hok : ok ((lev z.cps.toList (n + 1)).getD i []) with
          | true => exact ⟨_, rfl, hy _ _ (Same.refl _) (by rw [hok]; rfl)⟩
          | false => exact hn' _ (Same.refl _) (by rw [hok]; rfl)
      rw [filt_vals] at hd3
      have hf3 : H3 f = some (.lst (vstrs (Fd z.cps.toList n))) := e3 _ _ hf
      refine .inl ⟨_, _, hf3, hd3, ?_, fun p hp => ?_⟩
      · unfold vstrs
        rw [List.length_map, List.length_map, ← hF]
        exact Nat.le_trans (by omega : _ ≤ 400 + 10660) (by decide)
      -- longer = []
      have e4 : Same H (upd H3 p (.lst (vstrs (Fd z.cps.toList n) ++ vstrs (filt (lev z.cps.toList (n + 1)))))) := Same.mut (e.trans e3) (Same.free (e.trans e3) hp)
      have hgp : g ≠ p := ne_of_none (e3 _ _ hg) hp
      have hkp : k0 ≠ p := ne_of_none (e3 _ _ hk) hp
      refine ⟨Nat.zero_le _, fun lo hlo => ?_⟩
      rw [vstrs_app, ← Fd_succ] at hlo e4 ⊢
      have hplo : p ≠ lo := ne_of_none upd_same hlo
      have hglo : g ≠ lo := ne_of_none (by rw [upd_ne hgp]; exact e3 _ _ hg) hlo
      have hklo : k0 ≠ lo := ne_of_none (by rw [upd_ne hkp]; exact e3 _ _ hk) hlo
      have hlen2 : (vstrs (Fd z.cps.toList (n + 1))).length = (Fd z.cps.toList (n + 1)).length := List.length_map ..
      -- grown * int(len(found) < count)
      obtain ⟨ws, hws⟩ : ∃ ws, ws = (if (Fd z.cps.toList (n + 1)).length < many then lev z.cps.toList (n + 1) else []) := ⟨_, rfl⟩
      have hwl : ws.length ≤ 10660 := by
        rw [hws]
        split
        · exact hnext
        · exact Nat.zero_le _
      have hwm : ∀ w ∈ ws, w.length = n + 1 := fun w hw => by
        rw [hws] at hw
        split at hw
        · exact (lev_mem hw).1
        · cases hw
      refine ⟨_, rfl, _, rfl, _, _, rfl, .inl ⟨_, SqL.of (by rw [upd_ne hplo]; exact upd_same), rfl⟩, _, rfl, .inr ⟨_, rfl, ?_⟩⟩
      refine ⟨vstrs (lev z.cps.toList (n + 1)), by rw [upd_ne hglo, upd_ne hgp]; exact e3 _ _ hg, ?_, ?_, ?_, fun q hq => ?_⟩
      · split <;> decide
      · split <;> decide
      · rw [show (vstrs (lev z.cps.toList (n + 1))).length = (lev z.cps.toList (n + 1)).length from List.length_map ..]
        split
        · rw [show (1 : Int).toNat = 1 from rfl, Nat.mul_one]
          exact Nat.le_trans hnext (by decide)
        · exact Nat.zero_le _
      have erep : (List.replicate (if decide (((vstrs (Fd z.cps.toList (n + 1))).length : Int) < (many : Int)) = true then (1 : Int) else 0).toNat (vstrs (lev z.cps.toList (n + 1)))).flatten = vstrs ws := by
        rw [hws, hlen2]
        by_cases hc : (Fd z.cps.toList (n + 1)).length < many
        · rw [if_pos hc, if_pos (decide_eq_true (by omega))]
          simp
        · rw [if_neg hc, if_neg (by simp; omega)]
          rfl
      rw [erep]
      obtain ⟨Hc, hHc⟩ : ∃ Hc, Hc = upd (upd (upd H3 p (.lst (vstrs (Fd z.cps.toList (n + 1))))) lo (.lst [])) q (.lst (vstrs ws)) := ⟨_, rfl⟩
      rw [← hHc]
      have e5 : Same H (upd (upd H3 p (.lst (vstrs (Fd z.cps.toList (n + 1))))) lo (.lst [])) := Same.mut e4 (Same.free e4 hlo)
      have hqn : H q = none := Same.free e5 hq
      have hlon : H lo = none := Same.free e4 hlo
      have e6 : Same H Hc := by rw [hHc]; exact Same.mut e5 hqn
      have hloq : lo ≠ q := ne_of_none upd_same hq
      have hpq : p ≠ q := ne_of_none (by rw [upd_ne hplo]; exact upd_same) hq
      have hkq : k0 ≠ q := ne_of_none (by rw [upd_ne hklo, upd_ne hkp]; exact e3 _ _ hk) hq
      have cq : Hc q = some (.lst (vstrs ws)) := by rw [hHc, upd_same]
      have cl : Hc lo = some (.lst (vstrs [])) := by
        rw [hHc, upd_ne hloq, upd_same]
        rfl
      have cp : Hc p = some (.lst (vstrs (Fd z.cps.toList (n + 1)))) := by rw [hHc, upd_ne hpq, upd_ne hplo, upd_same]
      have ckk : Hc k0 = some (.lst (vstrs keptW)) := by rw [hHc, upd_ne hkq, upd_ne hklo, upd_ne hkp]; exact e3 _ _ hk
      have sm : ∀ {H' : Hp}, But lo Hc H' → Same H H' := fun {H'} bt x o hx => bt x o (ne_of_none hx hlon) (e6 x o hx)
      refine .inl ⟨⟨_, SqL.of cq⟩, for_it (walk_list (xs := vstrs ws)) (fun i σ H' => ∃ b c, σ = [some (.str z), some (.int many), some (.ref k0), some (.ref p), some (.ref g), some (.ref lo), b, c] ∧ But lo Hc H' ∧ H' lo = some (.lst (vstrs (ext z.cps.toList (ws.take i)))))
        ⟨b, c, rfl, But.refl _ _, cl⟩ (fun i σ H' _ hp' => ?_) (fun i x σ H' H'' hi hp' y => ?_) (fun σ H' hp' => ?_)⟩
      · obtain ⟨_, _, _, bt, _⟩ := hp'
        exact SqL.of (bt _ _ hloq.symm cq)
      · obtain ⟨b', c', rfl, bt, hl'⟩ := hp'
        obtain ⟨rfl, hx⟩ := y
        obtain ⟨rfl, hw⟩ := vstrs_at hx
        have hwi := hwm _ (List.mem_of_getElem? hw)
        have hil : i < ws.length := (List.getElem?_eq_some_iff.mp hw).1
        have htake : ws.take (i + 1) = ws.take i ++ [ws.getD i []] := by
          rw [List.take_add_one, hw]
          rfl
        have hext : ext z.cps.toList (ws.take (i + 1)) = ext z.cps.toList (ws.take i) ++ z.cps.toList.map (fun c => ws.getD i [] ++ [c]) := by
          rw [htake]
          unfold ext
          rw [List.flatMap_append, List.flatMap_singleton]
        have hbig : (ext z.cps.toList (ws.take i)).length + z.cps.toList.length ≤ 10660 * 26 := by
          have h1 := ext_length z.cps.toList (ws.take i)
          have h2 := G.hi
          have h3 : (ws.take i).length = i := by rw [List.length_take]; omega
          rw [h1, h3]
          have h4 : i * z.cps.toList.length + z.cps.toList.length = (i + 1) * z.cps.toList.length := by rw [Nat.succ_mul]
          rw [h4]
          exact Nat.mul_le_mul (by omega) h2
        refine ⟨_, rfl, ?_⟩
        refine for_it walk_str (fun j σ H' => ∃ c, σ = [some (.str z), some (.int many), some (.ref k0), some (.ref p), some (.ref g), some (.ref lo), some (.str (toS (ws.getD i []))), c] ∧ But lo Hc H' ∧ H' lo = some (.lst (vstrs (ext z.cps.toList (ws.take i) ++ (z.cps.toList.take j).map (fun c => ws.getD i [] ++ [c])))))
          ⟨c', rfl, bt, by rw [hl']; simp⟩ (fun _ _ _ _ _ => True.intro) (fun j x σ H3' H4' hj hp3 y3 => ?_) (fun σ H3' hp3 => ?_)
        · obtain ⟨c3, rfl, bt3, hl3⟩ := hp3
          obtain ⟨rfl, cd, hcd, rfl⟩ := y3
          have hjl : j < z.cps.toList.length := by simpa using hj
          have htj : z.cps.toList.take (j + 1) = z.cps.toList.take j ++ [cd] := by
            rw [List.take_add_one, Array.getElem?_toList, hcd]
            rfl
          refine ⟨_, rfl, .inl ⟨rfl, _, SqL.of hl3⟩, _, rfl, _, rfl, ?_, lo, _, _, rfl, rfl, hl3, ?_, ?_⟩
          · show (ws.getD i []).toArray.size + 1 ≤ sizeLine
            rw [List.size_toArray, hwi]
            exact Nat.le_trans (by omega : n + 1 + 1 ≤ 402) (by decide)
          · unfold vstrs
            rw [List.length_map, List.length_append, List.length_map, List.length_take]
            exact Nat.lt_of_le_of_lt (by omega : _ ≤ 10660 * 26) (by decide)
          · refine ⟨_, rfl, bt3.mut, ?_⟩
            rw [upd_same, htj, toS_app, List.map_append, ← List.append_assoc]
            unfold vstrs
            rw [List.map_append (l₂ := [cd].map _)]
            rfl
        · obtain ⟨c3, rfl, bt3, hl3⟩ := hp3
          refine ⟨_, _, rfl, bt3, ?_⟩
          rw [hl3, hext, show z.cps.size = z.cps.toList.length from (Array.length_toList ..).symm, List.take_length]
      · obtain ⟨b', c', rfl, bt, hl'⟩ := hp'
        rw [show (vstrs ws).length = ws.length from List.length_map .., List.take_length] at hl'
        refine ⟨_, rfl, p, lo, ext z.cps.toList ws, _, _, _, rfl, sm bt, Same.free (e.trans e3) hp, bt _ _ hklo ckk, bt _ _ hplo cp, hl', fun hlt' => ?_⟩
        rw [hws, if_pos hlt']
        rfl
    · refine ⟨false, blF (by rw [hlen]; omega), ?_⟩
      refine ⟨_, rfl, _, rfl, _, rfl, .inl ⟨_, _, rfl, SqL.of hf, fun p hp => ?_⟩⟩
      have hge : many ≤ (Fd z.cps.toList n).length := by omega
      refine h _ p (Same.mut e (Same.free e hp)) (Same.free e hp) ?_
      rw [upd_same, slice_take (by rw [hlen]; exact hge)]
      unfold vstrs
      rw [← List.map_take, sup_eq G hge]
theorem strs_dp {K : PySem.W.Frag} {H : Hp} {p : Addr} {ws : List (List Nat)} (h : H p = some (.lst (vstrs ws))) : Dp K H (.ref p) (.list ((ws.map toS).map PyData.str)) := by
  refine .lst (SqL.of h) ?_
  unfold vstrs
  rw [show ws.map (fun w => V.str (toS w)) = (ws.map toS).map V.str by rw [List.map_map]; rfl]
  exact dp_strs _
theorem shaped_strs {l : List Str} (h : ∀ x ∈ l, PyData.strOk x = true) : PySem.SeqAt.shaped (.list (l.map PyData.str)) = true := by
  have h1 : PyData.canLayAll0 (l.map PyData.str) = true ∧ PyData.depthAll (l.map PyData.str) = 0 := by
    induction l with
    | nil => exact ⟨rfl, rfl⟩
    | cons x l ih =>
      obtain ⟨a, b⟩ := ih fun y hy => h y (List.mem_cons_of_mem _ hy)
      refine ⟨?_, ?_⟩
      · show (PyData.canLay0 (.str x) && PyData.canLayAll0 (l.map PyData.str)) = true
        rw [a, Bool.and_true]
        exact h x List.mem_cons_self
      · show max (PyData.depth (.str x)) (PyData.depthAll (l.map PyData.str)) = 0
        rw [b]
        rfl
  show (PyData.canLayAll0 (l.map PyData.str) && decide (PyData.depthAll (l.map PyData.str) + 1 ≤ 64)) = true
  rw [h1.1, h1.2]
  rfl
theorem strOk_of {L w : List Nat} (G : Good L) (h : ∀ c ∈ w, c ∈ L) : PyData.strOk (toS w) = true := by
  show (w.toArray.all (· < 0x110000)) = true
  rw [List.all_toArray]
  exact List.all_eq_true.mpr fun c hc => decide_eq_true (by have := G.al c (h c hc); omega)
theorem sup_mem {L : List Nat} {n : Nat} {w : List Nat} (h : w ∈ sup L n) : ∀ c ∈ w, c ∈ L := by
  have h1 := List.mem_of_mem_take h
  unfold Fd at h1
  obtain ⟨i, _, h2⟩ := List.mem_flatMap.mp h1
  exact (lev_mem (List.mem_filter.mp h2).1).2
theorem ok__law_good (T : Env K mg) : FnOk P w K mg base CX0 5 (He.ga K "_law_good") T.fd__law_good ["some", "count"] sp__law_good := by
  refine T.F__law_good.ok sc__law_good (fun vs H Q E h => ?_) (fun cdv A outer s H vs Q E hr h => ?_)
  · obtain ⟨z, n, rfl, _⟩ := h
    rfl
  · obtain ⟨z, many, rfl, G, hm, h⟩ := h
    have nd := sc__law_good.nd
    refine ⟨_, PSs.nox (pss_cons (ps_set (i := 2) nd rfl (Or.inl rfl) (pe_call (ok__law_supply T) (hr.mono (by decide)) (by rfl) T.m__law_supply T.F__law_supply.kp T.b__law_supply .nil pass0 (pa_cons (pv 0) (pa_cons (pv 1) pa_nil))))
      (pss_cons (ps_for PassesOwn.never rfl (pi_range1 (by rfl) T.z_range (pa_cons pe_int pa_nil)) (pg_name (i := 3) nd rfl (Or.inl rfl)) (pss_cons (ps_set (i := 4) nd rfl (Or.inl rfl) (pe_call (ok_supply T) hr (by rfl) T.m_supply T.F_supply.kp T.b_supply .nil pass0 (pa_cons (pv 0) (pa_cons (pv 1) pa_nil))))
      (pss_cons (ps_if (PW.pt (pw_or (pt_not (ptT (K := K) (pe_callB (cIsi (K := K)) (by rfl) T.z_isinstance (by decide +kernel) (pa_cons (pv 4) (pa_cons (pe_bltn (v := .ty "list") (u := .type "list") rfl T.z_list (by decide +kernel) rfl) pa_nil))))) (pw_or (pt_cmpR (oNe (K := K) hr.units) (pv 4) (pv 2) (nomark _)) (pw_or1 (pt_not (ptT (K := K) (pe_callB (cAll (K := K) rfl) (by rfl) T.z_all (by decide +kernel) (pa_cons (pe_lc (own := [("name", 5)]) (g := (gName 5)) rfl nd (piAny (K := K) (pv 4)) (blkOk_by (own := [("name", 5)]) (N := N__law_good) (sc := defScope s__law_good) (by decide +kernel)) (fun _ _ _ _ _ => (pg_name (i := 5) nd rfl (Or.inl rfl))) (fun _ _ _ _ _ => pts_nil) (fun _ _ _ _ _ => (pe_callB (cIsi (K := K)) (by rfl) T.z_isinstance (by decide +kernel) (pa_cons (pv 5) (pa_cons (pe_bltn (v := .ty "str") (u := .type "str") rfl T.z_str (by decide +kernel) rfl) pa_nil))))) pa_nil)))))))) (pss_one (ps_ret pe_bl)) pss_nil)
      (pss_one (ps_expr (peBm (K := K) PySem.F.plainAttrs_list PySem.F.slot_list_append PySem.F.type_list_append mt_append (pv 4) (pa_cons pe_str pa_nil)))))))
      (pss_one (ps_ret (pe_cmpR (oEq (K := K) hr.units) (pe_callK0 (ok_supply T) hr (by rfl) T.m_supply T.F_supply.kp (T.kb_supply_0_many_letters) pass0 (pk_cons (pv 1) (pk_cons (pv 0) pk_nil))) (pv 2) (nomark _)))))), ?_⟩
    have hlen : (sup z.cps.toList many).length = many := sup_len G many
    have hsh : PySem.SeqAt.shaped (.list (((sup z.cps.toList many).map toS).map PyData.str)) = true := shaped_strs fun x hx => by
      obtain ⟨w, hw, rfl⟩ := List.mem_map.mp hx
      exact strOk_of G (sup_mem hw)
    refine ⟨_, rfl, _, rfl, z, many, rfl, G, hm, fun H1 d e1 hd hd1 => ?_⟩
    refine ⟨2, rfl, by decide, by decide, for_range (lo := 0) (n := 2) (fun i σ H' => ∃ a b, σ = [some (.str z), some (.int many), some (.ref d), a, b, none] ∧ Same H1 H') ⟨_, _, rfl, Same.refl _⟩ (fun i σ H2 hi hp => ?_) (fun σ H2 hp => ?_)⟩
    · obtain ⟨a, b, rfl, e2⟩ := hp
      refine ⟨_, rfl, _, rfl, z, many, rfl, G, hm, fun H3 f e3 hf hf3 => ?_⟩
      have hd3 : H3 d = some (.lst (vstrs (sup z.cps.toList many))) := e3 _ _ (e2 _ _ hd1)
      refine ⟨_, rfl, _, _, _, _, true, rfl, .ty _, .base (.lst hf3), kit_ty (by decide +kernel), true, rfl, ?_⟩
      refine ⟨_, rfl, _, rfl, .inr ⟨_, _, strs_dp hf3, strs_dp hd3, hsh, hsh, false, ?_, ?_⟩⟩
      · rw [PySem.SeqAt.eqv_refl]
        all_goals first | rfl | exact PySem.SeqAt.canLay_of_shaped hsh
      refine ⟨_, rfl, .inl ⟨⟨_, SqL.of hf3⟩, fun D hD => lc_map walk_list (fun _ => some (V.bl true)) hD ?_ (fun H' e' => SqL.of (e' _ _ hf3)) (fun i x H4 H5 hi e4 y Ry Rn hy hn => ?_) (fun H4 e4 hd4 => ?_)⟩⟩
      · unfold vstrs
        rw [List.length_map, hlen]
        exact Nat.le_trans hm (by decide)
      · obtain ⟨rfl, hx⟩ := y
        obtain ⟨rfl, hw⟩ := vstrs_at hx
        refine ⟨rfl, ?_⟩
        exact ⟨_, rfl, _, _, _, _, true, rfl, .ty _, .base (.str _), kit_ty (by decide +kernel), hy _ _ (Same.refl _) rfl⟩
      rw [filterMap_const] at hd4
      refine ⟨D, List.replicate (vstrs (sup z.cps.toList many)).length true, rfl, SqL.of (by rw [hd4, List.map_replicate]), true, ?_, ?_⟩
      · show true = _
        simp
      -- found.append('a')
      refine ⟨_, rfl, .inl ⟨rfl, _, SqL.of (e4 _ _ hf3)⟩, f, _, _, rfl, rfl, e4 _ _ hf3, ?_, _, _, rfl, ?_⟩
      · unfold vstrs
        rw [List.length_map, hlen]
        exact Nat.lt_of_le_of_lt hm (by decide)
      · exact Same.mut ((e2.trans e3).trans e4) (Same.free e2 hf)
    · obtain ⟨a, b, rfl, e2⟩ := hp
      refine ⟨_, rfl, _, rfl, z, many, rfl, G, hm, fun H3 f e3 hf hf3 => ?_⟩
      have hd3 : H3 d = some (.lst (vstrs (sup z.cps.toList many))) := e3 _ _ (e2 _ _ hd1)
      refine ⟨_, rfl, .inr ⟨_, _, strs_dp hf3, strs_dp hd3, hsh, hsh, ?_⟩⟩
      rw [PySem.SeqAt.eqv_refl]
      · exact h _ ((e1.trans e2).trans e3)
      · exact PySem.SeqAt.canLay_of_shaped hsh
def alph : List Nat := (List.range 26).map (97 + ·)
theorem alph_str : (Str.ofString "abcdefghijklmnopqrstuvwxyz").cps.toList = alph := by decide +kernel
def signs (cs : List Nat) : List V := cs.map fun c => V.str ⟨#[c]⟩
theorem alph_good {cs rest : List Nat} (h : (cs ++ rest).Perm alph) (h2 : 2 ≤ cs.length) : Good cs := by
  have hn : (cs ++ rest).Nodup := h.nodup_iff.mpr (by decide)
  have hlen : (cs ++ rest).length = 26 := h.length_eq
  rw [List.length_append] at hlen
  refine ⟨(List.nodup_append.mp hn).1, h2, by omega, fun c hc => ?_⟩
  have hm : c ∈ alph := h.mem_iff.mp (List.mem_append_left _ hc)
  unfold alph at hm
  obtain ⟨k, hk, rfl⟩ := List.mem_map.mp hm
  have := List.mem_range.mp hk
  omega
theorem good_str (x : Str) (w : List Nat) (h : x.cps.toList = w) (g : Good w) : GoodS x := by
  unfold GoodS
  rw [h]
  exact g
theorem good_any (w : List Nat) (h : w.Nodup ∧ 2 ≤ w.length ∧ w.length ≤ 26 ∧ ∀ c ∈ w, 97 ≤ c ∧ c ≤ 122) : Good w := ⟨h.1, h.2.1, h.2.2.1, h.2.2.2⟩
theorem ten_good : ∀ x ∈ (["fn", "nf", "if", "ifl", "tle", "outr", "tryx", "lets", "cath", "abcdefghijklmnopqrstuvwxyz"] : List Str), GoodS x := by
  intro x hx
  refine good_any _ ?_
  revert x
  decide +kernel
/-- the turn's own things: the pile at p, the letters left at l -/
structure Tw (H1 H' : Hp) (p l : Addr) (c : Int) (rest : List Nat) : Prop where
  s : Same H1 H'
  hp : H' p = some (.lst [.int c])
  hl : H' l = some (.lst (signs rest))
  pn : H1 p = none
  ln : H1 l = none
  ne : p ≠ l
section
variable {H1 H' : Hp} {p l q : Addr} {c c' : Int} {rest rest' : List Nat} {o : HO}
theorem Tw.take (t : Tw H1 H' p l c rest) : Tw H1 (upd H' p (.lst [.int c'])) p l c' rest :=
  ⟨Same.mut t.s t.pn, upd_same, by rw [upd_ne t.ne.symm]; exact t.hl, t.pn, t.ln, t.ne⟩
theorem Tw.pop (t : Tw H1 H' p l c rest) : Tw H1 (upd H' l (.lst (signs rest'))) p l c rest' :=
  ⟨Same.mut t.s t.ln, by rw [upd_ne t.ne]; exact t.hp, upd_same, t.pn, t.ln, t.ne⟩
theorem Tw.new (t : Tw H1 H' p l c rest) (hq : H' q = none) : Tw H1 (upd H' q o) p l c rest :=
  ⟨Same.mut t.s (t.s.free hq), by rw [upd_ne (ne_of_none t.hp hq)]; exact t.hp, by rw [upd_ne (ne_of_none t.hl hq)]; exact t.hl, t.pn, t.ln, t.ne⟩
end
theorem signs_len (cs : List Nat) : (signs cs).length = cs.length := List.length_map ..
theorem ok_law (T : Env K mg) : FnOk P w K mg base CX0 6 (He.ga K "law") T.fd_law ["script"] (sp_law K) := by
  refine T.F_law.ok sc_law (fun vs H Q E h => ?_) (fun cdv A outer s H vs Q E hr h => ?_)
  · obtain ⟨z, n, rfl, _⟩ := h
    rfl
  · obtain ⟨a, ns, rfl, hs, hns, h⟩ := h
    have nd := sc_law.nd
    refine ⟨_, PSs.nox (pss_cons (ps_for PassesOwn.never rfl (pi_range1 (by rfl) T.z_range (pa_cons (pe_callB (cMax rfl) (by rfl) T.z_max (by decide +kernel) (pa_cons (pe_callB (cMin rfl) (by rfl) T.z_min (by decide +kernel) (pa_cons (pe_callB (cLen (K := K)) (by rfl) T.z_len (by decide +kernel) (pa_cons (pv 0) pa_nil)) (pa_cons pe_int pa_nil))) (pa_cons pe_int pa_nil))) pa_nil)) (pg_name (i := 1) nd rfl (Or.inl rfl)) (pss_cons (ps_set (i := 3) nd rfl (Or.inr rfl) (pe_lst (pa_cons (pe_call (ok__law_cell T) (hr.mono (by decide)) (by rfl) T.m__law_cell T.F__law_cell.kp T.b__law_cell .nil pass0 (pa_cons (pv 0) (pa_cons (pv 1) pa_nil))) pa_nil)))
      (pss_cons (ps_set (i := 4) nd rfl (Or.inr rfl) (pe_callTy (cList (K := K) rfl) (by rfl) T.z_list (by decide +kernel) (pa_cons pe_str pa_nil)))
      (pss_cons (ps_set (i := 5) nd rfl (Or.inl rfl) (pe_ix (ixM (K := K)) (pe_lst (pa_cons pe_int (pa_cons pe_int (pa_cons (pe_op (oAdd (K := K)) pe_int (pe_call (ok__law_take T) (hr.mono (by decide)) (by rfl) T.m__law_take T.F__law_take.kp T.b__law_take .nil pass0 (pa_cons (pv 3) (pa_cons pe_int pa_nil)))) (pa_cons pe_int pa_nil))))) (pe_call (ok__law_take T) (hr.mono (by decide)) (by rfl) T.m__law_take T.F__law_take.kp T.b__law_take .nil pass0 (pa_cons (pv 3) (pa_cons pe_int pa_nil))) (fun _ _ => rfl)))
      (pss_cons (ps_set (i := 2) nd rfl (Or.inl rfl) (peJoin (K := K) pe_str (pe_lc (own := [("turn", 6)]) (g := (gName 6)) rfl nd (pi_range1 (by rfl) T.z_range (pa_cons (pv 5) pa_nil)) (blkOk_by (own := [("turn", 6)]) (N := N_law) (sc := defScope s_law) (by decide +kernel)) (fun _ _ _ _ _ => (pg_name (i := 6) nd rfl (Or.inl rfl))) (fun _ _ _ _ _ => pts_nil) (fun _ _ _ _ _ => (peBm (K := K) PySem.F.plainAttrs_list PySem.F.slot_list_pop PySem.F.type_list_pop mt_popAt (pv 4) (pa_cons (pe_call (ok__law_take T) (hr.mono (by decide)) (by rfl) T.m__law_take T.F__law_take.kp T.b__law_take .nil pass0 (pa_cons (pv 3) (pa_cons (pe_callB (cLen (K := K)) (by rfl) T.z_len (by decide +kernel) (pa_cons (pv 4) pa_nil)) pa_nil))) pa_nil))))))
      (pss_one (ps_if (pt_not (ptT (K := K) (pe_call (ok__law_good T) hr (by rfl) T.m__law_good T.F__law_good.kp T.b__law_good .nil pass0 (pa_cons (pv 2) (pa_cons (pe_ix (ixM (K := K)) (pe_lst (pa_cons (pe_call (ok__law_take T) (hr.mono (by decide)) (by rfl) T.m__law_take T.F__law_take.kp T.b__law_take .nil pass0 (pa_cons (pv 3) (pa_cons pe_int pa_nil))) (pa_cons (pe_call (ok__law_take T) (hr.mono (by decide)) (by rfl) T.m__law_take T.F__law_take.kp T.b__law_take .nil pass0 (pa_cons (pv 3) (pa_cons pe_int pa_nil))) (pa_cons pe_int (pa_cons pe_int pa_nil))))) (pe_call (ok__law_take T) (hr.mono (by decide)) (by rfl) T.m__law_take T.F__law_take.kp T.b__law_take .nil pass0 (pa_cons (pv 3) (pa_cons pe_int pa_nil))) (fun _ _ => rfl)) pa_nil))))) (pss_one (ps_ret pe_bl)) pss_nil)))))))
      (pss_cons (ps_for PassesOwn.never rfl (piAny (K := K) (pe_lst (pa_cons pe_str (pa_cons pe_str (pa_cons pe_str (pa_cons pe_str (pa_cons pe_str (pa_cons pe_str (pa_cons pe_str (pa_cons pe_str (pa_cons pe_str (pa_cons pe_str pa_nil)))))))))))) (pg_name (i := 2) nd rfl (Or.inl rfl)) (pss_one (ps_if (PW.pt (pw_or (pt_not (ptT (K := K) (pe_call (ok__law_good T) hr (by rfl) T.m__law_good T.F__law_good.kp T.b__law_good .nil pass0 (pa_cons (pv 2) (pa_cons pe_int pa_nil))))) (pw_or1 (pt_not (ptT (K := K) (pe_call (ok__law_good T) hr (by rfl) T.m__law_good T.F__law_good.kp T.b__law_good .nil pass0 (pa_cons (pv 2) (pa_cons pe_int pa_nil)))))))) (pss_one (ps_ret pe_bl)) pss_nil)))
      (pss_one (ps_ret (pe_and (pe_cmpR (oEq (K := K) hr.units) (pe_call (ok_supply T) (hr.mono (by decide)) (by rfl) T.m_supply T.F_supply.kp T.b_supply .nil pass0 (pa_cons pe_str (pa_cons pe_int pa_nil))) (pe_lst (pa_cons pe_str (pa_cons pe_str (pa_cons pe_str (pa_cons pe_str (pa_cons pe_str (pa_cons pe_str (pa_cons pe_str pa_nil)))))))) (nomark _)) (pe_one (pe_cmpR (oEq (K := K) hr.units) (pe_call (ok_supply T) (hr.mono (by decide)) (by rfl) T.m_supply T.F_supply.kp T.b_supply .nil pass0 (pa_cons pe_str (pa_cons pe_int pa_nil))) (pe_lst (pa_cons pe_str (pa_cons pe_str (pa_cons pe_str pa_nil)))) (nomark _)))))))), ?_⟩
    refine ⟨_, rfl, _, _, rfl, .inl ⟨_, hs, rfl⟩, _, _, rfl, _, _, rfl, ?_⟩
    rw [List.length_map]
    obtain ⟨turns, ht, ht2⟩ : ∃ t : Nat, (if (2 : Int) > (if (4 : Int) < (ns.length : Int) then 4 else (ns.length : Int)) then (2 : Int) else (if (4 : Int) < (ns.length : Int) then 4 else (ns.length : Int))) = t ∧ t ≤ 4 := by
      by_cases h1 : (4 : Int) < (ns.length : Int)
      · rw [if_pos h1]
        exact ⟨4, by simp, by omega⟩
      · rw [if_neg h1]
        by_cases h2 : (2 : Int) > (ns.length : Int)
        · exact ⟨2, by rw [if_pos h2]; rfl, by omega⟩
        · exact ⟨ns.length, by rw [if_neg h2], by omega⟩
    rw [ht]
    refine ⟨(turns : Int), rfl, by omega, by omega, ?_⟩
    rw [Int.toNat_natCast]
    refine for_range (lo := 0) (n := turns) (fun i σ H' => ∃ a1 a2 a3 a4 a5, σ = [some (.ref a), a1, a2, a3, a4, a5, none] ∧ Same H H') ⟨_, _, _, _, _, rfl, Same.refl _⟩ (fun i σ H1 hi hp => ?_) (fun σ H1 hp => ?_)
    · obtain ⟨a1, a2, a3, a4, a5, rfl, e1⟩ := hp
      -- pile, left
      refine ⟨_, rfl, _, rfl, a, ns, i, by rw [Int.zero_add]; rfl, e1.seq hs, hns, by omega, ?_⟩
      refine ⟨(by show 1 ≤ sizeLine; decide), fun p hp => ?_⟩
      refine .inr ⟨_, rfl, by decide +kernel, fun l hl => ?_⟩
      have t1 : Tw H1 (upd (upd H1 p (.lst [.int (LK.cellOf ns i)])) l (.lst ((Str.ofString "abcdefghijklmnopqrstuvwxyz").cps.toList.map fun c => V.str ⟨#[c]⟩))) p l (LK.cellOf ns i) alph :=
        ⟨Same.mut (Same.new hp) (Same.free (Same.new hp) hl), by rw [upd_ne (ne_of_none upd_same hl)]; exact upd_same, by rw [upd_same, alph_str]; rfl, hp, Same.free (Same.new hp) hl, ne_of_none upd_same hl⟩
      generalize upd (upd H1 p (.lst [.int (LK.cellOf ns i)])) l _ = H2 at t1 ⊢
      -- size
      refine ⟨_, rfl, p, _, _, rfl, t1.hp, ⟨by decide, by decide⟩, (by show 4 ≤ sizeLine; decide), fun q hq => ?_⟩
      have r25 := fmod_range (a := LK.cellOf ns i) (b := 25) (by decide)
      have t2 := (Tw.take (c' := (LK.cellOf ns i).fdiv 25) t1).new (o := .lst [.int 2, .int 3, .int (2 + (LK.cellOf ns i).fmod 25), .int 26]) hq
      have q2 : (upd (upd H2 p (.lst [.int ((LK.cellOf ns i).fdiv 25)])) q (.lst [.int 2, .int 3, .int (2 + (LK.cellOf ns i).fmod 25), .int 26])) q = some (.lst [.int 2, .int 3, .int (2 + (LK.cellOf ns i).fmod 25), .int 26]) := upd_same
      have hpq : p ≠ q := ne_of_none upd_same hq
      refine ⟨_, rfl, p, _, _, rfl, t2.hp, ⟨by decide, by decide⟩, ?_⟩
      have r4 := fmod_range (a := (LK.cellOf ns i).fdiv 25) (b := 4) (by decide)
      obtain ⟨v, hv, hv4⟩ := at4 (a := .int 2) (b := .int 3) (c := .int (2 + (LK.cellOf ns i).fmod 25)) (d := .int 26) r4.1 r4.2
      obtain ⟨size, rfl, hsz⟩ : ∃ size : Nat, v = .int size ∧ (2 ≤ size ∧ size ≤ 26) := by
        rcases hv4 with rfl | rfl | rfl | rfl
        · exact ⟨2, rfl, by omega⟩
        · exact ⟨3, rfl, by omega⟩
        · refine ⟨(2 + (LK.cellOf ns i).fmod 25).toNat, ?_, by omega⟩
          rw [Int.toNat_of_nonneg (by omega)]
        · exact ⟨26, rfl, by omega⟩
      refine .inl ⟨q, _, _, _, rfl, rfl, SqL.of (by rw [upd_ne hpq.symm]; exact q2), hv, ?_⟩
      have t3 := Tw.take (c' := ((LK.cellOf ns i).fdiv 25).fdiv 4) t2
      generalize upd (upd (upd H2 p (.lst [.int ((LK.cellOf ns i).fdiv 25)])) q _) p _ = H3 at t3 ⊢
      generalize ((LK.cellOf ns i).fdiv 25).fdiv 4 = c3 at t3 ⊢
      -- some = ''.join([left.pop(..) for turn in range(size)])
      refine ⟨⟨_, rfl⟩, ⟨_, rfl, (size : Int), rfl, by omega, by omega, fun D hD => ?_⟩⟩
      rw [Int.toNat_natCast]
      refine lc_range (lo := 0) (n := size) (fun j H' => ∃ (c : Int) (cs rest : List Nat), Tw H1 H' p l c rest ∧ H1 D = none ∧ D ≠ p ∧ D ≠ l ∧ H' D = some (.lst (signs cs)) ∧ cs.length = j ∧ (cs ++ rest).Perm alph)
        ⟨c3, [], alph, t3.new hD, t3.s.free hD, (ne_of_none t3.hp hD).symm, (ne_of_none t3.hl hD).symm, upd_same, rfl, List.Perm.refl _⟩ (fun j H4 hj hp4 => ?_) (fun H4 hp4 => ?_)
      · obtain ⟨c4, cs, rest, t4, dn, dp, dl, hd4, hcl, pm⟩ := hp4
        have hl26 : cs.length + rest.length = 26 := by
          have := pm.length_eq
          rw [List.length_append] at this
          exact this
        refine ⟨rfl, ?_⟩
        refine ⟨_, rfl, .inl ⟨rfl, _, SqL.of t4.hl⟩, ?_⟩
        refine ⟨_, rfl, _, rfl, _, _, rfl, .inl ⟨_, SqL.of t4.hl, rfl⟩, p, c4, _, rfl, t4.hp, ?_, ?_⟩
        · rw [signs_len]; omega
        rw [signs_len]
        have rr := fmod_range (a := c4) (b := (rest.length : Int)) (by omega)
        obtain ⟨d, hd⟩ : ∃ d : Nat, c4.fmod (rest.length : Int) = d ∧ d < rest.length := ⟨(c4.fmod (rest.length : Int)).toNat, by omega, by omega⟩
        have t5 := Tw.take (c' := c4.fdiv (rest.length : Int)) t4
        rw [hd.1]
        have hrd : rest[d]? = some (rest.getD d 0) := by
          rw [List.getD_eq_getElem?_getD, List.getElem?_eq_getElem hd.2]
          rfl
        refine ⟨l, _, _, d, V.str ⟨#[rest.getD d 0]⟩, rfl, rfl, t5.hl, by omega, by omega, ?_, ?_, ?_⟩
        · rw [signs_len]
          have hneg : ¬ ((d : Int) < 0) := by omega
          unfold seqIndex?
          simp only [if_neg hneg]
          rw [if_pos (by simp; omega)]
          simp
        · unfold signs
          rw [List.getElem?_map, hrd]
          rfl
        have e5 : (signs rest).eraseIdx d = signs (rest.eraseIdx d) := by
          unfold signs
          rw [erase_map]
        rw [e5]
        have t6 := Tw.pop (rest' := rest.eraseIdx d) t5
        refine ⟨signs cs, ?_, ?_, ?_⟩
        · rw [upd_ne dl, upd_ne dp]
          exact hd4
        · rw [signs_len]
          exact Nat.lt_of_le_of_lt (by omega : _ ≤ 26) (by decide)
        · refine ⟨_, cs ++ [rest.getD d 0], rest.eraseIdx d, ⟨Same.mut t6.s dn, by rw [upd_ne dp.symm]; exact t6.hp, by rw [upd_ne dl.symm]; exact t6.hl, t6.pn, t6.ln, t6.ne⟩, dn, dp, dl, ?_, by rw [List.length_append, hcl]; rfl, ?_⟩
          · rw [upd_same]
            unfold signs
            rw [List.map_append]
            rfl
          · refine List.Perm.trans ?_ pm
            rw [List.append_assoc]
            refine List.Perm.append_left _ ?_
            have hg : rest.getD d 0 = rest[d] := by
              rw [List.getD_eq_getElem?_getD, List.getElem?_eq_getElem hd.2]
              rfl
            rw [hg]
            exact erase_perm rest d hd.2
      obtain ⟨c4, cs, rest, t4, dn, dp, dl, hd4, hcl, pm⟩ := hp4
      have hG : Good cs := alph_good pm (by omega)
      refine ⟨_, D, cs.map (fun c => (⟨#[c]⟩ : Str)), rfl, rfl, .inl (SqL.of ?_), ?_, ?_⟩
      · rw [hd4]
        unfold signs
        rw [List.map_map]
        rfl
      · have e0 : (Str.ofString "").length = 0 := by decide +kernel
        rw [e0, Nat.mul_zero, Nat.add_zero, List.map_map]
        have e1 : (cs.map ((fun x : Str => x.length) ∘ fun c => (⟨#[c]⟩ : Str))).sum = cs.length := by
          rw [show ((fun x : Str => x.length) ∘ fun c : Nat => (⟨#[c]⟩ : Str)) = fun _ => 1 from rfl, List.map_const', sum_ones]
        rw [e1]
        omega
      have hcode : (Txt.join (Str.ofString "") (cs.map (fun c => (⟨#[c]⟩ : Str)))).cps.toList = cs := by
        rw [join_nosep, List.flatMap_map]
        exact List.flatMap_singleton' cs
      have hGS := good_str _ _ hcode hG
      generalize Txt.join (Str.ofString "") (cs.map (fun c => (⟨#[c]⟩ : Str))) = some' at hGS ⊢
      -- if not _law_good(some, ..): return False
      refine ⟨_, rfl, _, rfl, p, _, _, rfl, t4.hp, ⟨by decide, by decide⟩, ?_⟩
      have r401 := fmod_range (a := c4) (b := 401) (by decide)
      have t5 := Tw.take (c' := c4.fdiv 401) t4
      refine ⟨_, rfl, p, _, _, rfl, t5.hp, ⟨by decide, by decide⟩, ?_⟩
      have r12 := fmod_range (a := c4.fdiv 401) (b := 12) (by decide)
      have t6 := Tw.take (c' := (c4.fdiv 401).fdiv 12) t5
      refine ⟨(by show 4 ≤ sizeLine; decide), fun q2 hq2 => ?_⟩
      have t7 := t6.new (o := .lst [.int (c4.fmod 401), .int ((c4.fdiv 401).fmod 12), .int 400, .int 0]) hq2
      have hpq2 : p ≠ q2 := ne_of_none upd_same hq2
      refine ⟨_, rfl, p, _, _, rfl, t7.hp, ⟨by decide, by decide⟩, ?_⟩
      have r4' := fmod_range (a := (c4.fdiv 401).fdiv 12) (b := 4) (by decide)
      obtain ⟨v, hv, hv4⟩ := at4 (a := .int (c4.fmod 401)) (b := .int ((c4.fdiv 401).fmod 12)) (c := .int 400) (d := .int 0) r4'.1 r4'.2
      obtain ⟨many, rfl, hmany⟩ : ∃ many : Nat, v = .int many ∧ many ≤ 400 := by
        rcases hv4 with rfl | rfl | rfl | rfl
        · exact ⟨(c4.fmod 401).toNat, by rw [Int.toNat_of_nonneg (by omega)], by omega⟩
        · exact ⟨((c4.fdiv 401).fmod 12).toNat, by rw [Int.toNat_of_nonneg (by omega)], by omega⟩
        · exact ⟨400, rfl, by omega⟩
        · exact ⟨0, rfl, by omega⟩
      have t8 := Tw.take (c' := ((c4.fdiv 401).fdiv 12).fdiv 4) t7
      refine .inl ⟨q2, _, _, _, rfl, rfl, SqL.of (by rw [upd_ne hpq2.symm]; exact upd_same), hv, some', many, rfl, hGS, hmany, fun H5 e5 => ?_⟩
      exact ⟨true, rfl, _, _, _, _, _, rfl, (e1.trans t8.s).trans e5⟩
    · obtain ⟨a1, a2, a3, a4, a5, rfl, e1⟩ := hp
      refine ⟨(by show 10 ≤ sizeLine; decide), fun q hq => ?_⟩
      refine .inl ⟨⟨_, SqL.of upd_same⟩, for_it (walk_list (xs := ([.str "fn", .str "nf", .str "if", .str "ifl", .str "tle", .str "outr", .str "tryx", .str "lets", .str "cath", .str "abcdefghijklmnopqrstuvwxyz"] : List V)))
        (fun i σ H' => ∃ a1 a2 a3 a4 a5, σ = [some (.ref a), a1, a2, a3, a4, a5, none] ∧ Same H H' ∧ H' q = some (.lst [.str "fn", .str "nf", .str "if", .str "ifl", .str "tle", .str "outr", .str "tryx", .str "lets", .str "cath", .str "abcdefghijklmnopqrstuvwxyz"]))
        ⟨_, _, _, _, _, rfl, Same.mut e1 (e1.free hq), upd_same⟩ (fun i σ H' _ hp' => ?_) (fun i x σ H2 H3 hi hp' y => ?_) (fun σ H2 hp' => ?_)⟩
      · obtain ⟨_, _, _, _, _, _, _, hq'⟩ := hp'
        exact SqL.of hq'
      · obtain ⟨b1, b2, b3, b4, b5, rfl, e2, hq'⟩ := hp'
        obtain ⟨rfl, hx⟩ := y
        obtain ⟨x, rfl, hxg⟩ : ∃ z : Str, x = .str z ∧ GoodS z := by
          have hm := List.mem_of_getElem? hx
          have e : ([.str "fn", .str "nf", .str "if", .str "ifl", .str "tle", .str "outr", .str "tryx", .str "lets", .str "cath", .str "abcdefghijklmnopqrstuvwxyz"] : List V) = (["fn", "nf", "if", "ifl", "tle", "outr", "tryx", "lets", "cath", "abcdefghijklmnopqrstuvwxyz"] : List Str).map V.str := rfl
          rw [e] at hm
          obtain ⟨z, hz, rfl⟩ := List.mem_map.mp hm
          exact ⟨z, rfl, ten_good z hz⟩
        refine ⟨_, rfl, x, 400, rfl, hxg, Nat.le_refl _, fun H4 e4 => ⟨true, rfl, ?_⟩⟩
        refine ⟨_, rfl, x, 30, rfl, hxg, by omega, fun H5 e5 => ⟨true, rfl, ?_⟩⟩
        exact ⟨_, _, _, _, _, rfl, (e2.trans e4).trans e5, e5 _ _ (e4 _ _ hq')⟩
      · obtain ⟨b1, b2, b3, b4, b5, rfl, e2, hq'⟩ := hp'
        have g1 : GoodS "fn" := ten_good "fn" (by simp)
        have g2 : GoodS "ba" := good_any _ (by decide +kernel)
        have k1 : sup (("fn" : Str).cps.toList) 7 = [[102], [110], [102, 102], [110, 102], [110, 110], [102, 102, 102], [102, 102, 110]] := by decide +kernel
        have k2 : sup (("ba" : Str).cps.toList) 3 = [[98], [97], [98, 98]] := by decide +kernel
        have l1 : ([.str "f", .str "n", .str "ff", .str "nf", .str "nn", .str "fff", .str "ffn"] : List V) = vstrs [[102], [110], [102, 102], [110, 102], [110, 110], [102, 102, 102], [102, 102, 110]] := by decide +kernel
        have l2 : ([.str "b", .str "a", .str "bb"] : List V) = vstrs [[98], [97], [98, 98]] := by decide +kernel
        have s1 : PySem.SeqAt.shaped (.list ((([[102], [110], [102, 102], [110, 102], [110, 110], [102, 102, 102], [102, 102, 110]] : List (List Nat)).map toS).map PyData.str)) = true := by decide +kernel
        have s2 : PySem.SeqAt.shaped (.list ((([[98], [97], [98, 98]] : List (List Nat)).map toS).map PyData.str)) = true := by decide +kernel
        refine ⟨_, 7, rfl, g1, by omega, fun H3 p3 e3 hp3 h3 => ?_⟩
        rw [k1] at h3
        refine ⟨(by show 7 ≤ sizeLine; decide), fun q3 hq3 => .inr ⟨_, _, strs_dp (by rw [upd_ne (ne_of_none h3 hq3)]; exact h3), strs_dp (by rw [upd_same]; exact congrArg (fun l => some (HO.lst l)) l1), s1, s1, true, ?_, ?_⟩⟩
        · rw [PySem.SeqAt.eqv_refl _ (PySem.SeqAt.canLay_of_shaped s1)]
        refine ⟨_, 3, rfl, g2, by omega, fun H4 p4 e4 hp4 h4 => ?_⟩
        rw [k2] at h4
        refine ⟨(by show 3 ≤ sizeLine; decide), fun q4 hq4 => .inr ⟨_, _, strs_dp (by rw [upd_ne (ne_of_none h4 hq4)]; exact h4), strs_dp (by rw [upd_same]; exact congrArg (fun l => some (HO.lst l)) l2), s2, s2, ?_⟩⟩
        rw [PySem.SeqAt.eqv_refl _ (PySem.SeqAt.canLay_of_shaped s2)]
        exact h _
end
def d_look_at_letters : He.DefD := ⟨("look_at_letters", none), "look_at_letters", "look_at_letters", defArgs s_look_at_letters, defBody s_look_at_letters, defScope s_look_at_letters, [], []⟩
def d_names_of : He.DefD := ⟨("names_of", none), "names_of", "names_of", defArgs s_names_of, defBody s_names_of, defScope s_names_of, [], []⟩
def d_supply : He.DefD := ⟨("supply", none), "supply", "supply", defArgs s_supply, defBody s_supply, defScope s_supply, [], []⟩
def d__law_mixed : He.DefD := ⟨("_law_mixed", none), "_law_mixed", "_law_mixed", defArgs s__law_mixed, defBody s__law_mixed, defScope s__law_mixed, [], []⟩
def d__law_cell : He.DefD := ⟨("_law_cell", none), "_law_cell", "_law_cell", defArgs s__law_cell, defBody s__law_cell, defScope s__law_cell, [], []⟩
def d__law_take : He.DefD := ⟨("_law_take", none), "_law_take", "_law_take", defArgs s__law_take, defBody s__law_take, defScope s__law_take, [], []⟩
def d__law_supply : He.DefD := ⟨("_law_supply", none), "_law_supply", "_law_supply", defArgs s__law_supply, defBody s__law_supply, defScope s__law_supply, [], []⟩
def d__law_good : He.DefD := ⟨("_law_good", none), "_law_good", "_law_good", defArgs s__law_good, defBody s__law_good, defScope s__law_good, [], []⟩
def d_law : He.DefD := ⟨("law", none), "law", "law", defArgs s_law, defBody s_law, defScope s_law, [], []⟩
def fn : List He.DefD := [d_look_at_letters, d_names_of, d_supply, d__law_mixed, d__law_cell, d__law_take, d__law_supply, d__law_good, d_law]
def fa : List He.Fa := [.glo "look_at_letters", .glo "names_of", .glo "supply", .glo "_law_mixed", .glo "_law_cell", .glo "_law_take", .glo "_law_supply", .glo "_law_good", .glo "law", .free "all", .free "bool", .free "int", .free "isinstance", .free "len", .free "list", .free "max", .free "min", .free "range", .free "str", .glo "KEPT", .int "LEAST_LETTERS" 2, .int "MOST_NAMES" 400, .str "SMALL" "abcdefghijklmnopqrstuvwxyz"]
def tup_KEPT : List He.Dv := [.str "let", .str "if", .str "else", .str "while", .str "return", .str "fail", .str "try", .str "catch", .str "out", .str "fn"]
def ck (K : PySem.W.Frag) : Bool := (fa.all fun f => f.ok K) && (He.tupB K "KEPT" tup_KEPT)
abbrev R : PySem.W.OpenRow := PySem.W.OpenLaw.row PySem.Challenge.rw_leanscript_k40_names_supplied
abbrev hk : PySem.W.Hook := hookM 4 ck fn
def ob (s : PySem.W.SharedT) : He.AlD := obsMG 4 ck fn (HandSHeadRun.getT s)
theorem ob_eq (s : PySem.W.SharedT) : ob s = hk.obs s.abs := obsMG_eq (HandSHeadRun.getT_eq s)
def nm0 : List Str := ["LeanError", "NoLetters", "NoCount", "KEPT", "SMALL", "LEAST_LETTERS", "MOST_NAMES", "look_at_letters", "names_of", "supply", "_law_mixed", "_law_cell", "_law_take", "_law_supply", "_law_good"]
def nms : List Str := nm0
set_option maxHeartbeats 0 in
theorem run (w : World) : HandSHeadRun.RunEq R (PySem.W.view R.prog [18]) hk ob 4000 nms w := by
  intro os
  kernel_rfl
theorem env_of {K : PySem.W.Frag} {h : Heap} {mg : Str → Option Value} (X : K.In h) (G : h.Ns mainGlobals mg) (c : SaysM ck fn K) : Nonempty (Env K mg) := by
  obtain ⟨cA, cD⟩ := He.ba (show ck K = true from c.both.1)
  have c0 := cD
  obtain ⟨fd_look_at_letters, F_look_at_letters⟩ := c.def_ 0 (d := d_look_at_letters) rfl
  obtain ⟨fd_names_of, F_names_of⟩ := c.def_ 1 (d := d_names_of) rfl
  obtain ⟨fd_supply, F_supply⟩ := c.def_ 2 (d := d_supply) rfl
  obtain ⟨fd__law_mixed, F__law_mixed⟩ := c.def_ 3 (d := d__law_mixed) rfl
  obtain ⟨fd__law_cell, F__law_cell⟩ := c.def_ 4 (d := d__law_cell) rfl
  obtain ⟨fd__law_take, F__law_take⟩ := c.def_ 5 (d := d__law_take) rfl
  obtain ⟨fd__law_supply, F__law_supply⟩ := c.def_ 6 (d := d__law_supply) rfl
  obtain ⟨fd__law_good, F__law_good⟩ := c.def_ 7 (d := d__law_good) rfl
  obtain ⟨fd_law, F_law⟩ := c.def_ 8 (d := d_law) rfl
  obtain ⟨t_LEAST_LETTERS, m_LEAST_LETTERS⟩ := He.int_ok (x := "LEAST_LETTERS") (i := 2) X G (fa_at cA 20)
  obtain ⟨t_MOST_NAMES, m_MOST_NAMES⟩ := He.int_ok (x := "MOST_NAMES") (i := 400) X G (fa_at cA 21)
  obtain ⟨t_SMALL, m_SMALL⟩ := He.str_ok (x := "SMALL") (z := "abcdefghijklmnopqrstuvwxyz") X G (fa_at cA 22)
  exact ⟨{
    fd_look_at_letters := fd_look_at_letters, F_look_at_letters := F_look_at_letters, m_look_at_letters := He.glo_ok X G (fa_at cA 0)
    b_look_at_letters := FunD.bindsN F_look_at_letters fun _ _ _ _ _ _ us hl => match us, hl with | [_], _ => rfl
    fd_names_of := fd_names_of, F_names_of := F_names_of, m_names_of := He.glo_ok X G (fa_at cA 1)
    b_names_of := FunD.bindsN F_names_of fun _ _ _ _ _ _ us hl => match us, hl with | [_, _], _ => rfl
    fd_supply := fd_supply, F_supply := F_supply, m_supply := He.glo_ok X G (fa_at cA 2)
    b_supply := FunD.bindsN F_supply fun _ _ _ _ _ _ us hl => match us, hl with | [_, _], _ => rfl
    fd__law_mixed := fd__law_mixed, F__law_mixed := F__law_mixed, m__law_mixed := He.glo_ok X G (fa_at cA 3)
    b__law_mixed := FunD.bindsN F__law_mixed fun _ _ _ _ _ _ us hl => match us, hl with | [_, _], _ => rfl
    fd__law_cell := fd__law_cell, F__law_cell := F__law_cell, m__law_cell := He.glo_ok X G (fa_at cA 4)
    b__law_cell := FunD.bindsN F__law_cell fun _ _ _ _ _ _ us hl => match us, hl with | [_, _], _ => rfl
    fd__law_take := fd__law_take, F__law_take := F__law_take, m__law_take := He.glo_ok X G (fa_at cA 5)
    b__law_take := FunD.bindsN F__law_take fun _ _ _ _ _ _ us hl => match us, hl with | [_, _], _ => rfl
    fd__law_supply := fd__law_supply, F__law_supply := F__law_supply, m__law_supply := He.glo_ok X G (fa_at cA 6)
    b__law_supply := FunD.bindsN F__law_supply fun _ _ _ _ _ _ us hl => match us, hl with | [_, _], _ => rfl
    fd__law_good := fd__law_good, F__law_good := F__law_good, m__law_good := He.glo_ok X G (fa_at cA 7)
    b__law_good := FunD.bindsN F__law_good fun _ _ _ _ _ _ us hl => match us, hl with | [_, _], _ => rfl
    fd_law := fd_law, F_law := F_law, m_law := He.glo_ok X G (fa_at cA 8)
    b_law := FunD.bindsN F_law fun _ _ _ _ _ _ us hl => match us, hl with | [_], _ => rfl
    z_all := He.free_ok X G (fa_at cA 9)
    z_bool := He.free_ok X G (fa_at cA 10)
    z_int := He.free_ok X G (fa_at cA 11)
    z_isinstance := He.free_ok X G (fa_at cA 12)
    z_len := He.free_ok X G (fa_at cA 13)
    z_list := He.free_ok X G (fa_at cA 14)
    z_max := He.free_ok X G (fa_at cA 15)
    z_min := He.free_ok X G (fa_at cA 16)
    z_range := He.free_ok X G (fa_at cA 17)
    z_str := He.free_ok X G (fa_at cA 18)
    m_KEPT := He.glo_ok X G (fa_at cA 19), q_KEPT := tup_at c0
    t_LEAST_LETTERS := t_LEAST_LETTERS, m_LEAST_LETTERS := m_LEAST_LETTERS
    t_MOST_NAMES := t_MOST_NAMES, m_MOST_NAMES := m_MOST_NAMES
    t_SMALL := t_SMALL, m_SMALL := m_SMALL
    kb_supply_0_many_letters := kb_of F_supply
  }⟩

theorem noleave (H : Hp) (s : Shared) (e : Value) (s' : Shared) (h : CX0 [] H s (fun _ _ _ => False) e s') : False := h
theorem sp_start {K : PySem.W.Frag} (H : Hp) (a : Addr) (ns : List Int) (hn : ns.length ≤ 63) (_ : Only H) (hs : SqL K H a (ns.map V.int)) : sp_law K [.ref a] H (fun v _ => v = .bl true) fun _ _ _ => False :=
  ⟨a, ns, rfl, hs, hn, fun _ => rfl⟩
end P40
open PySem PySem.W PySem.Calls PyProof.Rows
set_option maxRecDepth 100000 in
set_option maxHeartbeats 0 in
theorem PySem.Challenge.cw_leanscript_k40_names_supplied_holds : PySem.Challenge.rw_leanscript_k40_names_supplied.Holds := by
  w_on; o_law
  refine HandSHeadRun.head_any (r := OpenLaw.row PySem.Challenge.rw_leanscript_k40_names_supplied) (q := view (OpenLaw.row PySem.Challenge.rw_leanscript_k40_names_supplied).prog [18]) (H := P40.hk) (ob := P40.ob) (M := 4000) (loose := P40.nms)
    (d := HandSHeadRun.topDef (OpenLaw.row PySem.Challenge.rw_leanscript_k40_names_supplied).prog 18) (kwd := []) P40.ob_eq (by kernel_rfl) (fun s => by kernel_rfl) P40.run (by kernel_rfl) (by kernel_rfl) (by kernel_rfl) (by rfl)
    (by first | assumption | decide +kernel) (by decide +kernel) ⟨rfl, rfl, rfl, rfl, rfl, by decide +kernel⟩ ?hw ?hc
  case hw => w_witness2
  case hc =>
    refine L2.walk_ofE (l := PySem.Challenge.rw_leanscript_k40_names_supplied) (n := 63) (k := 6) (x := "script") (CX := L2.CX0) rfl (by decide) (by kernel_rfl) ⟨rfl, by decide, by decide⟩ ?F P40.noleave
    intro w mg fa h Y G hmg0
    obtain ⟨K, KX, c⟩ := Y
    have hmg : mg ("law" : PySem.Str) = some (.ref fa) := by
      have e : (HandSHeadRun.topDef (OpenLaw.row PySem.Challenge.rw_leanscript_k40_names_supplied).prog 18).name = ("law" : PySem.Str) := by kernel_rfl
      rw [← e]
      exact hmg0
    obtain ⟨T⟩ := P40.env_of KX G c
    have ef := hmg.symm.trans T.m_law
    cases ef
    have b := L2.FunD.bindsA (ps := ["script"]) T.F_law fun _ _ _ _ _ _ us hl => match us, hl with | [_], _ => rfl
    exact ⟨K, T.fd_law, P40.sp_law K, KX, fun s v => b s [v] rfl, P40.sp_start, fun base _ _ => P40.ok_law T⟩

#print axioms PySem.Challenge.cw_leanscript_k40_names_supplied_holds
