import PyProof.Rows.All
import Wide.All
import OpenK.AllK
import Wide.FinOn
import HandS.Base
import HandS.Call
import HandS.List
import HandS.Comp
import HandS.Iter
import HandS.Text
import HandS.Ends
import HandS.Words
import HandS.WordsList
import HandS.WordsDict
import HandS.IsInst
import HandS.TupAny
import HandS.Wide
import HandS.SetKeys
import HandS.SetBool
import PyProof.ListStr
import HandS.Walk
import HandS.ExcInit
import HandS.Defaults
import HandS.ExcValue
import HandS.ExcIs
import HandS.ExcField
import HandS.Head0
import HandS.Head1
import HandS.Head2
import HandS.HeadEnd
import HandS.HeadHook1
import HandS.HeadHook2
import HandS.Zip
import HandS.Style
import HandS.ExcOwn
import PySem.Challenge.RW_leanscript_k01_words_of_texts
set_option Elab.async false
set_option linter.all false
set_option maxRecDepth 100000
set_option maxHeartbeats 4000000
/-! rules of mine over the hand layer: operators by what the values are -/
namespace LK
open PySem PySem.Spec PyProof.Rows L2
section
variable {X : Cx}

/-! one operator, several kinds of values -/
def rAddM (K : PySem.W.Frag) : R2 := fun x y H Q => match x, y with
  | .int i, .int j => Q (.int (i + j)) H
  | .str a, .str b => a.length + b.length ≤ sizeLine ∧ Q (.str (a ++ b)) H
  | .ref a, .ref b => (∃ xs ys, H a = some (.lst xs) ∧ H b = some (.lst ys) ∧ xs.length + ys.length ≤ sizeLine ∧ ∀ p, H p = none → Q (.ref p) (upd H p (.lst (xs ++ ys)))) ∨
      rCatA K (.ref a) (.ref b) H Q
  | _, _ => False
theorem op_addM : OpR X (binaryOp .Add) (rAddM X.K) := by
  intro pins s σ H x y v u Q I rx ry h
  cases x <;> cases y <;> try exact (show False from h).elim
  · exact op_add pins s σ H _ _ v u Q I rx ry ⟨_, _, rfl, rfl, h⟩
  · exact op_add_str pins s σ H _ _ v u Q I rx ry ⟨_, _, rfl, rfl, h.1, h.2⟩
  · rcases h with ⟨xs, ys, h1, h2, h3, h4⟩ | h
    · exact op_cat pins s σ H _ _ v u Q I rx ry ⟨_, _, xs, ys, rfl, rfl, h1, h2, h3, h4⟩
    · exact op_catA pins s σ H _ _ v u Q I rx ry h
def rMulM (K : PySem.W.Frag) : R2 := fun x y H Q => match x, y with
  | .int i, .int j => (CMul i j ∨ CMulW i j) ∧ Q (.int (i * j)) H
  | .ref a, .int k => ∃ xs, H a = some (.lst xs) ∧ -(2 ^ 63) ≤ k ∧ k < 2 ^ 63 ∧ xs.length * k.toNat ≤ sizeLine ∧ ∀ p, H p = none → Q (.ref p) (upd H p (.lst (List.replicate k.toNat xs).flatten))
  | _, _ => False
theorem op_mulM : OpR X (binaryOp .Mult) (rMulM X.K) := by
  intro pins s σ H x y v u Q I rx ry h
  cases x <;> cases y <;> try exact (show False from h).elim
  · rcases h with ⟨h | h, q⟩
    · exact op_mul pins s σ H _ _ v u Q I rx ry ⟨_, _, rfl, rfl, h, q⟩
    · exact op_mulW pins s σ H _ _ v u Q I rx ry ⟨_, _, rfl, rfl, h, q⟩
  · obtain ⟨xs, h1, h2⟩ := h
    exact op_rep pins s σ H _ _ v u Q I rx ry ⟨_, _, xs, rfl, rfl, h1, h2⟩
def rCmpM (pi : Int → Int → Bool) (ps : Str → Str → Bool) : R2 := fun x y H Q => match x, y with
  | .int i, .int j => Q (.bl (pi i j)) H
  | .str i, .str j => Q (.bl (ps i j)) H
  | _, _ => False
theorem op_ltM : OpR X (compareOp .Lt) (rCmpM (fun i j => decide (i < j)) fun i j => decide (i.cps.toList < j.cps.toList)) := by
  intro pins s σ H x y v u Q I rx ry h
  cases x <;> cases y <;> try exact (show False from h).elim
  · exact op_lt pins s σ H _ _ v u Q I rx ry ⟨_, _, rfl, rfl, h⟩
  · exact op_lt_str pins s σ H _ _ v u Q I rx ry ⟨_, _, rfl, rfl, h⟩
theorem op_leM : OpR X (compareOp .LtE) (rCmpM (fun i j => decide (i ≤ j)) fun i j => !decide (j.cps.toList < i.cps.toList)) := by
  intro pins s σ H x y v u Q I rx ry h
  cases x <;> cases y <;> try exact (show False from h).elim
  · exact op_le pins s σ H _ _ v u Q I rx ry ⟨_, _, rfl, rfl, h⟩
  · exact op_le_str pins s σ H _ _ v u Q I rx ry ⟨_, _, rfl, rfl, h⟩
theorem op_gtM : OpR X (compareOp .Gt) (rCmpM (fun i j => decide (j < i)) fun i j => decide (j.cps.toList < i.cps.toList)) := by
  intro pins s σ H x y v u Q I rx ry h
  cases x <;> cases y <;> try exact (show False from h).elim
  · exact op_gt pins s σ H _ _ v u Q I rx ry ⟨_, _, rfl, rfl, h⟩
  · exact op_gt_str pins s σ H _ _ v u Q I rx ry ⟨_, _, rfl, rfl, h⟩
theorem op_geM : OpR X (compareOp .GtE) (rCmpM (fun i j => decide (j ≤ i)) fun i j => !decide (i.cps.toList < j.cps.toList)) := by
  intro pins s σ H x y v u Q I rx ry h
  cases x <;> cases y <;> try exact (show False from h).elim
  · exact op_ge pins s σ H _ _ v u Q I rx ry ⟨_, _, rfl, rfl, h⟩
  · exact op_ge_str pins s σ H _ _ v u Q I rx ry ⟨_, _, rfl, rfl, h⟩
theorem op_eqM (hu : X.A.units + 64 < cLine) : OpR X (compareOp .Eq) (fun x y H Q => rEq x y H Q ∨ rEqD X.K x y H Q) := op_eq.or (op_eqD hu)
theorem op_neM (hu : X.A.units + 64 < cLine) : OpR X (compareOp .NotEq) (fun x y H Q => rNe x y H Q ∨ rNeD X.K x y H Q) := op_ne.or (op_neD hu)
/-- x in a text, in a list or tuple of flat things -/
def rInM (K : PySem.W.Frag) (neg : Bool) : R2 := fun x y H Q => match y with
  | .str z => ∃ a, x = .str a ∧ Q (.bl (if neg then !(!(Builtin.Str.occurrences z a 0 z.length 1).isEmpty) else !(Builtin.Str.occurrences z a 0 z.length 1).isEmpty)) H
  | .ref _ => rIn K neg x y H Q
  | _ => False
theorem op_inM : OpR X (compareOp .In) (rInM X.K false) := by
  intro pins s σ H x y v u Q I rx ry h
  cases y <;> try exact (show False from h).elim
  · obtain ⟨a, rfl, q⟩ := h
    exact op_in_str pins s σ H _ _ v u Q I rx ry ⟨_, _, rfl, rfl, q⟩
  · exact op_in_seq pins s σ H _ _ v u Q I rx ry h
theorem op_ninM : OpR X (compareOp .NotIn) (rInM X.K true) := by
  intro pins s σ H x y v u Q I rx ry h
  cases y <;> try exact (show False from h).elim
  · obtain ⟨a, rfl, q⟩ := h
    exact op_notin_str pins s σ H _ _ v u Q I rx ry ⟨_, _, rfl, rfl, q⟩
  · exact op_notIn_seq pins s σ H _ _ v u Q I rx ry h
theorem ix_M : IxR X (rIx X.K) := ix_seq
def rSlM (K : PySem.W.Frag) : V → Option Int → Option Int → Hp → VK → Prop := fun x lo hi H Q => rSlL K x lo hi H Q ∨ rSlA K x lo hi H Q ∨ rSlS x lo hi H Q
theorem sl_M : SlR X (rSlM X.K) := sl_list.or (sl_tupA.or sl_str)
theorem set_M : PSet X rSetL := set_list
/-- list(x): of a list, a tuple, a text -/
def rListM (K : PySem.W.Frag) : List V → Hp → VK → Prop := fun xs H Q => (∃ p ys, xs = [.ref p] ∧ (SqL K H p ys ∨ SqT K H p ys) ∧ ∀ l, H l = none → Q (.ref l) (upd H l (.lst ys))) ∨
  ∃ z : Str, xs = [.str z] ∧ z.length ≤ sizeLine ∧ ∀ l, H l = none → Q (.ref l) (upd H l (.lst (z.cps.toList.map fun c => V.str ⟨#[c]⟩)))
end
end LK

set_option Elab.async false
set_option linter.all false
set_option maxRecDepth 100000
set_option maxHeartbeats 4000000
/-! a set comprehension of ints and texts; its length; list(text) -/
namespace LK
open PySem PySem.Spec PyProof.Rows L2
section
variable {X : Cx}
/-- a set's new state behind one key more -/
abbrev SetK' (P : Program) (w : World) (D : Addr) (S : Key → Bool) (n : Nat) (k : Key) : HO :=
  SetK P w D (fun j => S j || decide (j = k)) (if S k = true then n else n + 1)
/-- {elt for target in iter if ..}: D the new set -/
def tScK (P : Program) (w : World) (wi : TI) (g : TG) (tt : TT) (te : TE) (vs : List Nat) : TE := fun σ H Q => wi σ H fun J H1 => ∀ D, H1 D = none →
  ∃ W : Nat → Nat → Hp → Prop, (∃ m, W 0 m (upd H1 D (SetK P w D (fun _ => false) 0))) ∧ ∀ i m H, W i m H →
    (J.stop i H ∧ Q (.ref D) H) ∨ (J.go i H ∧ ∃ Nx : Hp → Prop, (∀ H', Nx H' → ∃ m', m' < m ∧ W (i + 1) m' H') ∧
      ∀ x H', J.yld i H x H' → g x (wipe σ vs) H' fun σ2 H2 => wipe σ2 vs = wipe σ vs ∧ tt σ2 H2 fun b H3 => if b = true
        then te σ2 H3 fun y H4 => ∃ (k : Key) (S : Key → Bool) (n : Nat), y = kV k ∧ H4 D = some (SetK P w D S n) ∧ n + 1 < scanBound ∧ Nx (upd H4 D (SetK' P w D S n k))
        else Nx H3)
theorem addK_ok {pins : List (Addr × Obj)} {σ : L2.St} {H : Hp} {s : Shared} {E : Value → Shared → Prop} {D : Addr} {S : Key → Bool} {n : Nat} {k : Key} {v : Value} {Q : Value → Shared → Prop}
    (I : Inv X pins σ H s) (r : RelV (kV k) v) (hD : H D = some (SetK X.prog X.w D S n)) (room : n + 1 < scanBound) (h : ∀ s', Inv X pins σ (upd H D (SetK' X.prog X.w D S n k)) s' → Q .none s') :
    wpAny (model X.prog X.w) X.A (call (.builtin "set.add") [.ref D, v]) Q E s :=
  call_set_add (kV_is r) (key_scan r) (setK_get I hD) room fun h' sb fresh => by
    obtain ⟨o, es, ep, t, ho, more⟩ := fresh
    exact h _ (I.write (e := D) (t' := s.toks + 1) (by rw [hD]; trivial) (.inl rfl) (fun b u hb hu => (sb.2 b hb).trans hu) ⟨o, ho⟩ (setK_new ⟨o, es, ep, t, ho, more⟩))
theorem setK_empty (P : Program) (w : World) (h : Heap) : (h.push { cls := .type "set", dict := none, data := .set #[] 0 (.fresh 0 0 (!w.params.followText "set-order")) }).SetOf (mixKind P w) h.objs.size (fun _ => false) 0 :=
  ⟨_, #[], 0, _, Heap.get?_push_size _ rfl, ⟨rfl, rfl, rfl⟩, rfl, (fun e he => by simp at he), (fun k => by simp), (by decide), (by rfl), rfl⟩
theorem pe_scK {elt tg iter : Expr} {ifs : List Expr} {scope : Scope} {own : List (Str × Nat)} {pos : Pos} {wi : TI} {g : TG} {tt : TT} {te : TE}
    (hc : X.calm = true) (hN : X.N.Nodup) (hi : PI X tg iter wi) (ok : BlkOk X.N X.env.scope scope own)
    (hg : ∀ (s : Shared) (H : Hp) (C : Addr) (cl : List (Str × Addr)) (fp : List Addr), PG (X.blk s H scope (compEnvC scope cl C X.env) fp) tg g)
    (ht : ∀ (s : Shared) (H : Hp) (C : Addr) (cl : List (Str × Addr)) (fp : List Addr), PTs (X.blk s H scope (compEnvC scope cl C X.env) fp) ifs tt)
    (he : ∀ (s : Shared) (H : Hp) (C : Addr) (cl : List (Str × Addr)) (fp : List Addr), PE (X.blk s H scope (compEnvC scope cl C X.env) fp) elt te)
    (hs : ∀ x, foldedSetIterable iter X.env x = pure x := by intro _; rfl) : PE X (.SetComp elt [⟨tg, iter, ifs, 0⟩] scope pos) (tScK X.prog X.w wi g tt te (own.map (·.2))) := by
  refine ⟨fun pins s σ H Q I h => ?_⟩
  rw [PpSet.eval_SetComp]
  have cells : ∀ y ∈ scope.names, y.2 = .free → ∃ c, X.env.cells.lookup y.1 = some c := fun y hy e => (ok.free y hy e).elim (fun k => I.ok.has _ (.inl k)) fun k => I.ok.has _ (.inr k)
  refine wpAny_comprehension_free (use := none) rfl hs (closure_ok cells) ok.kind (fun y hy e => by rw [ok.uniq y hy, e]) ?_
  refine thn (hi.run pins s σ H _ I h) fun xv s1 hx => thn hx fun itv s2 h2 => ?_
  obtain ⟨it, fp, tn, J, Ha, rfl, Ia, T, sta, fa, q⟩ := h2
  refine PpSet.newSet_ok (newEnv_comp ?_)
  obtain ⟨D, hD⟩ : ∃ D, D = s2.heap.objs.size := ⟨_, rfl⟩
  obtain ⟨W, ⟨m0, w0⟩, turn⟩ := q D (Ia.hok.fresh (Nat.le_of_eq hD.symm))
  rw [← hD]
  -- the set is laid
  obtain ⟨sb, hsb⟩ : ∃ sb : Shared, sb = { s2 with heap := s2.heap.push { cls := .type "set", dict := none, data := .set #[] 0 (.fresh 0 0 (!X.w.params.followText "set-order")) } } := ⟨_, rfl⟩
  obtain ⟨Hb, hHb⟩ : ∃ Hb : Hp, Hb = upd Ha D (SetK X.prog X.w D (fun _ => false) 0) := ⟨_, rfl⟩
  have hpb : sb.heap = s2.heap.push { cls := .type "set", dict := none, data := .set #[] 0 (.fresh 0 0 (!X.w.params.followText "set-order")) } := by rw [hsb]
  have kb : ∀ b o, s2.heap.get? b = some o → sb.heap.get? b = some o := fun b o e => by
    rw [hpb]; exact Heap.get?_push_of_some _ e
  have Ib : Inv X pins σ Hb sb := by
    rw [hsb, hHb]
    refine Ia.laid (t' := s2.toks) (fun b o e => Heap.get?_push_of_some _ e) (Nat.le_of_eq hD.symm) ?_
    rw [hD]
    exact setK_new (setK_empty X.prog X.w s2.heap)
  have fb : ∀ b ∈ fp, FpOk X pins Hb b ∧ b < sb.heap.objs.size := fun b hb => by
    obtain ⟨o, e, _⟩ := T.obj _ _ sta b hb
    have lt := Heap.lt_size e
    refine ⟨⟨?_, (fa b hb).2⟩, by rw [hpb, Heap.size_push]; exact Nat.lt_succ_of_lt lt⟩
    rw [hHb, upd_ne (by rw [hD]; exact Nat.ne_of_lt lt)]
    exact (fa b hb).1
  have stb : tn 0 sb.heap := T.keep _ _ _ sta fun b _ o e => kb b o e
  have Ic := block_start Ib ok hN fb
  have nb : ∀ b ∈ fp, Hb b = none := fun b hb => (fb b hb).1.1
  rw [← hHb] at w0
  rw [← hsb]
  show codeAny _ _ (.compStart (.SetComp elt [⟨tg, iter, ifs, 0⟩] scope pos) 0 (.ref it) (.ref D) (compEnvC scope (cellsFrom (sb.heap.objs.size + 1) scope.names (cloFrom X.env.cells scope.names [])) sb.heap.objs.size X.env)) (compPost (model X.prog X.w) X.A X.xe none _ (.ref D) sb.heap.objs.size) { sb with heap := pushCells (sb.heap.push { cls := .type "dict", data := .dict #[] }) scope.names }
  obtain ⟨ce, hce⟩ : ∃ ce, ce = compEnvC scope (cellsFrom (sb.heap.objs.size + 1) scope.names (cloFrom X.env.cells scope.names [])) sb.heap.objs.size X.env := ⟨_, rfl⟩
  have pg : PG (X.blk sb Hb scope ce fp) tg g := by rw [hce]; exact hg _ _ _ _ _
  have pt : PTs (X.blk sb Hb scope ce fp) ifs tt := by rw [hce]; exact ht _ _ _ _ _
  have pe : PE (X.blk sb Hb scope ce fp) elt te := by rw [hce]; exact he _ _ _ _ _
  have cL : ce.locals = sb.heap.objs.size := by rw [hce]; rfl
  rw [← hce] at Ic ⊢
  obtain ⟨sc, hsc⟩ : ∃ sc : Shared, sc = { sb with heap := pushCells (sb.heap.push { cls := .type "dict", data := .dict #[] }) scope.names } := ⟨_, rfl⟩
  rw [← hsc] at Ic ⊢
  have stc : tn 0 sc.heap := T.keep _ _ _ stb fun b _ o e => by
    rw [hsc]; exact pushCells_keeps _ _ _ _ (Heap.get?_push_of_some _ e)
  have stat : ∀ {σ' : L2.St} {H' : Hp} {s' : Shared}, Inv (X.blk sb Hb scope ce fp) [] σ' H' s' → (∀ b ∈ fp, H' b = none) → ∀ b ∈ fp, FpOk (X.blk sb Hb scope ce fp) [] H' b := fun {σ' H' s'} J' hn b hb =>
    ⟨hn b hb, (J'.ok.exf b hb).1, J'.ok.exfs b hb, .inl hb, fun x c e => (J'.ok.exf b hb).2 x c e, fun p hp => by cases hp⟩
  have loop : codeAny (model X.prog X.w) X.A (.compLoop (.SetComp elt [⟨tg, iter, ifs, 0⟩] scope pos) 0 (.ref it) (.ref D) ce) (compPost (model X.prog X.w) X.A X.xe none (EP X pins σ Q) (.ref D) sb.heap.objs.size) sc := by
    refine PpSet.compLoopS_any (fun n s' => ∃ i H', Inv (X.blk sb Hb scope ce fp) [] (wipe σ (own.map (·.2))) H' s' ∧ tn i s'.heap ∧ (∀ b ∈ fp, H' b = none) ∧ W i n H') ?_ m0 ⟨0, Hb, Ic, stc, nb, w0⟩
    rintro n s5 ⟨i, H5, I5, st5, n5, w5⟩
    rcases turn i n H5 w5 with ⟨halt, qq⟩ | ⟨go, Nx, hNx, step⟩
    · refine thnF (T.done (X.blk sb Hb scope ce fp) rfl rfl rfl hc i [] s5 _ H5 (fun _ _ => False) I5 (stat I5 n5) st5 halt) fun r s6 hr6 => ?_
      obtain ⟨rfl, I6⟩ := hr6
      have I7 : Inv X pins σ H5 s6 := Ib.call' (ch := fp) I6.os I6.base I6.hok I6.bare fun b hb => by
        obtain ⟨⟨_, f2, f3, f4, f5, f6⟩, _⟩ := fb b hb
        exact ⟨f4, f2, f5, f6⟩
      have nC : H5 sb.heap.objs.size = none := by
        have z : H5 ce.locals = none := I6.free
        rwa [cL] at z
      obtain ⟨mm, hmm, _⟩ := I6.loc
      have hmm : s6.heap.Ns ce.locals mm := hmm
      rw [cL] at hmm
      obtain ⟨f0, f1, f2, f3, f4, f5⟩ := Ib.fpOk (Nat.le_refl _) nC
      exact ⟨mm, hmm, fun h'' keep => ⟨.ref D, H5, I7.turned (t' := s6.toks) (fun b o hb e => (keep.2 b hb).trans e) f0 f1 f3 f4 f5, rfl, qq⟩⟩
    · refine thnF (T.item (X.blk sb Hb scope ce fp) rfl rfl rfl hc i [] s5 _ H5 (fun _ _ => False) I5 (stat I5 n5) st5 go) fun r s6 h6 => ?_
      obtain ⟨u, rfl, h6⟩ := h6
      refine thnF h6 fun _ s7 h7 => ?_
      obtain ⟨x, H7, I7, r7, y7, st7, n7⟩ := h7
      refine thnF (pg.run _ s7 _ H7 x u _ (I7.pinned (stat I7 n7) (T.obj _ _ st7)) r7 (step x H7 y7)) fun _ s8 h8 => ?_
      obtain ⟨σ8, H8, I8, hw8, q8⟩ := h8
      refine thnF (pt.run _ s8 σ8 H8 _ I8 q8) fun b s9 h9 => ?_
      obtain ⟨H9, I9, q9⟩ := h9
      have back : ∀ {s' : Shared} {H' : Hp}, Inv (X.blk sb Hb scope ce fp) ([] ++ pinsAt fp s7.heap) σ8 H' s' → Nx H' →
          ∃ m, m < n ∧ ∃ i H', Inv (X.blk sb Hb scope ce fp) [] (wipe σ (own.map (·.2))) H' s' ∧ tn i s'.heap ∧ (∀ b ∈ fp, H' b = none) ∧ W i m H' := fun {s' H'} J' nx => by
        obtain ⟨m', hm, w'⟩ := hNx H' nx
        have still : ∀ b ∈ fp, ∀ o, s7.heap.get? b = some o → s'.heap.get? b = some o ∧ H' b = none := fun b hb o e => by
          have z := J'.pin (b, o) (List.mem_append_right _ (List.mem_append_right _ (mem_pinsAt hb e)))
          exact ⟨z.1, z.2.1⟩
        refine ⟨m', hm, i + 1, H', (J'.unpinned (pins := [])).weak (by rw [← hw8, wipe_length]) (fun j v e => ?_), T.keep _ _ _ st7 fun b hb o e => (still b hb o e).1, fun b hb => ?_, w'⟩
        · rw [← hw8] at e
          exact (wipe_some e).1
        · obtain ⟨o, e, _⟩ := T.obj _ _ st7 b hb
          exact (still b hb o e).2
      cases b with
      | false => exact back I9 q9
      | true =>
        refine thnF (pe.run _ s9 σ8 H9 _ I9 q9) fun z s10 h10 => ?_
        obtain ⟨yv, H10, I10, r10, key, S0, n0, rfl, hD10, hz10, nx⟩ := h10
        exact addK_ok (X := X.blk sb Hb scope ce fp) I10 r10 hD10 hz10 fun s11 I11 => back I11 nx
  exact PpSet.codeAny_compStart_set loop (T.self X.A 0 _ _ _ stc loop)
/-- len of a set of keys -/
def rLenK (P : Program) (w : World) : List V → Hp → VK → Prop := fun xs H Q => ∃ (a : Addr) (S : Key → Bool) (n : Nat), xs = [.ref a] ∧ H a = some (SetK P w a S n) ∧ Q (.int n) H
theorem call_lenK : CallR X (.builtin "len") (rLenK X.prog X.w) := by
  intro pins s σ H xs us Q I r h
  obtain ⟨a, S, n, rfl, ha, q⟩ := h
  obtain ⟨u, rfl, rx⟩ := vals1 r
  cases rx
  obtain ⟨o, es, ep, t, ho, hex, hd, _, _, hb, hf, hn⟩ := setK_get I ha
  have hb' : es.size < 4096 := hb
  exact call_len_set ho hex hd hf (by omega) ⟨.int n, H, I.tok _, ⟨_, by rw [← hn]⟩, q⟩
theorem signs_vals {z : Str} {acc : Array Value} (h : ItemsOf (SignAt z) acc z.cps.size) : Vals (z.cps.toList.map fun c => V.str ⟨#[c]⟩) acc.toList := by
  obtain ⟨hs, hp⟩ := h
  have key : ∀ (l : List Nat) (us : List Value), l.length = us.length → (∀ (j : Nat) (u : Value), us[j]? = some u → ∃ (c : Nat) (t : Tok), l[j]? = some c ∧ u = Value.str ⟨#[c]⟩ t) → Vals (l.map fun c => V.str ⟨#[c]⟩) us := by
    intro l
    induction l with
    | nil =>
      intro us hl _
      cases us with
      | nil => exact .nil
      | cons _ _ => simp at hl
    | cons c l ih =>
      intro us hl hu
      cases us with
      | nil => simp at hl
      | cons u us =>
        obtain ⟨c', t, e1, e2⟩ := hu 0 u rfl
        have e1' : c = c' := by simpa using e1
        subst e1'
        exact .cons ⟨t, e2⟩ (ih us (by simpa using hl) fun j v e => by simpa using hu (j + 1) v (by simpa using e))
  refine key _ _ (by simp [hs]) fun j u e => ?_
  obtain ⟨c, t, e1, e2⟩ := hp j u (by simpa using e)
  exact ⟨c, t, by simpa using e1, e2⟩
theorem call_listM (hc : X.calm = true) : CallR X (.type "list") (rListM X.K) := by
  intro pins s σ H xs us Q I r h
  rcases h with ⟨p, ys, rfl, hq, q⟩ | ⟨z, rfl, hz, q⟩
  · exact call_list_of pins s σ H _ us Q I r ⟨p, ys, rfl, hq, q⟩
  · obtain ⟨u, rfl, t, rfl⟩ := vals1 r
    have hlen : z.cps.size ≤ sizeLine := hz
    refine call_list_str (I.ok.hd hc) z t (fun h' tk acc c' keep hget items => ?_) hlen
    have rv := signs_vals items
    refine ⟨.ref s.heap.objs.size, _, I.laid (t' := tk) (o := .lst (z.cps.toList.map fun c => V.str ⟨#[c]⟩)) keep (Nat.le_refl _) ⟨?_, acc.toList, c', rv, ?_⟩, rfl, q _ (I.hok.fresh (Nat.le_refl _))⟩
    · rw [List.length_map, Array.length_toList]; exact hlen
    · exact hget
end
end LK

set_option Elab.async false
set_option linter.all false
set_option maxRecDepth 100000
set_option maxHeartbeats 4000000
/-! pure walks: what a comprehension makes where its turns leave what stands -/
namespace LK
open PySem PySem.Spec PyProof.Rows L2
theorem Same.new {H : Hp} {p : Addr} {o : HO} (h : H p = none) : Same H (upd H p o) := fun b u e => by
  rw [upd_ne (ne_of_none e h)]
  exact e
theorem Same.mut {H H' : Hp} {p : Addr} {o : HO} (e : Same H H') (h : H p = none) : Same H (upd H' p o) := fun b u hb => by
  rw [upd_ne (ne_of_none hb h)]
  exact e b u hb
theorem Same.seqT {K : PySem.W.Frag} {H H' : Hp} {a : Addr} {xs : List V} (e : Same H H') (h : SqT K H a xs) : SqT K H' a xs := by
  rcases h with (h | ⟨o, h⟩) | h
  · exact .inl (.inl (e _ _ h))
  · exact .inl (.inr ⟨o, e _ _ h⟩)
  · exact .inr h
mutual
theorem dp_same {K : PySem.W.Frag} {H H' : Hp} (e : Same H H') : ∀ {v : V} {d : PyData}, Dp K H v d → Dp K H' v d
  | _, _, .non => .non
  | _, _, .bl b => .bl b
  | _, _, .int i => .int i
  | _, _, .str x => .str x
  | _, _, .lst h r => .lst (e.seq h) (dpAll_same e r)
  | _, _, .tup h r => .tup (Same.seqT e h) (dpAll_same e r)
theorem dpAll_same {K : PySem.W.Frag} {H H' : Hp} (e : Same H H') : ∀ {vs : List V} {ds : List PyData}, DpAll K H vs ds → DpAll K H' vs ds
  | _, _, .nil => .nil
  | _, _, .cons a r => .cons (dp_same e a) (dpAll_same e r)
end
/-- texts as data -/
theorem dp_strs {K : PySem.W.Frag} {H : Hp} : ∀ (l : List Str), DpAll K H (l.map V.str) (l.map PyData.str)
  | [] => .nil
  | x :: l => .cons (.str x) (dp_strs l)
theorem dp_ints {K : PySem.W.Frag} {H : Hp} : ∀ (l : List Int), DpAll K H (l.map V.int) (l.map PyData.int)
  | [] => .nil
  | x :: l => .cons (.int x) (dp_ints l)

section
variable {J : It} {n : Nat} {G : Hp → Prop} {Y : Nat → Hp → V → Hp → Prop}
/-- a comprehension whose turns only lay new things: f i is what turn i gives, or none; the turn is shown for any wish -/
theorem lc_map (w : Walk J n G Y) {g : TG} {tt : TT} {te : TE} {vs : List Nat} {σ : L2.St} {H1 : Hp} {D : Addr} {Qd : Hp → Prop} (f : Nat → Option V)
    (hD : H1 D = none) (hn : n ≤ sizeLine) (hm : ∀ H, Same H1 H → G H)
    (hs : ∀ i x H H', i < n → Same H1 H → Y i H x H' → ∀ (Ry : V → Hp → Prop) (Rn : Hp → Prop), (∀ y H4, Same H H4 → f i = some y → Ry y H4) → (∀ H3, Same H H3 → f i = none → Rn H3) →
      g x (wipe σ vs) H' fun σ2 H2 => wipe σ2 vs = wipe σ vs ∧ tt σ2 H2 fun b H3 => if b = true then te σ2 H3 Ry else Rn H3)
    (hd : ∀ H, Same H1 H → H D = some (.lst ((List.range n).filterMap f)) → Qd H) :
    ∃ W : Nat → Nat → Hp → Prop, (∃ m, W 0 m (upd H1 D (.lst []))) ∧ ∀ i m H, W i m H →
      (J.stop i H ∧ Qd H) ∨ (J.go i H ∧ ∃ Nx : Hp → Prop, (∀ H', Nx H' → ∃ m', m' < m ∧ W (i + 1) m' H') ∧ ∀ x H', J.yld i H x H' → g x (wipe σ vs) H' fun σ2 H2 => wipe σ2 vs = wipe σ vs ∧ tt σ2 H2 fun b H3 =>
        if b = true then te σ2 H3 fun y H4 => ∃ acc, H4 D = some (.lst acc) ∧ acc.length < sizeLine ∧ Nx (upd H4 D (.lst (acc ++ [y]))) else Nx H3) := by
  refine lc_it w (fun i H => i ≤ n ∧ Same H1 H ∧ H D = some (.lst ((List.range i).filterMap f))) ⟨Nat.zero_le _, Same.new hD, upd_same⟩ (fun i H _ h => hm H h.2.1) (fun i x H H' hi h y => ?_) fun H h => hd H h.2.1 h.2.2
  obtain ⟨_, e, hDl⟩ := h
  have hr : List.range (i + 1) = List.range i ++ [i] := List.range_succ
  refine hs i x H H' hi e y _ _ (fun v H4 e4 ef => ?_) fun H3 e4 ef => ?_
  · refine ⟨_, e4 D _ hDl, ?_, hi, Same.mut (e.trans e4) hD, ?_⟩
    · have : ((List.range i).filterMap f).length ≤ (List.range i).length := List.length_filterMap_le ..
      rw [List.length_range] at this
      omega
    · rw [upd_same, hr, List.filterMap_append]
      simp [ef]
  · refine ⟨hi, e.trans e4, ?_⟩
    rw [e4 D _ hDl, hr, List.filterMap_append]
    simp [ef]
/-- all but D stands as it stood -/
def But (D : Addr) (H H' : Hp) : Prop := ∀ b o, b ≠ D → H b = some o → H' b = some o
theorem But.refl (D : Addr) (H : Hp) : But D H H := fun _ _ _ h => h
theorem But.same {D : Addr} {H H' H'' : Hp} (a : But D H H') (b : Same H' H'') : But D H H'' := fun c o n h => b c o (a c o n h)
theorem But.mut {D : Addr} {H H' : Hp} {o : HO} (a : But D H H') : But D H (upd H' D o) := fun c u n h => by
  rw [upd_ne n]
  exact a c u n h
/-- the inner walk of two clauses, at H4 -/
def Inner (H1 : Hp) (D : Addr) (fi : List V) (g1 : TG) (tt1 : TT) (te : TE) (vs1 : List Nat) (σ2 : L2.St) (J1 : It) (H4 : Hp) : Prop :=
  ∃ (n1 : Nat) (G1 : Hp → Prop) (Y1 : Nat → Hp → V → Hp → Prop) (f1 : Nat → Option V), Walk J1 n1 G1 Y1 ∧ (∀ H', Same H1 H' → But D H4 H' → G1 H') ∧ fi = (List.range n1).filterMap f1 ∧
    ∀ j x H5 H5', j < n1 → Same H1 H5 → But D H4 H5 → Y1 j H5 x H5' → ∀ (Ry : V → Hp → Prop) (Rn : Hp → Prop), (∀ y H8, Same H5 H8 → f1 j = some y → Ry y H8) → (∀ H7, Same H5 H7 → f1 j = none → Rn H7) →
      g1 x (wipe σ2 vs1) H5' fun σ3 H6 => wipe σ3 vs1 = wipe σ2 vs1 ∧ tt1 σ3 H6 fun b H7 => if b = true then te σ3 H7 Ry else Rn H7
/-- two clauses: f i is the list that turn i of the outer walk gives -/
theorem lc2_map (w : Walk J n G Y) {g g1 : TG} {tt tt1 : TT} {wi1 : TI} {te : TE} {vs vs1 : List Nat} {σ : L2.St} {H1 : Hp} {D : Addr} {Qd : Hp → Prop} (f : Nat → List V)
    (hD : H1 D = none) (hm : ∀ H, Same H1 H → G H) (hf : ((List.range n).flatMap f).length ≤ sizeLine)
    (hs : ∀ i x H H', i < n → Same H1 H → Y i H x H' → ∀ (RI : L2.St → It → Hp → Prop) (Rn : Hp → Prop), (∀ σ2 J1 H4, Same H H4 → Inner H1 D (f i) g1 tt1 te vs1 σ2 J1 H4 → RI σ2 J1 H4) → (∀ H3, Same H H3 → f i = [] → Rn H3) →
      g x (wipe σ vs) H' fun σ2 H2 => wipe σ2 vs = wipe σ vs ∧ tt σ2 H2 fun b H3 => if b = true then wi1 σ2 H3 (RI σ2) else Rn H3)
    (hd : ∀ H, Same H1 H → H D = some (.lst ((List.range n).flatMap f)) → Qd H) :
    ∃ W : Nat → Nat → Hp → Prop, (∃ m, W 0 m (upd H1 D (.lst []))) ∧ ∀ i m H, W i m H →
      (J.stop i H ∧ Qd H) ∨ (J.go i H ∧ ∃ Nx : Hp → Prop, (∀ H', Nx H' → ∃ m', m' < m ∧ W (i + 1) m' H') ∧ ∀ x H', J.yld i H x H' → g x (wipe σ vs) H' fun σ2 H2 => wipe σ2 vs = wipe σ vs ∧ tt σ2 H2 fun b H3 =>
        if b = true then wi1 σ2 H3 fun J1 H4 => ∃ W1 : Nat → Nat → Hp → Prop, (∃ m, W1 0 m H4) ∧ ∀ j k H, W1 j k H →
          (J1.stop j H ∧ Nx H) ∨ (J1.go j H ∧ ∃ Nx1 : Hp → Prop, (∀ H', Nx1 H' → ∃ k', k' < k ∧ W1 (j + 1) k' H') ∧ ∀ x H', J1.yld j H x H' → g1 x (wipe σ2 vs1) H' fun σ3 H5 => wipe σ3 vs1 = wipe σ2 vs1 ∧ tt1 σ3 H5 fun b H6 =>
            if b = true then te σ3 H6 fun y H7 => ∃ acc, H7 D = some (.lst acc) ∧ acc.length < sizeLine ∧ Nx1 (upd H7 D (.lst (acc ++ [y]))) else Nx1 H6)
        else Nx H3) := by
  have sz : ∀ i, i < n → ((List.range i).flatMap f).length + (f i).length ≤ sizeLine := fun i hi => by
    refine Nat.le_trans ?_ hf
    have h1 : List.range n = List.range (i + 1) ++ (List.range (n - (i + 1))).map (fun k => (i + 1) + k) := by
      rw [← List.range_add]
      congr 1
      omega
    rw [h1, List.range_succ, List.flatMap_append, List.flatMap_append, List.length_append, List.length_append, List.flatMap_singleton]
    omega
  refine ⟨fun i m H => m = n - i ∧ i ≤ n ∧ Same H1 H ∧ H D = some (.lst ((List.range i).flatMap f)), ⟨n, by simp, Nat.zero_le _, Same.new hD, upd_same⟩, ?_⟩
  rintro i m H ⟨rfl, hi, e, hDl⟩
  by_cases hlt : i < n
  · have hr : List.range (i + 1) = List.range i ++ [i] := List.range_succ
    refine .inr ⟨w.goes i H hlt (hm H e), fun H' => Same H1 H' ∧ H' D = some (.lst ((List.range (i + 1)).flatMap f)), fun H' p => ⟨n - (i + 1), by omega, rfl, hlt, p⟩, fun x H' y => ?_⟩
    refine hs i x H H' hlt e (w.yields i H x H' hlt (hm H e) y) (fun σ2 J1 H4 => ∃ W1 : Nat → Nat → Hp → Prop, (∃ m, W1 0 m H4) ∧ ∀ j k H, W1 j k H →
          (J1.stop j H ∧ (Same H1 H ∧ H D = some (.lst ((List.range (i + 1)).flatMap f)))) ∨ (J1.go j H ∧ ∃ Nx1 : Hp → Prop, (∀ H', Nx1 H' → ∃ k', k' < k ∧ W1 (j + 1) k' H') ∧ ∀ x H', J1.yld j H x H' → g1 x (wipe σ2 vs1) H' fun σ3 H5 => wipe σ3 vs1 = wipe σ2 vs1 ∧ tt1 σ3 H5 fun b H6 =>
            if b = true then te σ3 H6 fun y H7 => ∃ acc, H7 D = some (.lst acc) ∧ acc.length < sizeLine ∧ Nx1 (upd H7 D (.lst (acc ++ [y]))) else Nx1 H6)) _ (fun σ2 J1 H4 e4 inn => ?_) fun H3 e3 ef => ?_
    · obtain ⟨n1, G1, Y1, f1, w1, hm1, ef, hs1⟩ := inn
      have hD4 : H4 D = some (.lst ((List.range i).flatMap f)) := e4 D _ hDl
      have hz := sz i hlt
      rw [ef] at hz
      refine ⟨fun j k H => k = n1 - j ∧ j ≤ n1 ∧ But D H4 H ∧ Same H1 H ∧ H D = some (.lst ((List.range i).flatMap f ++ (List.range j).filterMap f1)),
        ⟨n1, by simp, Nat.zero_le _, But.refl _ _, e.trans e4, by simpa using hD4⟩, ?_⟩
      rintro j k H5 ⟨rfl, hj, b5, s5, d5⟩
      by_cases hjl : j < n1
      · have hr1 : List.range (j + 1) = List.range j ++ [j] := List.range_succ
        refine .inr ⟨w1.goes j H5 hjl (hm1 H5 s5 b5), fun H' => But D H4 H' ∧ Same H1 H' ∧ H' D = some (.lst ((List.range i).flatMap f ++ (List.range (j + 1)).filterMap f1)), fun H' p => ⟨n1 - (j + 1), by omega, rfl, hjl, p⟩, fun x1 H5' y1 => ?_⟩
        refine hs1 j x1 H5 H5' hjl s5 b5 (w1.yields j H5 x1 H5' hjl (hm1 H5 s5 b5) y1) _ _ (fun v H8 e8 e9 => ?_) fun H7 e7 e8 => ?_
        · refine ⟨_, e8 D _ d5, ?_, (b5.same e8).mut, Same.mut (s5.trans e8) hD, ?_⟩
          · have h1 : ((List.range j).filterMap f1 ++ [v]).length ≤ ((List.range n1).filterMap f1).length := by
              have h2 : List.range n1 = List.range (j + 1) ++ (List.range (n1 - (j + 1))).map (fun k => (j + 1) + k) := by
                rw [← List.range_add]
                congr 1
                omega
              rw [h2, hr1, List.filterMap_append, List.filterMap_append, List.length_append, List.length_append, List.length_append]
              simp [e9]
            rw [List.length_append] at h1 ⊢
            have h3 : [v].length = 1 := rfl
            omega
          · rw [upd_same, hr1, List.filterMap_append]
            simp [e9]
        · refine ⟨b5.same e7, s5.trans e7, ?_⟩
          rw [e7 D _ d5, hr1, List.filterMap_append]
          simp [e8]
      · have en : j = n1 := by omega
        subst en
        refine .inl ⟨w1.stops H5 (hm1 H5 s5 b5), s5, ?_⟩
        rw [d5, hr, List.flatMap_append, List.flatMap_singleton, ef]
    · refine ⟨e.trans e3, ?_⟩
      rw [e3 D _ hDl, hr, List.flatMap_append, List.flatMap_singleton, ef, List.append_nil]
  · have en : i = n := by omega
    subst en
    exact .inl ⟨w.stops H (hm H e), hd H e hDl⟩
/-- a comprehension of a set of keys; f i: the key of turn i, unlike ones give its size -/
theorem sc_map {P : Program} {wd : World} (w : Walk J n G Y) {g : TG} {tt : TT} {te : TE} {vs : List Nat} {σ : L2.St} {H1 : Hp} {D : Addr} {Qd : Hp → Prop} (f : Nat → Key)
    (hD : H1 D = none) (hn : n + 1 < scanBound) (hm : ∀ H, Same H1 H → G H) (hu : ∀ i j, i < n → j < i → f j ≠ f i)
    (hs : ∀ i x H H', i < n → Same H1 H → Y i H x H' → ∀ (Ry : V → Hp → Prop) (Rn : Hp → Prop), (∀ H4, Same H H4 → Ry (kV (f i)) H4) →
      g x (wipe σ vs) H' fun σ2 H2 => wipe σ2 vs = wipe σ vs ∧ tt σ2 H2 fun b H3 => if b = true then te σ2 H3 Ry else Rn H3)
    (hd : ∀ H S, Same H1 H → H D = some (SetK P wd D S n) → Qd H) :
    ∃ W : Nat → Nat → Hp → Prop, (∃ m, W 0 m (upd H1 D (SetK P wd D (fun _ => false) 0))) ∧ ∀ i m H, W i m H →
      (J.stop i H ∧ Qd H) ∨ (J.go i H ∧ ∃ Nx : Hp → Prop, (∀ H', Nx H' → ∃ m', m' < m ∧ W (i + 1) m' H') ∧ ∀ x H', J.yld i H x H' → g x (wipe σ vs) H' fun σ2 H2 => wipe σ2 vs = wipe σ vs ∧ tt σ2 H2 fun b H3 =>
        if b = true then te σ2 H3 fun y H4 => ∃ (k : Key) (S : Key → Bool) (n : Nat), y = kV k ∧ H4 D = some (SetK P wd D S n) ∧ n + 1 < scanBound ∧ Nx (upd H4 D (SetK' P wd D S n k)) else Nx H3) := by
  refine ⟨fun i m H => m = n - i ∧ i ≤ n ∧ Same H1 H ∧ H D = some (SetK P wd D (fun k => decide (∃ j, j < i ∧ f j = k)) i), ⟨n, by simp, Nat.zero_le _, Same.new hD, ?_⟩, ?_⟩
  · rw [upd_same]
    simp
  rintro i m H ⟨rfl, hi, e, hDl⟩
  by_cases hlt : i < n
  · refine .inr ⟨w.goes i H hlt (hm H e), fun H' => Same H1 H' ∧ H' D = some (SetK P wd D (fun k => decide (∃ j, j < i + 1 ∧ f j = k)) (i + 1)), fun H' p => ⟨n - (i + 1), by omega, rfl, hlt, p⟩, fun x H' y => ?_⟩
    refine hs i x H H' hlt e (w.yields i H x H' hlt (hm H e) y) _ _ fun H4 e4 => ?_
    refine ⟨f i, _, i, rfl, e4 D _ hDl, by omega, Same.mut (e.trans e4) hD, ?_⟩
    rw [upd_same]
    have hno : ¬ ∃ j, j < i ∧ f j = f i := fun ⟨j, hj, ej⟩ => hu i j hlt hj ej
    unfold SetK'
    rw [if_neg (by simpa using hno)]
    congr 2
    funext k
    rw [Bool.eq_iff_iff, Bool.or_eq_true, decide_eq_true_eq, decide_eq_true_eq, decide_eq_true_eq]
    constructor
    · rintro (⟨j, hj, ej⟩ | rfl)
      · exact ⟨j, by omega, ej⟩
      · exact ⟨i, by omega, rfl⟩
    · rintro ⟨j, hj, ej⟩
      by_cases hji : j = i
      · subst hji
        exact .inr ej.symm
      · exact .inl ⟨j, by omega, ej⟩
  · have en : i = n := by omega
    subst en
    exact .inl ⟨w.stops H (hm H e), hd H _ e hDl⟩
end
/-! ranges that read a list -/
theorem range_getD {α : Type} (d : α) (xs : List α) : (List.range xs.length).map (fun i => xs.getD i d) = xs := by
  refine List.ext_getElem (by simp) fun i h1 h2 => ?_
  simp [List.getD_eq_getElem?_getD, h2]
theorem range_fm {α β : Type} (d : α) (xs : List α) (f : α → Option β) : (List.range xs.length).filterMap (fun i => f (xs.getD i d)) = xs.filterMap f := by
  conv => rhs; rw [← range_getD d xs]
  rw [List.filterMap_map]
  rfl
theorem range_flat {α β : Type} (d : α) (xs : List α) (f : α → List β) : (List.range xs.length).flatMap (fun i => f (xs.getD i d)) = xs.flatMap f := by
  conv => rhs; rw [← range_getD d xs]
  rw [List.flatMap_map]
theorem getD_of {α : Type} {d x : α} {xs : List α} {i : Nat} (h : xs[i]? = some x) : xs.getD i d = x := by
  rw [List.getD_eq_getElem?_getD, h]
  rfl
theorem vals_rev : ∀ {vs : List V} {us : List Value}, Vals vs us → Vals vs.reverse us.reverse
  | _, _, .nil => .nil
  | _, _, .cons r t => by
    rw [List.reverse_cons, List.reverse_cons]
    exact (vals_rev t).append (.cons r .nil)
theorem erase_map {α β : Type} (f : α → β) : ∀ (l : List α) (i : Nat), (l.map f).eraseIdx i = (l.eraseIdx i).map f
  | [], _ => rfl
  | _ :: _, 0 => rfl
  | a :: l, i + 1 => by
    show f a :: (l.map f).eraseIdx i = f a :: (l.eraseIdx i).map f
    rw [erase_map f l i]
theorem erase_perm {α : Type} : ∀ (l : List α) (i : Nat) (h : i < l.length), (l[i] :: l.eraseIdx i).Perm l
  | a :: l, 0, _ => List.Perm.refl _
  | a :: l, i + 1, h => by
    have ih := erase_perm l i (by simpa using h)
    exact (List.Perm.swap ..).trans (List.Perm.cons a ih)
theorem sum_ones : ∀ n : Nat, (List.replicate n 1).sum = n
  | 0 => rfl
  | n + 1 => by rw [List.replicate_succ, List.sum_cons, sum_ones n, Nat.add_comm]
/-- texts put together with nothing between -/
theorem join_nosep (ys : List Str) : (Txt.join (Str.ofString "") ys).cps.toList = ys.flatMap fun y => y.cps.toList := by
  have e0 : (Str.ofString "").cps = #[] := by decide +kernel
  have key : ∀ (l : List Str) (acc : Array Nat), (l.foldl (fun acc p => acc ++ (Str.ofString "").cps ++ p.cps) acc).toList = acc.toList ++ l.flatMap fun y => y.cps.toList := by
    intro l
    induction l with
    | nil => intro acc; simp
    | cons y l ih =>
      intro acc
      rw [List.foldl_cons, ih, e0]
      simp
  cases ys with
  | nil => rfl
  | cons y l =>
    show (l.foldl (fun acc p => acc ++ (Str.ofString "").cps ++ p.cps) y.cps).toList = _
    rw [key, List.flatMap_cons]
theorem at4 {a b c d : V} {i : Int} (h0 : 0 ≤ i) (h1 : i < 4) : ∃ v, atI [a, b, c, d] i = some v ∧ (v = a ∨ v = b ∨ v = c ∨ v = d) := by
  rcases (by omega : i = 0 ∨ i = 1 ∨ i = 2 ∨ i = 3) with rfl | rfl | rfl | rfl
  · exact ⟨a, rfl, .inl rfl⟩
  · exact ⟨b, rfl, .inr (.inl rfl)⟩
  · exact ⟨c, rfl, .inr (.inr (.inl rfl))⟩
  · exact ⟨d, rfl, .inr (.inr (.inr rfl))⟩
/-! what is walked, by what the value is -/
def iAny (K : PySem.W.Frag) (te : TE) : TI := fun σ H R => te σ H fun x H1 => match x with
  | .ref a => ((∃ xs, SqL K H1 a xs) ∧ R (Itl K a) H1) ∨ ((∃ xs, SqT K H1 a xs) ∧ R (Itt K a) H1)
  | .str z => R (Its z) H1
  | _ => False
section
variable {X : Cx} {tg e : Expr} {te : TE}
theorem pi_any (he : PE X e te) : PI X tg e (iAny X.K te) := by
  refine ⟨fun pins s σ H R I h => ?_⟩
  refine thn (he.run pins s σ H _ I h) fun v s1 hv => ?_
  obtain ⟨x, H1, I1, r1, q1⟩ := hv
  cases x with
  | ref a =>
    cases r1
    rcases q1 with ⟨⟨xs, hq⟩, q⟩ | ⟨⟨xs, hq⟩, q⟩
    · obtain ⟨its, rv, pl, _⟩ := I1.list hq
      exact wpAny_pyIter_list pl.isList (pi_one (tk := s1.toks) I1 _ (turn_list a _) ⟨_, Heap.get?_push_size _ rfl, rfl, rfl⟩ q)
    · obtain ⟨its, rv, pl, _⟩ := I1.tuple hq
      exact wpAny_pyIter_tuple (show s1.heap.IsTuple a its.toArray from pl) (pi_one (tk := s1.toks) I1 _ (turn_tuple a _) ⟨_, Heap.get?_push_size _ rfl, rfl, rfl⟩ q)
  | str z =>
    obtain ⟨t, rfl⟩ := r1
    cases ha : z.cps.all (· < 128)
    · exact wpAny_pyIter_wide ha (pi_one (tk := s1.toks) I1 _ (turn_str _ z t "str_iterator" (.inr rfl)) ⟨_, Heap.get?_push_size _ rfl, rfl, rfl⟩ q1)
    · exact wpAny_pyIter_ascii ha (pi_one (tk := s1.toks) I1 _ (turn_str _ z t "str_ascii_iterator" (.inl rfl)) ⟨_, Heap.get?_push_size _ rfl, rfl, rfl⟩ q1)
  | _ => exact (show False from q1).elim
/-- f(k = v, ..), no positional value -/
theorem pe_callK0 {CX : CXT} {k : Nat} {f : Addr} {fd : FuncData} {ps ks : List Str} {sp : Sp} {E : XK} {x : Str} {p pos : Pos} {kws : List Keyword} {tk : TA} {g : List Value → List Value → List Value} {gV : List V → List V → List V}
    (F : FnOk X.prog X.w X.K X.mg X.base CX k f fd ps sp) (hr : Room k X.A) (hg : Gl X x) (hm : X.mg x = some (.ref f)) (hk : PySem.W.keepIn X.K (.ref f) = true) (hb : KBinds X.K fd ps ks g gV) (hx : Passes CX X E)
    (hkw : PK X kws tk) (hall : (backToKw pos (keywordEach kws X.env)).all (·.1.isSome) = true := by rfl) (hks : (backToKw pos (keywordEach kws X.env)).filterMap (·.1) = ks := by rfl)
    (hdb : (x == ("__debug__" : Str)) = false := by decide) (hpl : ((backTo pos (starEach [] X.env)).any (·.1) || (backToKw pos (keywordEach kws X.env)).any (·.1.isNone)) = false := by rfl) :
    PE X (.Call (.Name x p) [] kws pos) (tCallK sp gV E tNil tk) := by
  refine ⟨fun pins s σ H Q I h => wpAny_Call_Name_kw (ld_glob I hg hm ?_ hdb)⟩
  refine PySem.W.callWith_KW0 (h₀ := X.base) I.ok.mod.kin hk hall (thn (hkw.run pos pins s σ H _ I h) fun ws s2 hz => ?_) hpl
  obtain ⟨zs, H2, I2, rz, q2⟩ := hz
  refine ⟨I2.kIn, ?_⟩
  rw [hks]
  exact run_fnk F hr hb hx I2 .nil rz q2
end
/-! the same rules with the written part as a letter of its own (a comprehension's block has the same) -/
section
variable {X : Cx} {K : PySem.W.Frag} {tg e : Expr} {te ta : TE}
theorem oAdd (hK : X.K = K := by rfl) : OpR X (binaryOp .Add) (rAddM K) := hK ▸ op_addM
theorem oMul (hK : X.K = K := by rfl) : OpR X (binaryOp .Mult) (rMulM K) := hK ▸ op_mulM
def rEqM (K : PySem.W.Frag) : R2 := fun x y H Q => rEq x y H Q ∨ rEqD K x y H Q
def rNeM (K : PySem.W.Frag) : R2 := fun x y H Q => rNe x y H Q ∨ rNeD K x y H Q
theorem oEq (hu : X.A.units + 64 < cLine) (hK : X.K = K := by rfl) : OpR X (compareOp .Eq) (rEqM K) := hK ▸ op_eqM hu
theorem oNe (hu : X.A.units + 64 < cLine) (hK : X.K = K := by rfl) : OpR X (compareOp .NotEq) (rNeM K) := hK ▸ op_neM hu
theorem oIn (hK : X.K = K := by rfl) : OpR X (compareOp .In) (rInM K false) := hK ▸ op_inM
theorem oNin (hK : X.K = K := by rfl) : OpR X (compareOp .NotIn) (rInM K true) := hK ▸ op_ninM
theorem ixM (hK : X.K = K := by rfl) : IxR X (rIx K) := hK ▸ ix_seq
theorem slM (hK : X.K = K := by rfl) : SlR X (rSlM K) := hK ▸ sl_M
def rLen (K : PySem.W.Frag) : List V → Hp → VK → Prop := fun xs H Q => ∃ x n, xs = [x] ∧ LenV K x H n ∧ Q (.int n) H
theorem cLen (hK : X.K = K := by rfl) : CallR X (.builtin "len") (rLen K) := hK ▸ call_len
theorem cIsi (hK : X.K = K := by rfl) : CallR X (.builtin "isinstance") (rIsi K) := hK ▸ call_isi
theorem cList (hc : X.calm = true) (hK : X.K = K := by rfl) : CallR X (.type "list") (rListM K) := hK ▸ call_listM hc
def rTupOf (K : PySem.W.Frag) : List V → Hp → VK → Prop := fun xs H Q => ∃ p ys, xs = [.ref p] ∧ ((SqL K H p ys ∧ ∀ l, H l = none → Q (.ref l) (upd H l (.tup ys))) ∨ (SqT K H p ys ∧ Q (.ref p) H))
theorem cTup (hK : X.K = K := by rfl) : CallR X (.type "tuple") (rTupOf K) := hK ▸ call_tuple_of
theorem cAll (hc : X.calm = true) (hK : X.K = K := by rfl) : CallR X (.builtin "all") (rAll K) := hK ▸ cr_all hc
theorem cAny (hc : X.calm = true) (hK : X.K = K := by rfl) : CallR X (.builtin "any") (rAny K) := hK ▸ cr_any hc
def rInt : List V → Hp → VK → Prop := fun xs H Q => (∃ i, xs = [.int i] ∧ Q (.int i) H) ∨ ∃ k, xs = [.bl k] ∧ Q (.int (if k then 1 else 0)) H
theorem cInt : CallR X (.type "int") rInt := call_int1
def rMax2 : List V → Hp → VK → Prop := fun xs H Q => ∃ i j, xs = [.int i, .int j] ∧ Q (.int (if j > i then j else i)) H
def rMin2 : List V → Hp → VK → Prop := fun xs H Q => ∃ i j, xs = [.int i, .int j] ∧ Q (.int (if j < i then j else i)) H
theorem cMax (hc : X.calm = true) : CallR X (.builtin "max") rMax2 := call_max2 hc
theorem cMin (hc : X.calm = true) : CallR X (.builtin "min") rMin2 := call_min2 hc
theorem piAny (he : PE X e te) (hK : X.K = K := by rfl) : PI X tg e (iAny K te) := hK ▸ pi_any he
def tTru (K : PySem.W.Frag) (ta : TE) : TT := fun σ H Q => ta σ H fun x H' => ∃ k, TruV K x H' k ∧ Q k H'
theorem ptT (ha : PE X e ta) (he : ∀ whole, isTrue e X.env whole = (do let v ← whole; standAt e.pos; holding [v] (truthy v)) := by intro _; rfl) (hK : X.K = K := by rfl) : PT X e (tTru K ta) := hK ▸ pt_truth ha he
def rJoin (K : PySem.W.Frag) : V → List V → Hp → VK → Prop := fun x xs H Q => ∃ a p, ∃ ys : List Str, x = .str a ∧ xs = [.ref p] ∧ (SqL K H p (ys.map V.str) ∨ SqT K H p (ys.map V.str)) ∧
  (ys.map (·.length)).sum + ys.length * a.length ≤ 16777216 ∧ Q (.str (Txt.join a ys)) H
theorem peJoin {o : Expr} {to : TE} {apos pos : Pos} (ho : PE X o to) (he : PE X e te) (hs : starEach [e] X.env = [(false, eval e X.env)] := by rfl) (hbase : attributeBase o "join" X.env (eval o X.env) = eval o X.env := by rfl)
    (hline : (apos.endLine == pos.line) = true := by rfl) (hK : X.K = K := by rfl) : PE X (.Call (.Attribute o "join" apos) [e] [] pos) (tM1 (rJoin K) to te) := by
  subst hK
  exact pe_join ho he hs hbase hline
section
variable {o e : Expr} {es : List Expr} {to : TE} {t : TA} {name : Str} {apos cpos : Pos} {T id : String} {r : V → List V → Hp → VK → Prop}
theorem peBm0 (pa : PlainAttrs T) (slot : Slot T name id) (hty : typeOf (.builtin id) = pure (.type "method_descriptor")) (hm : MtR X id r) (ho : PE X o to)
    (h1 : attributeBase o name X.env (eval o X.env) = eval o X.env := by rfl) (h2 : (apos.endLine == cpos.line) = true := by rfl) (hK : X.K = K := by rfl) : PE X (.Call (.Attribute o name apos) [] [] cpos) (tBM0 K T r to) := by
  subst hK
  exact pe_bm0 pa slot hty hm ho h1 h2
theorem peBm (pa : PlainAttrs T) (slot : Slot T name id) (hty : typeOf (.builtin id) = pure (.type "method_descriptor")) (hm : MtR X id r) (ho : PE X o to) (ha : PA X (e :: es) t)
    (h1 : attributeBase o name X.env (eval o X.env) = eval o X.env := by rfl)
    (h2 : ((backTo cpos (starEach (e :: es) X.env)).all (fun x => !x.1) && (backToKw cpos (keywordEach [] X.env)).all (fun x => x.1.isSome) && decide ((e :: es).length + ([] : List Keyword).length + (if ([] : List Keyword).isEmpty then 0 else 1) < 30)) = true := by rfl)
    (h3 : (apos.endLine == cpos.line) = true := by rfl) (h4 : starEach (e :: es) X.env = (false, eval e X.env) :: starEach es X.env := by rfl) (h5 : (backTo cpos (starEach es X.env)).any (·.1) = false := by rfl) (hK : X.K = K := by rfl) :
    PE X (.Call (.Attribute o name apos) (e :: es) [] cpos) (tBM K T r to t) := by
  subst hK
  exact pe_bm pa slot hty hm ho ha h1 h2 h3 h4 h5
end
end
end LK

set_option Elab.async false
set_option linter.all false
set_option maxRecDepth 100000
set_option maxHeartbeats 4000000
/-! the helpers that all laws bear: mixed, cell, take: their readings, once -/
namespace LK
open PySem PySem.Spec PyProof.Rows L2
theorem blT {p : Prop} [Decidable p] (h : p) : V.bl (decide p) = V.bl true := by rw [decide_eq_true h]
theorem blF {p : Prop} [Decidable p] (h : ¬ p) : V.bl (decide p) = V.bl false := by rw [decide_eq_false h]
theorem blN {p : Prop} [Decidable p] (h : p) : V.bl (!decide p) = V.bl false := by rw [decide_eq_true h]; rfl
theorem blNF {p : Prop} [Decidable p] (h : ¬ p) : V.bl (!decide p) = V.bl true := by rw [decide_eq_false h]; rfl
/-- one sign in a text -/
theorem sign_in (z : Str) (c : Nat) : (!(Builtin.Str.occurrences z (⟨#[c]⟩ : Str) 0 z.length 1).isEmpty) = decide (c ∈ z.cps.toList) := PySem.StrLaws.found_one z c
abbrev rMd : R2 := rI (fun _ j => j ≠ 0) fun i j => .int (i.fmod j)
abbrev rDv : R2 := rI CDivN fun i j => .int (i.fdiv j)
abbrev rSb : R2 := rI0 fun i j => .int (i - j)
abbrev rPw : R2 := rI CPow fun i j => .int (i ^ j.toNat)
def mixed (cell k : Int) : Int :=
  let m := (cell.fmod 2147483647 * 48271 + k * 69621 + 1048583).fmod 2147483629
  let m := (m * m).fmod 2147483587
  (m * (m + 2)).fmod 2147483579
def t_mixed (K : PySem.W.Frag) : TS :=
  tSeq (tAsg (tOp rMd (tOp (rAddM K) (tOp (rAddM K) (tOp (rMulM K) (tOp rMd (tVar 0) (tC (.int 2147483647))) (tC (.int 48271))) (tOp (rMulM K) (tVar 1) (tC (.int 69621)))) (tC (.int 1048583))) (tC (.int 2147483629))) (gName 2))
  (tSeq (tAsg (tOp rMd (tOp (rMulM K) (tVar 2) (tVar 2)) (tC (.int 2147483587))) (gName 2))
  (tRet (tOp rMd (tOp (rMulM K) (tVar 2) (tOp (rAddM K) (tVar 2) (tC (.int 2)))) (tC (.int 2147483579)))))
theorem fmod_range {a b : Int} (hb : 0 < b) : 0 ≤ a.fmod b ∧ a.fmod b < b := by
  rw [Int.fmod_eq_emod_of_nonneg a (by omega)]
  exact ⟨Int.emod_nonneg a (by omega), Int.emod_lt_of_pos a hb⟩
theorem mixed_range (c k : Int) : 0 ≤ mixed c k ∧ mixed c k < 2147483579 := fmod_range (by decide)
theorem mixed_run {K : PySem.W.Frag} {c k : Int} {H : Hp} {D : Ends} (h : D.rt (.int (mixed c k)) H) : t_mixed K D [some (.int c), some (.int k), none] H := by
  have e1 := fmod_range (a := c.fmod 2147483647 * 48271 + k * 69621 + 1048583) (b := 2147483629) (by decide)
  have e2 := fmod_range (a := (c.fmod 2147483647 * 48271 + k * 69621 + 1048583).fmod 2147483629 * (c.fmod 2147483647 * 48271 + k * 69621 + 1048583).fmod 2147483629) (b := 2147483587) (by decide)
  refine ⟨_, rfl, _, _, rfl, rfl, Int.ne_of_gt (by decide), .inl (.inr ⟨by decide, by decide⟩), _, rfl, .inl (.inr ⟨by decide, by decide⟩), _, _, rfl, rfl, Int.ne_of_gt (by decide), ?_⟩
  refine ⟨_, rfl, _, rfl, .inl (.inl ⟨by omega, by omega⟩), _, _, rfl, rfl, Int.ne_of_gt (by decide), ?_⟩
  exact ⟨_, rfl, _, rfl, .inl (.inl ⟨by omega, by omega⟩), _, _, rfl, rfl, Int.ne_of_gt (by decide), h⟩
/-- what the cell k of a script is worth, a pile of digits -/
def cellAt (ns : List Int) (k : Nat) : Int := ns.getD k 0
def mixUp (c k : Int) (j : Nat) (found : Int) : Int := found * 2147483579 + mixed c (7 * k + 100 * j + j * j)
def mixTo (c k : Int) : Nat → Int
  | 0 => 0
  | n + 1 => mixUp c k n (mixTo c k n)
def cellOf (ns : List Int) (k : Nat) : Int :=
  if 1000000000000000000 ≤ cellAt ns k then (cellAt ns k - 1000000000000000000).fmod (10 ^ 60 * 10 ^ 60 * 10 ^ 60 * 10 ^ 60) else mixTo (cellAt ns k) k 24
def spMixed : Sp := fun vs H Q _ => ∃ c k : Int, vs = [.int c, .int k] ∧ Q (.int (mixed c k)) H
def spCell' (K : PySem.W.Frag) : Sp := fun vs H Q _ => ∃ (a : Addr) (ns : List Int) (k : Nat), vs = [.ref a, .int k] ∧ SqL K H a (ns.map V.int) ∧ ns.length ≤ 63 ∧ k ≤ 1000 ∧ Q (.int (cellOf ns k)) H
def t_cell2 (K : PySem.W.Frag) : TS :=
(tSeq (tIfS (tTest (tOp (rCmpM (fun i j => decide (j ≤ i)) fun i j => !decide (i.cps.toList < j.cps.toList)) (tVar 2) (tOp rPw (tC (.int 10)) (tC (.int 18)))))
      (tRet (tOp rMd (tOp rSb (tVar 2) (tOp rPw (tC (.int 10)) (tC (.int 18))))
        (tOp (rMulM K) (tOp (rMulM K) (tOp (rMulM K) (tOp rPw (tC (.int 10)) (tC (.int 60))) (tOp rPw (tC (.int 10)) (tC (.int 60)))) (tOp rPw (tC (.int 10)) (tC (.int 60)))) (tOp rPw (tC (.int 10)) (tC (.int 60))))))
      tNext)
  (tSeq (tAsg (tC (.int 0)) (gName 3))
  (tSeq (tFor (iRng1 (tCons (tC (.int 24)) tNil)) (gName 4)
      (tAsg (tOp (rAddM K) (tOp (rMulM K) (tVar 3) (tC (.int 2147483579)))
        (tCall spMixed [] E0 (tCons (tVar 2) (tCons (tOp (rAddM K) (tOp (rAddM K) (tOp (rMulM K) (tC (.int 7)) (tVar 1)) (tOp (rMulM K) (tC (.int 100)) (tVar 4))) (tOp (rMulM K) (tVar 4) (tVar 4))) tNil)))) (gName 3)))
    (tRet (tVar 3)))))
def t_cell (K : PySem.W.Frag) : TS :=
  tSeq (tAsg (tC (.int 0)) (gName 2))
  (tSeq (tIfS (tTest (tOp (rCmpM (fun i j => decide (i < j)) fun i j => decide (i.cps.toList < j.cps.toList)) (tVar 1) (tCB (LK.rLen K) (tCons (tVar 0) tNil)))) (tAsg (tOp (rIx K) (tVar 0) (tVar 1)) (gName 2)) tNext)
  (t_cell2 K))
theorem pw60 : CPow 10 60 := ⟨by decide, by decide, by decide⟩
theorem pw18 : CPow 10 18 := ⟨by decide, by decide, by decide⟩
theorem w1 : CMulW ((10 : Int) ^ (60 : Int).toNat) ((10 : Int) ^ (60 : Int).toNat) := wide_mul (a := 200) (b := 200) (by decide) (by decide) (by decide) (by decide) (by decide)
set_option exponentiation.threshold 4000 in
theorem w2 : CMulW ((10 : Int) ^ (60 : Int).toNat * (10 : Int) ^ (60 : Int).toNat) ((10 : Int) ^ (60 : Int).toNat) := wide_mul (a := 400) (b := 200) (by decide) (by decide) (by decide) (by decide) (by decide)
set_option exponentiation.threshold 4000 in
theorem w3 : CMulW ((10 : Int) ^ (60 : Int).toNat * (10 : Int) ^ (60 : Int).toNat * (10 : Int) ^ (60 : Int).toNat) ((10 : Int) ^ (60 : Int).toNat) := wide_mul (a := 600) (b := 200) (by decide) (by decide) (by decide) (by decide) (by decide)
theorem e18 : (10 : Int) ^ (18 : Int).toNat = 1000000000000000000 := by decide
theorem e60 : (10 : Int) ^ (60 : Int).toNat = 10 ^ 60 := rfl
theorem nz60 : (10 : Int) ^ (60 : Int).toNat * (10 : Int) ^ (60 : Int).toNat * (10 : Int) ^ (60 : Int).toNat * (10 : Int) ^ (60 : Int).toNat ≠ 0 := by decide
theorem at_of_list {ns : List Int} {k : Nat} (h : k < ns.length) : atI (ns.map V.int) (k : Int) = some (.int (cellAt ns k)) := by
  refine atI_nat ?_
  rw [List.getElem?_map, List.getElem?_eq_getElem h]
  show some (V.int ns[k]) = _
  rw [cellAt, List.getD_eq_getElem?_getD, List.getElem?_eq_getElem h]
  rfl
theorem mix_range (c k : Int) : ∀ n, 0 ≤ mixTo c k n
  | 0 => Int.le_refl 0
  | n + 1 => by
    have h1 := mix_range c k n
    have h2 := (mixed_range c (7 * k + 100 * n + n * n)).1
    have h3 : 0 ≤ mixTo c k n * 2147483579 := Int.mul_nonneg h1 (by decide)
    show 0 ≤ mixTo c k n * 2147483579 + _
    omega
theorem cell_run {K : PySem.W.Frag} {a : Addr} {ns : List Int} {k : Nat} {H : Hp} {D : Ends} (hs : SqL K H a (ns.map V.int)) (hn : ns.length ≤ 63) (hk : k ≤ 1000) (h : D.rt (.int (cellOf ns k)) H) :
    t_cell K D [some (.ref a), some (.int k), none, none, none] H := by
  -- behind the reading of the cell
  have rest : ∀ c : Int, c = cellAt ns k → t_cell2 K D [some (.ref a), some (.int k), some (.int c), none, none] H := by
    intro c hc
    refine ⟨_, rfl, _, _, rfl, rfl, pw18, _, rfl, ?_⟩
    rw [e18]
    refine ite2 (fun hge => ?_) fun hlt => ?_
    · have hge := of_decide_eq_true hge
      refine ⟨_, rfl, _, _, rfl, rfl, pw18, _, _, rfl, rfl, _, _, rfl, rfl, pw60, _, _, rfl, rfl, pw60, .inr w1, _, _, rfl, rfl, pw60, .inr w2, _, _, rfl, rfl, pw60, .inr w3, _, _, rfl, rfl, nz60, ?_⟩
      have e : cellOf ns k = (c - 10 ^ (18 : Int).toNat).fmod ((10 : Int) ^ (60 : Int).toNat * (10 : Int) ^ (60 : Int).toNat * (10 : Int) ^ (60 : Int).toNat * (10 : Int) ^ (60 : Int).toNat) := by
        unfold cellOf
        rw [← hc, if_pos hge, e18]
        rfl
      rw [e] at h
      exact h
    · have hlt : ¬ 1000000000000000000 ≤ c := fun z => hlt (decide_eq_true z)
      refine ⟨24, rfl, by decide, by decide, for_range (lo := 0) (n := 24) (fun i σ H' => H' = H ∧ ∃ j, σ = [some (.ref a), some (.int k), some (.int c), some (.int (mixTo c k i)), j]) ⟨rfl, none, rfl⟩ ?_ ?_⟩
      · rintro i σ H' hi ⟨rfl, j, rfl⟩
        refine ⟨_, rfl, .inl (.inr ⟨by decide, by decide⟩), _, rfl, _, rfl, .inl (.inl ⟨by decide, by decide⟩), _, rfl, .inl (.inl ⟨by decide, by decide⟩), _, rfl, _, rfl, .inl (.inl ⟨by omega, by omega⟩), c, _, rfl, ?_⟩
        refine ⟨rfl, some (.int (0 + i)), ?_⟩
        have e : mixTo c k (i + 1) = mixTo c k i * 2147483579 + mixed c (7 * k + 100 * (0 + i) + (0 + i) * (0 + i)) := by
          rw [Int.zero_add]
          rfl
        rw [e]
        rfl
      · rintro σ H' ⟨rfl, j, rfl⟩
        refine ⟨_, rfl, ?_⟩
        have e : cellOf ns k = mixTo c k 24 := by
          unfold cellOf
          rw [← hc, if_neg hlt]
        rw [e] at h
        exact h
  refine ⟨_, rfl, _, rfl, _, _, rfl, .inl ⟨_, hs, rfl⟩, _, rfl, ?_⟩
  refine ite2 (fun hge => ?_) fun hlt => ?_
  · have hge := of_decide_eq_true hge
    rw [List.length_map] at hge
    have hk : k < ns.length := by omega
    refine ⟨_, rfl, _, rfl, .inl ⟨_, _, _, _, rfl, rfl, hs, at_of_list hk, ?_⟩⟩
    exact rest _ rfl
  · have hlt : ¬ (k : Int) < ((ns.map V.int).length : Int) := fun z => hlt (decide_eq_true z)
    rw [List.length_map] at hlt
    refine rest 0 ?_
    unfold cellAt
    rw [List.getD_eq_getElem?_getD, List.getElem?_eq_none (by omega)]
    rfl
/-- the pile, a list of one number -/
def t_take (K : PySem.W.Frag) : TS :=
  tSeq (tAsg (tOp rMd (tOp (rIx K) (tVar 0) (tC (.int 0))) (tVar 1)) (gName 2))
  (tSeq (tAsg (tOp rDv (tOp (rIx K) (tVar 0) (tC (.int 0))) (tVar 1)) (gSub (tVar 0) (tC (.int 0)) rSetL))
  (tRet (tVar 2)))
def spTake : Sp := fun vs H Q _ => ∃ (p : Addr) (c m : Int), vs = [.ref p, .int m] ∧ H p = some (.lst [.int c]) ∧ (0 < m ∧ m < 1073741824) ∧ Q (.int (c.fmod m)) (upd H p (.lst [.int (c.fdiv m)]))
theorem take_run {K : PySem.W.Frag} {p : Addr} {c m : Int} {H : Hp} {D : Ends} (hp : H p = some (.lst [.int c])) (hm : 0 < m ∧ m < 1073741824) (h : D.rt (.int (c.fmod m)) (upd H p (.lst [.int (c.fdiv m)]))) :
    t_take K D [some (.ref p), some (.int m), none] H := by
  refine ⟨_, rfl, .inl ⟨_, _, _, _, rfl, rfl, SqL.of hp, rfl, _, rfl, _, _, rfl, rfl, Int.ne_of_gt hm.1, ?_⟩⟩
  refine ⟨_, rfl, .inl ⟨_, _, _, _, rfl, rfl, SqL.of hp, rfl, _, rfl, _, _, rfl, rfl, ⟨Int.ne_of_gt hm.1, by omega⟩, ?_⟩⟩
  refine ⟨_, rfl, _, _, _, 0, rfl, rfl, hp, rfl, ?_⟩
  exact ⟨_, rfl, h⟩
end LK

set_option Elab.async false
set_option linter.all false
set_option maxRecDepth 100000
set_option maxHeartbeats 4000000
/-! an own error class with its own __init__, called with keywords: the same steps as without -/
namespace LKX
open PySem PySem.W PySem.Calls PyProof.Rows
section
variable {prog : Program} {w : World} {M : Model} {Ar : Around} {Ex : Value → Shared → Prop} {Rs : Result → Shared → Prop} {hp : Heap} {gs : Array GenState} {dr : Drawn} {tk : Nat} {o : OsState}
variable {nm qn : Str} {C N : Addr} {bs bm bmB : List Value} {hdct : Bool} {sn : List Str} {sub : List Value} {ab : Bool} {col : Option Bool} {dd : Option Addr} {k0 k1 k2 k3 k5 : Option Value} {B newId initId : String}
theorem check_newK (F : ExcBaseFacts B newId initId bmB) (hT : ∀ X : String, bm.contains (.type X) = bmB.contains (.type X)) {rest : List Value} {kw : List (Str × Value)} {Q : Unit → Shared → Prop}
    (hC : hp.get? C = some (excClassObj nm qn C N bs bm hdct sn sub ab col dd k0 k1 k2 k3 k5 newId)) (hq : Q () ⟨hp, gs, dr, tk, o⟩) : wpAny M Ar (checkBuiltinCall newId ⟨.ref C :: rest, kw⟩) Q Ex ⟨hp, gs, dr, tk, o⟩ := by
  have hc1 : (Value.ref C :: bm).contains (.type B) = true := by rw [List.contains_cons, hT B, F.hasB]; exact Bool.or_true _
  have hs := F.noStar
  simp only [checkBuiltinCall, F.newSplit, F.newKind, F.newRow]
  repeat (first | refine wpAny_madeBy_exc hC ?_ | refine wpAny_staticBase_exc hC ?_ | (refine wpAny_isSubtype_exc hC ?_; rw [hc1]) | refine wpAny_loadPart_at hC ?_ | simp only [Bool.false_eq_true, bne_self_eq_false, if_false] | wp_step)
  exact hq
theorem newK (F : ExcBaseFacts B newId initId bmB) (hT : ∀ X : String, bm.contains (.type X) = bmB.contains (.type X)) {rest : List Value} {kw : List (Str × Value)}
    (hC : hp.get? C = some (excClassObj nm qn C N bs bm hdct sn sub ab col dd k0 k1 k2 k3 k5 newId))
    (hq : Rs (.ok (.ret (.ref (hp.objs.size + 1)))) ⟨(hp.push { cls := .type "tuple", data := .seq rest.toArray }).push
      { cls := .ref C, data := .fields #[.ref hp.objs.size, .none, .none, .none, .bool false, .none] }, gs, dr, tk, o⟩) (hl : rest.length ≤ sizeLine) :
    codeAny (model prog w) Ar (.builtin newId ⟨.ref C :: rest, kw⟩) Rs ⟨hp, gs, dr, tk, o⟩ := by
  have he := F.ends
  have hc1 : (Value.ref C :: bm).contains (.type B) = true := by rw [List.contains_cons, hT B, F.hasB]; exact Bool.or_true _
  have hc2 : (Value.ref C :: bm).contains (.type "AttributeError") = false := by rw [List.contains_cons, hT "AttributeError", F.noAttr] <;> rfl
  have hc3 : (Value.ref C :: bm).contains (.type "NameError") = false := by rw [List.contains_cons, hT "NameError", F.noName] <;> rfl
  refine codeAny_builtinAt F.entry ?_
  unfold Builtin.«BaseException.__new__»
  refine PySem.wpAt_bind ?_
  show PySem.wpAt _ _ _ (stack >>= _) _ _ _
  refine PySem.wpAt_bind (PySem.wpAt_stack fun p below => PySem.wpAt_of_wpAny ?_)
  wp_walk
  refine PySem.wpAt_of_wpAny ?_
  rw [F.owner]
  repeat (first | with_reducible refine wpAny_loadPart_at hC ?_ | with_reducible refine wpAny_madeHere_exc F.canon hC ?_ | (with_reducible refine wpAny_isSubtype_exc hC ?_; first | rw [hc1] | rw [hc2] | rw [hc3]) | wp_step)
  show Rs _ _
  rw [Heap.size_push]
  exact hq
theorem type_callK (F : ExcBaseFacts B newId initId bmB) (hT : ∀ X : String, bm.contains (.type X) = bmB.contains (.type X)) {rest : List Value} {kw : List (Str × Value)} {fI : Addr} {Q : Fin → Shared → Prop}
    (hC : hp.get? C = some (excClassObj nm qn C N bs bm hdct sn sub ab col dd k0 k1 k2 k3 k5 newId))
    (hi : W.Looks (model prog w) hp (typeLookup (.ref C) "__init__") (some (.ref fI))) (hb : ∀ self, W.Looks (model prog w) hp (bindSpecial (.ref fI) self) (.ref fI, [self])) (hl : rest.length ≤ sizeLine)
    (hq : codeAny (model prog w) Ar (.call (.ref fI) ⟨.ref (hp.objs.size + 1) :: rest, kw⟩)
      (fun r s' => match r with | .ok (.ret v) => v = .none ∧ Q (.done (.ret (.ref (hp.objs.size + 1)))) s' | .ok _ => False | .error e => Ex e s')
      ⟨(hp.push (W.kdv_tup rest)).push (HandSPX.excO C hp.objs.size), gs, dr, tk, o⟩) :
    wpAny (model prog w) Ar (Builtin.«type.__call__» ⟨.ref C :: rest, kw⟩) Q Ex ⟨hp, gs, dr, tk, o⟩ := by
  repeat (first | with_reducible refine wpAny_madeBy_exc hC ?_ | with_reducible refine wpAny_loadPart_at hC ?_ | wp_step)
  refine codeAny_call_builtin_code (Code.quiet_builtin _ F.quiet) (check_newK F hT hC ?_)
  refine newK F hT hC ?_ hl
  show wpAny _ _ _ _ _ _
  have kp : ∀ b u, hp.get? b = some u → ((hp.push (W.kdv_tup rest)).push (HandSPX.excO C hp.objs.size)).get? b = some u := fun b u e => Heap.get?_push_of_some _ (Heap.get?_push_of_some _ e)
  have hC2 := kp _ _ hC
  have hx : ((hp.push (W.kdv_tup rest)).push (HandSPX.excO C hp.objs.size)).get? (hp.objs.size + 1) = some (HandSPX.excO C hp.objs.size) := by heap_get
  have hcC : (Value.ref C :: bm).contains (.ref C) = true := by simp
  have i2 := hi.keeps kp
  have b2 := (hb (.ref (hp.objs.size + 1))).keeps kp
  unfold isInstance
  repeat (first | with_reducible refine wpAny_loadPart_at hx ?_ | (with_reducible refine wpAny_isSubtype_exc hC2 ?_; rw [hcC]) | wp_step)
  show wpAny _ _ (typeLookup (.ref C) _) _ _ _
  refine i2.at ?_
  refine wpAny_holding (wpAny_bind (b2.at ?_))
  refine wpAny_bind (wpAny_call (codeAny_mono hq fun r s' z => ?_))
  rcases r with e | (v | _ | _ | _) <;> first | exact z | exact z.elim | skip
  obtain ⟨rfl, z⟩ := z
  first
    | exact wpAny_pure (wpAny_pure z)
    | (wp_walk; exact z)
theorem check_callK {rest : List Value} {kw : List (Str × Value)} {Q : Unit → Shared → Prop} (hC : hp.get? C = some (excClassObj nm qn C N bs bm hdct sn sub ab col dd k0 k1 k2 k3 k5 newId))
    (hq : Q () ⟨hp, gs, dr, tk, o⟩) : wpAny M Ar (checkBuiltinCall "type.__call__" ⟨.ref C :: rest, kw⟩) Q Ex ⟨hp, gs, dr, tk, o⟩ := by
  have f1 := tc_sub
  have hTy : (⟨hp, gs, dr, tk, o⟩ : Shared).TypeIs (.ref C) "type" := ⟨_, hC, rfl⟩
  simp only [checkBuiltinCall, tc_split, tc_kind]
  repeat (any_goals (first | assumption | with_reducible refine wpAny_onRaise ?_ | with_reducible refine wpAny_loadPart_at hC ?_ | with_reducible refine wpAny_map ?_ | wp_step))
theorem callK (F : ExcBaseFacts B newId initId bmB) (hT : ∀ X : String, bm.contains (.type X) = bmB.contains (.type X)) {rest : List Value} {kw : List (Str × Value)} {fI : Addr}
    (hC : hp.get? C = some (excClassObj nm qn C N bs bm hdct sn sub ab col dd k0 k1 k2 k3 k5 newId))
    (hi : W.Looks (model prog w) hp (typeLookup (.ref C) "__init__") (some (.ref fI))) (hb : ∀ self, W.Looks (model prog w) hp (bindSpecial (.ref fI) self) (.ref fI, [self])) (hl : rest.length ≤ sizeLine)
    (hq : codeAny (model prog w) (Ar.under (.builtin "type.__call__" ⟨.ref C :: rest, kw⟩)) (.call (.ref fI) ⟨.ref (hp.objs.size + 1) :: rest, kw⟩) (W.InitBack (hp.objs.size + 1) Rs)
      ⟨(hp.push (W.kdv_tup rest)).push (HandSPX.excO C hp.objs.size), gs, dr, tk, o⟩) :
    codeAny (model prog w) Ar (.call (.ref C) ⟨rest, kw⟩) Rs ⟨hp, gs, dr, tk, o⟩ := by
  have f1 := tc_lookup
  have f2 := tc_bind (.ref C)
  have hTy : (⟨hp, gs, dr, tk, o⟩ : Shared).TypeIs (.ref C) "type" := ⟨_, hC, rfl⟩
  refine codeAny_of_tree ?_
  show wpAny _ _ (callAny (.ref C) _) _ _ _
  repeat (any_goals (first | assumption | with_reducible refine wpAny_loadPart_at hC ?_ | wp_step))
  refine ⟨rfl, ?_⟩
  refine codeAny_call_builtin_at (Code.quiet_builtin _ (by decide +kernel)) entry_typeCall (check_callK hC (type_callK F hT hC hi hb hl ?_))
  refine codeAny_mono hq fun r s' z => ?_
  rcases r with e | (v | _ | _ | _) <;> exact z
end
end LKX

set_option Elab.async false
set_option linter.all false
set_option maxRecDepth 100000
set_option maxHeartbeats 4000000
/-! errors of own classes, held as values: made, their fields, isinstance -/
namespace LK
open PySem PySem.Spec PyProof.Rows L2
/-- at a: an error of the class cls, its dict at d; fr: no frame has noted it yet -/
def exK (a : Addr) (cls : Value) (d : Option Addr) (fr : Bool) : HO := .ext fun h => ∃ (oe : Obj) (vs : Array Value), h.get? a = some oe ∧ oe.cls = cls ∧ oe.dict = d ∧ oe.data = .fields vs ∧ (fr = true → vs[1]? = some .none)
section
variable {P : Program} {w : World} {H : Hp} {h : Heap} {a : Addr} {cls : Value} {d : Option Addr} {fr : Bool}
theorem exK_ok {oe : Obj} {vs : Array Value} (e : h.get? a = some oe) (c : oe.cls = cls) (k : oe.dict = d) (f : oe.data = .fields vs) (g : fr = true → vs[1]? = some .none) : ObjOk P w H h a (exK a cls d fr) :=
  ⟨⟨oe, vs, e, c, k, f, g⟩, ⟨oe, e⟩, fun _ _ z k => let ⟨o, v, q, r⟩ := z; ⟨o, v, k o q, r⟩⟩
theorem exK_at (hok : HOk P w H h) (e : H a = some (exK a cls d fr)) : ∃ (oe : Obj) (vs : Array Value), h.get? a = some oe ∧ oe.cls = cls ∧ oe.dict = d ∧ oe.data = .fields vs ∧ (fr = true → vs[1]? = some .none) := (show ObjOk P w H h a (.ext _) from hok a _ e).1
end
/-- its dict stands, or it has none -/
def DictAt (H : Hp) (d : Option Addr) : Prop := d = none ∨ ∃ (x : Addr) (fs : List (Str × V)), d = some x ∧ H x = some (.xd fs)
theorem DictAt.same {H H' : Hp} {d : Option Addr} (k : DictAt H d) (e : Same H H') : DictAt H' d := by
  rcases k with k | ⟨x, fs, k, q⟩
  · exact .inl k
  · exact .inr ⟨x, fs, k, e _ _ q⟩
/-! ### calls with positional and keyword values -/
def CallKR (X : Cx) (f : Value) (ks : List Str) (r : List V → List V → Hp → VK → Prop) : Prop :=
  ∀ (pins : List (Addr × Obj)) (s : Shared) (σ : L2.St) (H : Hp) (xs : List V) (us : List Value) (zs : List V) (ws : List Value) (Q : VK), Inv X pins σ H s → Vals xs us → Vals zs ws → r xs zs H Q →
    wpAny (model X.prog X.w) X.A (call f us (ks.zip ws)) (EP X pins σ Q) X.xe s
def tGK (r : List V → List V → Hp → VK → Prop) (ta tk : TA) : TE := fun σ H Q => ta σ H fun xs H1 => tk σ H1 fun zs H2 => r xs zs H2 Q
section
variable {X : Cx} {ks : List Str} {f : Value} {x : Str} {p pos : Pos} {e : Expr} {es : List Expr} {kws : List Keyword} {t tk : TA} {r : List V → List V → Hp → VK → Prop}
theorem pe_gk (c : CallKR X f ks r) (hg : Gl X x) (hm : X.mg x = some f) (hk : PySem.W.keepIn X.K f = true) (ha : PA X (e :: es) t) (hkw : PK X kws tk)
    (hall : (backToKw pos (keywordEach kws X.env)).all (·.1.isSome) = true := by rfl) (hks : (backToKw pos (keywordEach kws X.env)).filterMap (·.1) = ks := by rfl) (hdb : (x == ("__debug__" : Str)) = false := by decide)
    (he : starEach (e :: es) X.env = (false, eval e X.env) :: starEach es X.env := by rfl) (hpl : ((backTo pos (starEach (e :: es) X.env)).any (·.1) || (backToKw pos (keywordEach kws X.env)).any (·.1.isNone)) = false := by rfl) :
    PE X (.Call (.Name x p) (e :: es) kws pos) (tGK r t tk) := by
  refine ⟨fun pins s σ H Q I h => wpAny_Call_Name_kw (ld_glob I hg hm ?_ hdb)⟩
  refine PySem.W.callWith_KW (h₀ := X.base) I.ok.mod.kin hk hall (thn (ha.run pos pins s σ H _ I h) fun us s1 hz => ?_) hpl he
  obtain ⟨vs, H1, I1, r1, q⟩ := hz
  refine thn (hkw.run pos pins s1 σ H1 _ I1 q) fun ws s2 hz => ?_
  obtain ⟨zs, H2, I2, rz, q2⟩ := hz
  refine ⟨I2.kIn, ?_⟩
  rw [hks]
  exact c pins s2 σ H2 vs us zs ws Q I2 r1 rz q2
theorem pe_gk0 (c : CallKR X f ks r) (hg : Gl X x) (hm : X.mg x = some f) (hk : PySem.W.keepIn X.K f = true) (hkw : PK X kws tk)
    (hall : (backToKw pos (keywordEach kws X.env)).all (·.1.isSome) = true := by rfl) (hks : (backToKw pos (keywordEach kws X.env)).filterMap (·.1) = ks := by rfl) (hdb : (x == ("__debug__" : Str)) = false := by decide)
    (hpl : ((backTo pos (starEach [] X.env)).any (·.1) || (backToKw pos (keywordEach kws X.env)).any (·.1.isNone)) = false := by rfl) :
    PE X (.Call (.Name x p) [] kws pos) (tGK r tNil tk) := by
  refine ⟨fun pins s σ H Q I h => wpAny_Call_Name_kw (ld_glob I hg hm ?_ hdb)⟩
  refine PySem.W.callWith_KW0 (h₀ := X.base) I.ok.mod.kin hk hall (thn (hkw.run pos pins s σ H _ I h) fun ws s2 hz => ?_) hpl
  obtain ⟨zs, H2, I2, rz, q2⟩ := hz
  refine ⟨I2.kIn, ?_⟩
  rw [hks]
  exact c pins s2 σ H2 [] [] zs ws Q I2 .nil rz q2
end
/-! ### C(..): no own __init__ -/
structure rMkN (C : Addr) (xs zs : List V) (H : Hp) (Q : VK) : Prop where
  out : zs = [] ∧ xs.length ≤ 1000 ∧ ∀ a, H a = none → Q (.ref a) (upd H a (exK a (.ref C) none true))
theorem ck_mkN {X : Cx} {C : Addr} {bmB : List Value} {B newId initId : String} (F : ExcBaseFacts B newId initId bmB) (q : PySem.W.excIn X.K C bmB newId = true) : CallKR X (.ref C) [] (rMkN C) := by
  intro pins s σ H xs us zs ws Q I r rz h
  obtain ⟨rfl, hl, q1⟩ := h.out
  obtain ⟨bm, N, nm, qn, bs, hdct, sn, sub, ab, col, dd, k0, k1, k2, k3, k5, mN, hC, hN, hni, T⟩ := exc_obj I.kIn q
  show wpAny _ _ (call (.ref C) us) _ _ _
  have hus : us.length ≤ sizeLine := by
    rw [← Paired.length r, sizeLine_eq]
    omega
  refine wpAny_call_exc_subT F T hC hN hni (fun h' a hm => ?_) hus
  have hn : H a = none := I.hok.gone hm.new
  obtain ⟨t, ht, _, _⟩ := hm.there
  exact ⟨.ref a, _, I.laidN hm.keeps hm.new hn (exK_ok ht rfl rfl rfl fun _ => rfl), rfl, q1 a hn⟩
/-! ### C(..): C's own __init__ keeps sp -/
section
variable {X : Cx} {CX : CXT} {C fI : Addr} {k n : Nat} {fd : FuncData} {ps ks : List Str} {sp : Sp} {g : List Value → List Value → List Value} {gV : List V → List V → List V}
/-- up to the end of __init__ -/
theorem mk_core {pins : List (Addr × Obj)} {σ : L2.St} {H1 : Hp} {s1 : Shared} {vs zs : List V} {us ws : List Value} {Qi : Addr → VK} {Post : Value → Shared → Prop} (T : OexC X.K C) (iC : PySem.W.findIn X.K (.ref C) "__init__" = some (some (.ref fI))) (tI : PySem.W.typeIn X.K (.ref fI) = some (.type "function"))
    (F1 : FnOk X.prog X.w X.K X.mg X.base CX k fI fd ps sp) (hr : Room (k + 1) X.A) (hb : KBn X.K fd ps (n + 1) ks g gV) (hx : Passes CX X (fun _ _ _ => False)) (I1 : Inv X pins σ H1 s1) (r1 : Vals vs us) (rz : Vals zs ws) (hn : vs.length = n) (hz : zs.length = ks.length) (hl : n ≤ 1000)
    (hq : ∀ a, H1 a = none → sp (gV (.ref a :: vs) zs) (upd H1 a (exo a C none)) (Qi a) fun _ _ _ => False)
    (fin : ∀ s2 u, s2.os = s1.os → (∀ b o, s1.heap.get? b = some o → s2.heap.get? b = some o) → Inv X pins σ (upd H1 (s1.heap.objs.size + 1) (exo (s1.heap.objs.size + 1) C none)) s2 →
      ∀ s', CE X.stack X.prog X.w (upd H1 (s1.heap.objs.size + 1) (exo (s1.heap.objs.size + 1) C none)) s2 (Qi (s1.heap.objs.size + 1)) u s' → u = .none ∧ Post (.ref (s1.heap.objs.size + 1)) s') :
    wpAny (model X.prog X.w) X.A (call (.ref C) us (ks.zip ws)) Post X.xe s1 := by
  obtain ⟨nm, q, N, bs, bm, sn, sub, ab, col, dd, k0, k1, k2, k3, k5, hC, hbm⟩ := T.cls
  obtain ⟨hp, gs, dr, tk, os⟩ := s1
  have hsz : hp.objs.size ≤ hp.objs.size + 1 := Nat.le_succ _
  have hnn : H1 (hp.objs.size + 1) = none := I1.hok.fresh hsz
  have hq' := hq (hp.objs.size + 1) hnn
  have kk : ∀ b o, hp.get? b = some o → ((hp.push (PySem.W.kdv_tup us)).push (PySem.HandSPX.excO C hp.objs.size)).get? b = some o := fun b o e => Heap.get?_push_of_some _ (Heap.get?_push_of_some _ e)
  have hget : ((hp.push (PySem.W.kdv_tup us)).push (PySem.HandSPX.excO C hp.objs.size)).get? (hp.objs.size + 1) = some (PySem.HandSPX.excO C hp.objs.size) := by heap_get
  have I2 : Inv X pins σ (upd H1 (hp.objs.size + 1) (exo (hp.objs.size + 1) C none)) ⟨(hp.push (PySem.W.kdv_tup us)).push (PySem.HandSPX.excO C hp.objs.size), gs, dr, tk, os⟩ :=
    I1.laid (t' := tk) (a := hp.objs.size + 1) (o := exo (hp.objs.size + 1) C none) (h' := (hp.push (PySem.W.kdv_tup us)).push (PySem.HandSPX.excO C hp.objs.size)) kk hsz (exo_ok hget)
  have r0 : Vals (V.ref (hp.objs.size + 1) :: vs) (Value.ref (hp.objs.size + 1) :: us) := .cons rfl r1
  have r2 := hb.rel r0 rz
  have hus : us.length ≤ sizeLine := by
    rw [← Paired.length r1, sizeLine_eq]
    omega
  have l1 : (Value.ref (hp.objs.size + 1) :: us).length = n + 1 := by rw [← Paired.length r0, List.length_cons, hn]
  have l2 : ws.length = ks.length := by rw [← Paired.length rz, hz]
  refine wpAny_call (LKX.callK PySem.F.excBase_ValueError (fun Y => PySem.HandSPX.refsVE_contains Y bm hbm) (I1.kIn _ _ hC) (PySem.W.looks_findIn I1.kIn iC) (fun self => PySem.W.bind_fn I1.kIn self tI) hus
    (codeAny_mono (F1.run _ X.stack _ _ ⟨Value.ref (hp.objs.size + 1) :: us, ks.zip ws⟩ _ _ _ (fun _ _ _ => False) (hr.make C us _) (I2.env0.make C us _) (hb.to _ (Value.ref (hp.objs.size + 1) :: us) ws I2.kIn l1 l2) r2 hq') fun r s' hq2 => ?_))
  cases r with
  | error er => exact hx pins σ _ _ er s' I2 hq2
  | ok fl =>
    cases fl with
    | ret u => exact fin ⟨(hp.push (PySem.W.kdv_tup us)).push (PySem.HandSPX.excO C hp.objs.size), gs, dr, tk, os⟩ u rfl kk I2 s' hq2
    | next => exact False.elim hq2
    | brk => exact False.elim hq2
    | cont => exact False.elim hq2
/-- the same sight: e tracked, of another description -/
theorem retag {pins : List (Addr × Obj)} {σ : L2.St} {H : Hp} {s : Shared} {a : Addr} {φ : Heap → Prop} {o : HO} (I : Inv X pins σ H s) (e : H a = some (.ext φ)) (ok : ObjOk X.prog X.w (upd H a o) s.heap a o) : Inv X pins σ (upd H a o) s := by
  obtain ⟨hp, gs, dr, tk, os⟩ := s
  exact I.write (t' := tk) (x := a) (e := a) (o := o) (by rw [e]; exact True.intro) (.inl rfl) (fun _ _ _ q => q) (objOk_get ok) ok
structure rMkO (C : Addr) (n : Nat) (ks : List Str) (sp : Sp) (gV : List V → List V → List V) (xs zs : List V) (H : Hp) (Q : VK) : Prop where
  out : xs.length = n ∧ zs.length = ks.length ∧ ∀ a, H a = none → sp (gV (.ref a :: xs) zs) (upd H a (exo a C none))
    (fun v H2 => v = .non ∧ ∃ (d : Addr) (fs : List (Str × V)), H2 a = some (exo a C (some d)) ∧ H2 d = some (exd d fs) ∧ Q (.ref a) (upd (upd H2 d (.xd fs)) a (exK a (.ref C) (some d) true))) (fun _ _ _ => False)
theorem ck_mkO (T : OexC X.K C) (iC : PySem.W.findIn X.K (.ref C) "__init__" = some (some (.ref fI))) (tI : PySem.W.typeIn X.K (.ref fI) = some (.type "function"))
    (F1 : FnOk X.prog X.w X.K X.mg X.base CX k fI fd ps sp) (hr : Room (k + 1) X.A) (hb : KBn X.K fd ps (n + 1) ks g gV) (hx : Passes CX X (fun _ _ _ => False)) (hl : n ≤ 1000 := by decide) : CallKR X (.ref C) ks (rMkO C n ks sp gV) := by
  intro pins s σ H xs us zs ws Q I r rz h
  obtain ⟨hn, hz, hq⟩ := h.out
  refine mk_core T iC tI F1 hr hb hx I r rz hn hz hl hq fun s2 u _ _ I2 s' hc => ?_
  obtain ⟨v, H2, J, rv, ev, d, fs, ea, ed, q⟩ := I2.after hc
  subst ev
  refine ⟨rv, ?_⟩
  obtain ⟨t0, hoe⟩ := exo_at J.hok ea
  obtain ⟨mA, hns, rel⟩ := exd_at J.hok ed
  have nda : s.heap.objs.size + 1 ≠ d := fun z => by
    obtain ⟨o, es, ep, e1, e2, _⟩ := hns
    rw [← z, hoe] at e1
    have z2 := Option.some.inj e1
    subst z2
    cases e2
  have J2 : Inv X pins σ (upd H2 d (.xd fs)) s' := retag J (show H2 d = some (HO.ext _) from ed) (show ObjOk X.prog X.w (upd H2 d (.xd fs)) s'.heap d (.xd fs) from ⟨mA, hns, rel⟩)
  have ea2 : upd H2 d (.xd fs) (s.heap.objs.size + 1) = some (exo (s.heap.objs.size + 1) C (some d)) := by rw [upd_ne nda]; exact ea
  exact ⟨.ref (s.heap.objs.size + 1), _, retag J2 (show _ = some (HO.ext _) from ea2) (exK_ok hoe rfl rfl rfl fun _ => rfl), rfl, q⟩
end
/-! ### D.__init__(self, ..) of an own class D that has none of its own -/
structure InitC (K : PySem.W.Frag) (D : Addr) : Prop where
  rd : PySem.W.readsIn K D (.type "type") = true
  ga : PySem.W.specialIn K (.ref D) "__getattribute__" = some (some (.builtin "type.__getattribute__"))
  fc : PySem.W.findCls K (.ref D) (.type "type") "__init__" = some (.val (.builtin "ValueError.__init__"))
theorem pe_cinit {X : Cx} {D : Addr} {x : Str} {e : Expr} {es : List Expr} {ta : TA} {p1 p2 pos : Pos} {pl : Sem Bool} (T : InitC X.K D) (hg : Gl X x) (hm : X.mg x = some (.ref D)) (ha : PA X (e :: es) ta) (hdb : (x == ("__debug__" : Str)) = false := by decide)
    (hc : eval (.Call (.Attribute (.Name x p1) "__init__" p2) (e :: es) [] pos) X.env = (do
      let ov ← eval (.Name x p1) X.env
      standAt p2.atName
      let (f, first) ← holding [ov] (getMethod ov "__init__" pl)
      callWith pos f first (backTo pos (starEach (e :: es) X.env)) (backToKw pos (keywordEach [] X.env))) := by rfl)
    (he : starEach (e :: es) X.env = (false, eval e X.env) :: starEach es X.env := by rfl) (hpl : (backTo pos (starEach es X.env)).any (·.1) = false := by rfl) :
    PE X (.Call (.Attribute (.Name x p1) "__init__" p2) (e :: es) [] pos) (tVeI X.K ta) := by
  refine ⟨fun pins s σ H Q I h => PySem.W.methodCall_KW (ld_glob I hg hm ?_ hdb) hc⟩
  refine PySem.W.method_cls I.kIn T.ga (PySem.W.cls_value I.kIn T.rd T.fc (by decide +kernel) ?_)
  show wpAny _ _ (callWith pos (Value.builtin "ValueError.__init__") [] (backTo pos (starEach (e :: es) X.env)) []) _ _ _
  refine PyProof.Rows.callWith_method1 (thn (ha.run pos pins _ σ H _ (I.tok _) h) fun us s1 hz => ?_) he hpl
  obtain ⟨vs, H1, I1, r1, a, C, ws, ev, hl, T1, ea, q⟩ := hz
  subst ev
  cases r1 with
  | @cons _ u0 _ ur ra rw' =>
    obtain rfl : u0 = Value.ref a := ra
    have hlen : ur.length ≤ sizeLine := by
      rw [← Paired.length rw', sizeLine_eq]
      omega
    exact oinit_ok T1 I1 ea hlen fun s' J => ⟨.non, H1, J, rfl, q⟩
/-! ### e.f -/
structure rXfK (K : PySem.W.Frag) (f : Str) (x : V) (H1 : Hp) (Q : VK) : Prop where
  out : ∃ (a C dd : Addr) (fr : Bool) (fs : List (Str × V)) (v : V), x = .ref a ∧ XfC K C ∧ PySem.W.findIn K (.ref C) f = some none ∧ H1 a = some (exK a (.ref C) (some dd) fr) ∧ H1 dd = some (.xd fs) ∧ fs.lookup f = some v ∧ Q v H1
def tXfK (K : PySem.W.Frag) (f : Str) (te : TE) : TE := fun σ H Q => te σ H fun x H1 => rXfK K f x H1 Q
theorem pe_xfK {X : Cx} {K : PySem.W.Frag} {e : Expr} {te : TE} {pos : Pos} {n : Str} (he : PE X e te) (hb : attributeBase e n X.env (eval e X.env) = eval e X.env := by rfl) (hK : X.K = K := by rfl) : PE X (.Attribute e n pos) (tXfK K n te) := by
  subst hK
  refine ⟨fun pins s σ H Q I h => attr_of hb (thn (he.run pins s σ H _ I h) fun u s1 hh => ?_)⟩
  obtain ⟨x, H1, I1, rx, hh⟩ := hh
  obtain ⟨a, C, dd, fr, fs, v, ex, T, hno, ea, ed, l, q⟩ := hh.out
  subst ex
  obtain rfl : u = Value.ref a := rx
  obtain ⟨oe, vs, ha, hcls, hdi, hfi, _⟩ := exK_at I1.hok ea
  have hx : ObjOk X.prog X.w H1 s1.heap dd (.xd fs) := I1.hok dd _ ed
  obtain ⟨mA, hns, hr⟩ := hx
  obtain ⟨od, ho, hl⟩ := lookIn_ns hns
  obtain ⟨u, hu, ru⟩ := RelO.some_of (v := v) (o := mA n) (by rw [← l]; exact hr n)
  have J : PySem.W.InstAt s1.heap a oe C (some od) := ⟨ha, hcls, by unfold PySem.W.notCls; rw [hfi] <;> rfl, by rw [hdi]; exact ho⟩
  exact HandSPX.exc_get I1.kIn J T.ga T.gg T.exC (PySem.W.findObj_own T.hdC hno rfl (by rw [hl, hu])) (handed_of ru) ⟨v, H1, I1.tok _, ru, q⟩
/-! ### isinstance of an error -/
end LK
namespace LKX
open PySem PySem.W PySem.Spec PySem.Calls PyProof.Rows
section
variable {prog : Program} {w : World} {Ar : Around} {Ex : Value → Shared → Prop} {s : Shared} {K : Frag} {x D : Addr} {ox : Obj} {od : Option Obj}
/-- e.__class__, whether e has a dict or none -/
theorem class_exc {Q : Option Value → Shared → Prop} (C : L2.ExcC K D) (X : K.In s.heap) (I : InstAt s.heap x ox D od) (h : Q (some (.ref D)) { s with toks := s.toks + 1 }) : wpAny (model prog w) Ar (getAttr? (.ref x) "__class__") Q Ex s := by
  have hsome : (clsIn K D).isSome = true := by
    obtain ⟨cd, e, _⟩ := any_some C.hd
    rw [e] <;> rfl
  have hf : findObj K D od "__class__" = some (.bind (.builtin "getset_descriptor.__get__") (.builtin "object.__class__")) := by
    cases od with
    | none => exact findObj_dataN hsome C.ha C.hn C.ht
    | some o => exact findObj_data hsome C.ha C.hn C.ht
  obtain ⟨hp, gs, dr, tk, o⟩ := s
  have L0 := I.type (M := model prog w)
  have LG := looks_findIn (M := model prog w) X C.hg
  have LA := looks_findIn (M := model prog w) X C.hk
  have LF := looks_find (M := model prog w) X I hf
  have isB : Looks (model prog w) hp (isInstance (.ref x) (.type "BaseException")) true := L0.andThen (looks_subIn X C.hs)
  have n1 : (Value.builtin "BaseException.__getattribute__" == Value.builtin "object.__getattribute__") = false := by decide +kernel
  have n2 : (onTheHeap (Value.ref D) && Value.builtin "BaseException.__getattribute__" == Value.builtin "object.__getattribute__") = false := by rw [n1] <;> rfl
  have n3 : (false && onTheHeap (Value.builtin "BaseException.__getattribute__")) = false := rfl
  unfold getAttr? getAttrBy? getAttrBy
  refine wpAny_bind (wpAny_mkText (wpAny_bind (wpAny_attempt (wpAny_holding (wpAny_bind (L0.at (wpAny_bind (LG.at ?_))))))))
  show wpAny _ _ (if (onTheHeap (Value.ref D) && Value.builtin "BaseException.__getattribute__" == Value.builtin "object.__getattribute__") = true then _ else _) _ _ _
  rw [n2, if_neg Bool.false_ne_true]
  unfold getAttrByItsOwn hookBefore
  refine wpAny_bind ?_
  rw [if_pos (show onTheHeap (Value.ref D) = true from rfl)]
  refine LA.at (wpAny_bind (wpAny_attempt (wpAny_holding ?_)))
  unfold callGetattribute
  rw [n3, if_neg Bool.false_ne_true]
  unfold boundAndCalled
  rw [PySem.F.excAttr_ValueError.ga.bind (.ref x)]
  refine wpAny_bind (wpAny_pure ?_)
  show wpAny _ _ (call (.builtin "BaseException.__getattribute__") [.ref x, .str "__class__" tk]) _ _ _
  refine wpAny_call (codeAny_call_builtin PySem.F.excAttr_ValueError.ga.plain PySem.F.entry_bexc_ga ?_)
  refine @check_slot (model prog w) _ _ ⟨hp, gs, dr, tk + 1, o⟩ "BaseException.__getattribute__" "BaseException" "__getattribute__" (.ref x) [.str "__class__" tk] [] _ (by decide +kernel) (by decide +kernel) isB (PySem.F.args_bexc_ga (.ref x) (.str "__class__" tk)) ?_
  unfold Builtin.«object.__getattribute__»
  refine wpAny_bind (wpAny_of_eq (a := ((Value.ref x : Value), [Value.str "__class__" tk])) (by first | rfl | (simp only [slotArgs]; rfl)) ?_)
  refine wpAny_bind (wpAny_pure (wpAny_bind (L0.at (wpAny_bind (LF.at ?_)))))
  show wpAny _ _ (holding [Value.builtin "object.__class__"] (call (.builtin "getset_descriptor.__get__") [.builtin "object.__class__", .ref x, .ref D]) >>= ret) _ _ _
  refine wpAny_bind (wpAny_holding (wpAny_call (class_get (s := ⟨hp, gs, dr, tk + 1, o⟩) (ox := ox) (od := od) X I C.hm ?_)))
  refine wpAny_pure ?_
  show wpAny _ _ (handedOut (.ref D)) _ _ _
  rw [handedOut_of (v := .ref D) rfl]
  first
    | exact wpAny_pure (wpAny_pure h)
    | exact wpAny_pure h
    | exact wpAny_pure (wpAny_bind (wpAny_pure (wpAny_pure h)))
theorem kitx_exc (C : L2.ExcC K D) : KitX K (.ref x) (.ref D) (fun h => InstAt h x ox D od) where
  ty := fun _ _ _ I => I.type
  it := fun _ _ X _ => by
    obtain ⟨cdD, hcD, _⟩ := any_some C.hd
    unfold clsIn at hcD
    split at hcD
    · rename_i _ _ _ _ ho
      intro _ _ _ _ k q
      unfold isType loadHead
      exact wpAny_bind (wpAny_loadPart (k _ _ (X _ _ ho)) (wpAny_pure q))
    · cases hcD
  ne := fun h tp dd its n sl X htp => by
    obtain ⟨cdD, hcD, _⟩ := any_some C.hd
    refine Bool.eq_false_iff.mpr fun q => ?_
    have e : D = tp := Value.ref.inj (beq_iff_eq.mp q)
    subst e
    unfold clsIn at hcD
    split at hcD
    · rename_i _ _ _ _ ho
      have z := (X _ _ ho).symm.trans htp
      cases z
    · cases hcD
  ca := fun X I k => class_exc C X I k
end
end LKX
namespace LK
open PySem PySem.Spec PyProof.Rows L2
/-- isinstance(x, c), x an error or another thing -/
def rIsx (K : PySem.W.Frag) : List V → Hp → VK → Prop := fun xs H Q => rIsi K xs H Q ∨ ∃ (a D : Addr) (c : V) (cv : Value) (d : Option Addr) (fr b : Bool), xs = [.ref a, c] ∧ ExcC K D ∧ H a = some (exK a (.ref D) d fr) ∧ DictAt H d ∧ ClsV c cv ∧ PySem.W.kitOne K (.ref D) cv = some b ∧ Q (.bl b) H
theorem cIsx {X : Cx} {K : PySem.W.Frag} (hK : X.K = K := by rfl) : CallR X (.builtin "isinstance") (rIsx K) := by
  subst hK
  intro pins s σ H xs us Q I r h
  rcases h with h | ⟨a, D, c, cv, d, fr, b, rfl, T, ea, kd, k, e, q⟩
  · exact call_isi pins s σ H xs us Q I r h
  obtain ⟨u1, u2, rfl, r1, r2⟩ := vals2 r
  obtain rfl : u1 = Value.ref a := r1
  have e2 := k.eq r2
  subst e2
  obtain ⟨oe, vs, ha, hcls, hdi, hfi, _⟩ := exK_at I.hok ea
  obtain ⟨od, J⟩ : ∃ od, PySem.W.InstAt s.heap a oe D od := by
    rcases kd with kd | ⟨x, fs, kd, ex⟩
    · exact ⟨none, ha, hcls, by unfold PySem.W.notCls; rw [hfi] <;> rfl, by rw [hdi, kd]; exact True.intro⟩
    · have hx : ObjOk X.prog X.w H s.heap x (.xd fs) := I.hok x _ ex
      obtain ⟨mA, hns, hr⟩ := hx
      obtain ⟨od, ho, _⟩ := lookIn_ns hns
      exact ⟨some od, ha, hcls, by unfold PySem.W.notCls; rw [hfi] <;> rfl, by rw [hdi, kd]; exact ho⟩
  exact PySem.W.kia_one (LKX.kitx_exc T) I.kIn J e (fun z => nomatch z) fun tk => ⟨.bl b, H, I.tok tk, rfl, q⟩
end LK

set_option Elab.async false
set_option linter.all false
set_option maxRecDepth 100000
set_option maxHeartbeats 4000000
/-! the head's facts: a test of mine beside the defs -/
namespace LK
open PySem PySem.Spec PyProof.Rows L2 He
def obsM (ck : PySem.W.Frag → Bool) (fn : List DefD) (K : PySem.W.Frag) : AlD := (ck K && fn.all fun d => d.ok K, fn.map fun d => fnW K d.at_)
def SaysM (ck : PySem.W.Frag → Bool) (fn : List DefD) (K : PySem.W.Frag) : Prop := obsM ck fn K = valD fn
def obsMG (n : Nat) (ck : PySem.W.Frag → Bool) (fn : List DefD) (g : Addr → Option Obj) : AlD := obsM ck fn (frG g (asD g n))
def hookM (n : Nat) (ck : PySem.W.Frag → Bool) (fn : List DefD) : PySem.W.Hook where
  α := AlD
  obs := fun s => obsMG n ck fn s.heap.get?
  val := fun _ => valD fn
  says := fun _ h => ∃ K : PySem.W.Frag, K.In h ∧ SaysM ck fn K
  of := fun _ _ e => ⟨_, frG_in, e⟩
  keeps := fun _ _ _ ⟨K, hK, c⟩ k => ⟨K, PySem.W.Frag.In.keeps hK k, c⟩
theorem obsMG_eq {n : Nat} {ck : PySem.W.Frag → Bool} {fn : List DefD} {g : Addr → Option Obj} {s : Shared} (h : ∀ a, g a = s.heap.get? a) : obsMG n ck fn g = (hookM n ck fn).obs s := by
  have e : g = s.heap.get? := funext h
  rw [e]
  rfl
section
variable {ck : PySem.W.Frag → Bool} {fn : List DefD} {K : PySem.W.Frag}
theorem SaysM.both (c : SaysM ck fn K) : ck K = true ∧ (fn.all fun d => d.ok K) = true :=
  ba (show (ck K && fn.all fun d => d.ok K) = true from congrArg (fun z : AlD => z.1) c)
theorem SaysM.def_ (c : SaysM ck fn K) (i : Nat) {d : DefD} (h : fn[i]? = some d := by rfl) : ∃ fd, FunD K d.name d.qual d.params d.body d.scope (d.dvs K) (d.kws K) (fAd K d.at_) fd := by
  have e : fn.map (fun d => fnW K d.at_) = fn.map DefD.val := congrArg (fun z : AlD => z.2) c
  have e2 : (fn.map fun d => fnW K d.at_)[i]? = (fn.map DefD.val)[i]? := by rw [e]
  rw [List.getElem?_map, List.getElem?_map, h] at e2
  exact DefD.funD (Option.some.inj e2) (List.all_eq_true.mp c.both.2 d (List.mem_of_getElem? h))
end
/-- facts by a list -/
theorem fa_at {fa : List Fa} {K : PySem.W.Frag} (c : (fa.all fun f => f.ok K) = true) (i : Nat) {f : Fa} (h : fa[i]? = some f := by rfl) : f.ok K = true :=
  List.all_eq_true.mp c f (List.mem_of_getElem? h)
/-- a tuple of texts at the module's name x -/
theorem tup_at {K : PySem.W.Frag} {x : Str} {vs : List Dv} {ws : List V} (h : tupB K x vs = true) (e : vs.map (Dv.v K) = ws := by rfl) (H : Hp) : SqT K H (ga K x) ws := e ▸ tupB_ok h H
end LK

set_option Elab.async false
set_option linter.all false
set_option maxRecDepth 100000
set_option maxHeartbeats 4000000
/-! readings that name the heap behind a step and say of it what counts: what is laid anew, what is changed -/
namespace LK
open PySem PySem.Spec PyProof.Rows L2
/-- a new thing is laid, all else stays -/
def NewO (H : Hp) (o : HO) (Q : VK) : Prop := ∀ p H2, H p = none → Same H H2 → H2 p = some o → Q (.ref p) H2
theorem NewO.up {H : Hp} {o : HO} {Q : VK} (h : NewO H o Q) (p : Addr) (hp : H p = none) : Q (.ref p) (upd H p o) := h p _ hp (Same.new hp) upd_same
/-- the thing at l is another one now, all else stays -/
def ChO (H : Hp) (l : Addr) (o : HO) (Q : Hp → Prop) : Prop := ∀ H2, H2 l = some o → But l H H2 → Q H2
theorem ChO.up {H : Hp} {l : Addr} {o : HO} {Q : Hp → Prop} (h : ChO H l o Q) : Q (upd H l o) := h _ upd_same (But.refl l H).mut
theorem Same.but {H H1 H2 : Hp} {l : Addr} (s : Same H H1) (hl : H l = none) (b : But l H1 H2) : Same H H2 := fun c u e => b c u (ne_of_none e hl) (s c u e)
theorem But.ne {H H2 : Hp} {l p : Addr} {o : HO} (b : But l H H2) (e : H p = some o) (n : p ≠ l) : H2 p = some o := b p o n e
theorem But.free {H H2 : Hp} {l p : Addr} (b : But l H H2) (n : H2 p = none) (hl : ∃ o, H2 l = some o) : H p = none := by
  cases e : H p with
  | none => rfl
  | some u =>
    by_cases hp : p = l
    · obtain ⟨o, ho⟩ := hl
      rw [hp, ho] at n
      cases n
    · rw [b p u hp e] at n
      cases n
section
variable {X : Cx} {K : PySem.W.Frag} {e : Expr} {es : List Expr} {te te' : TE} {t : TA} {pos : Pos}
theorem PE.imp (h : PE X e te) (i : ∀ σ H Q, te' σ H Q → te σ H Q) : PE X e te' := ⟨fun pins s σ H Q I q => h.run pins s σ H Q I (i σ H Q q)⟩
/-- with any weaker wish -/
def upA (t : TA) : TA := fun σ H P => ∃ P' : List V → Hp → Prop, t σ H P' ∧ ∀ xs H1, P' xs H1 → P xs H1
theorem paUp (h : PA X es t) : PA X es (upA t) := ⟨fun pos pins s σ H Q I q => by
  obtain ⟨P', q, i⟩ := q
  exact thn (h.run pos pins s σ H P' I q) fun us s1 ⟨xs, H1, I1, r, z⟩ => ⟨xs, H1, I1, r, i xs H1 z⟩⟩
def upE (t : TE) : TE := fun σ H P => ∃ P' : VK, t σ H P' ∧ ∀ x H1, P' x H1 → P x H1
theorem peUp (h : PE X e te) : PE X e (upE te) := ⟨fun pins s σ H Q I q => by
  obtain ⟨P', q, i⟩ := q
  exact thn (h.run pins s σ H P' I q) fun us s1 ⟨xs, H1, I1, r, z⟩ => ⟨xs, H1, I1, r, i xs H1 z⟩⟩
/-! ### displays -/
def tLstS (t : TA) : TE := fun σ H Q => t σ H fun xs H1 => xs.length ≤ sizeLine ∧ NewO H1 (.lst xs) Q
def tTupS (t : TA) : TE := fun σ H Q => t σ H fun xs H1 => xs.length ≤ sizeLine ∧ NewO H1 (.tup xs) Q
theorem pe_lstS (h : PA X es t) : PE X (.List es pos) (tLstS t) := PE.imp (pe_lst (paUp h)) fun _ _ _ q => ⟨_, q, fun _ _ z => ⟨z.1, z.2.up⟩⟩
theorem pe_tupS {k : Nat} (h : PA X es t) : PE X (.Tuple es k pos) (tTupS t) := PE.imp (pe_tup (paUp h)) fun _ _ _ q => ⟨_, q, fun _ _ z => ⟨z.1, z.2.up⟩⟩
/-! ### plus -/
def rAddS (K : PySem.W.Frag) : R2 := fun x y H Q => match x, y with
  | .int i, .int j => Q (.int (i + j)) H
  | .str a, .str b => a.length + b.length ≤ sizeLine ∧ Q (.str (a ++ b)) H
  | .ref a, .ref b => (∃ xs ys, H a = some (.lst xs) ∧ H b = some (.lst ys) ∧ xs.length + ys.length ≤ sizeLine ∧ NewO H (.lst (xs ++ ys)) Q) ∨
      ∃ xs ys, SqT K H a xs ∧ SqT K H b ys ∧ xs.length + ys.length ≤ sizeLine ∧ ∀ p H2, Same H H2 → SqT K H2 p (xs ++ ys) → Q (.ref p) H2
  | _, _ => False
theorem sqT_new {H : Hp} {p : Addr} {xs : List V} : SqT K (upd H p (.tup xs)) p xs := .inl (.inl upd_same)
theorem OpR.imp {f : Value → Value → Sem Value} {r r' : R2} (h : OpR X f r) (i : ∀ x y H Q, r' x y H Q → r x y H Q) : OpR X f r' := fun pins s σ H x y v u Q I rx ry q => h pins s σ H x y v u Q I rx ry (i x y H Q q)
theorem oAddS (hK : X.K = K := by rfl) : OpR X (binaryOp .Add) (rAddS K) := OpR.imp (oAdd hK) fun x y H Q q => by
  cases x <;> cases y <;> try exact q
  rcases q with ⟨xs, ys, h1, h2, h3, h4⟩ | ⟨xs, ys, h1, h2, h3, h4⟩
  · exact .inl ⟨xs, ys, h1, h2, h3, h4.up⟩
  · refine .inr ⟨_, _, xs, ys, rfl, rfl, h1, h2, h3, fun e => ?_, fun _ e => ?_, fun _ _ p hp => ?_⟩
    · subst e
      exact h4 _ _ (L2.Same.refl H) h2
    · subst e
      exact h4 _ _ (L2.Same.refl H) (by rw [List.append_nil]; exact h1)
    · exact h4 p _ (Same.new hp) sqT_new
/-! ### pieces -/
def rSlS' (K : PySem.W.Frag) : V → Option Int → Option Int → Hp → VK → Prop := fun x lo hi H Q => (∃ a xs, x = .ref a ∧ SqL K H a xs ∧ NewO H (.lst (cutV xs lo hi)) Q) ∨ (∃ a xs, x = .ref a ∧ SqT K H a xs ∧ ∀ p H2, Same H H2 → SqT K H2 p (cutV xs lo hi) → Q (.ref p) H2) ∨ rSlS x lo hi H Q
theorem cutV_whole {xs : List V} {lo hi : Option Int} (h : HT.sIx xs.length 0 lo = 0 ∧ HT.sIx xs.length xs.length hi = xs.length) : cutV xs lo hi = xs := by
  unfold cutV
  rw [h.1, h.2, List.drop_zero, Nat.sub_zero, List.take_length]
theorem SlR.imp {r r' : V → Option Int → Option Int → Hp → VK → Prop} (h : SlR X r) (i : ∀ x lo hi H Q, r' x lo hi H Q → r x lo hi H Q) : SlR X r' := fun pins s σ H x v vl vu lo hi sl Q I rx a b c q => h pins s σ H x v vl vu lo hi sl Q I rx a b c (i x lo hi H Q q)
theorem slS (hK : X.K = K := by rfl) : SlR X (rSlS' K) := SlR.imp (slM hK) fun x lo hi H Q q => by
  rcases q with ⟨a, xs, rfl, h1, h2⟩ | ⟨a, xs, rfl, h1, h2⟩ | q
  · exact .inl ⟨a, xs, rfl, h1, h2.up⟩
  · refine .inr (.inl ⟨a, xs, rfl, h1, fun w => ?_, fun _ p hp => h2 p _ (Same.new hp) sqT_new⟩)
    refine h2 a H (L2.Same.refl H) ?_
    rw [cutV_whole w]
    exact h1
  · exact .inr (.inr q)
/-! ### tuple(..), list(..) -/
theorem CallR.imp {f : Value} {r r' : List V → Hp → VK → Prop} (h : CallR X f r) (i : ∀ xs H Q, r' xs H Q → r xs H Q) : CallR X f r' := fun pins s σ H xs us Q I r q => h pins s σ H xs us Q I r (i xs H Q q)
def rTupS (K : PySem.W.Frag) : List V → Hp → VK → Prop := fun xs H Q => ∃ p ys, xs = [.ref p] ∧ (SqL K H p ys ∨ SqT K H p ys) ∧ ∀ l H2, Same H H2 → SqT K H2 l ys → Q (.ref l) H2
theorem cTupS (hK : X.K = K := by rfl) : CallR X (.type "tuple") (rTupS K) := CallR.imp (cTup hK) fun xs H Q q => by
  obtain ⟨p, ys, rfl, h1 | h1, h2⟩ := q
  · exact ⟨p, ys, rfl, .inl ⟨h1, fun l hl => h2 l _ (Same.new hl) sqT_new⟩⟩
  · exact ⟨p, ys, rfl, .inr ⟨h1, h2 p H (L2.Same.refl H) h1⟩⟩
def rListS (K : PySem.W.Frag) : List V → Hp → VK → Prop := fun xs H Q => (∃ p ys, xs = [.ref p] ∧ (SqL K H p ys ∨ SqT K H p ys) ∧ NewO H (.lst ys) Q) ∨ ∃ z : Str, xs = [.str z] ∧ z.length ≤ sizeLine ∧ NewO H (.lst (z.cps.toList.map fun c => V.str ⟨#[c]⟩)) Q
theorem cListS (hc : X.calm = true) (hK : X.K = K := by rfl) : CallR X (.type "list") (rListS K) := CallR.imp (cList hc hK) fun xs H Q q => by
  rcases q with ⟨p, ys, rfl, h1, h2⟩ | ⟨z, rfl, h1, h2⟩
  · exact .inl ⟨p, ys, rfl, h1, h2.up⟩
  · exact .inr ⟨z, rfl, h1, h2.up⟩
/-! ### methods that change a list -/
theorem MtR.imp {id : String} {r r' : V → List V → Hp → VK → Prop} (h : MtR X id r) (i : ∀ x xs H Q, r' x xs H Q → r x xs H Q) : MtR X id r' := fun pins s σ H x xs v us Q I rx rv q => h pins s σ H x xs v us Q I rx rv (i x xs H Q q)
def rAppendS : V → List V → Hp → VK → Prop := fun x vs H Q => ∃ l xs y, x = .ref l ∧ vs = [y] ∧ H l = some (.lst xs) ∧ xs.length < sizeLine ∧ ChO H l (.lst (xs ++ [y])) (Q .non)
theorem mt_appendS : MtR X "list.append" rAppendS := MtR.imp (r := rAppend) mt_append fun x vs H Q q => by
  obtain ⟨l, xs, y, h1, h2, h3, h4, h5⟩ := q
  exact ⟨l, xs, y, h1, h2, h3, h4, h5.up⟩
def rExtendS : V → List V → Hp → VK → Prop := fun x vs H Q => ∃ l b xs zs, x = .ref l ∧ vs = [.ref b] ∧ H l = some (.lst xs) ∧ H b = some (.lst zs) ∧ xs.length + zs.length ≤ sizeLine ∧ ChO H l (.lst (xs ++ zs)) (Q .non)
theorem mt_extendS : MtR X "list.extend" rExtendS := MtR.imp (r := rExtend) mt_extend fun x vs H Q q => by
  obtain ⟨l, b, xs, zs, h1, h2, h3, h4, h5, h6⟩ := q
  exact ⟨l, b, xs, zs, h1, h2, h3, h4, h5, h6.up⟩
def rPopS : V → List V → Hp → VK → Prop := fun x vs H Q => ∃ l xs y, x = .ref l ∧ vs = [] ∧ H l = some (.lst xs) ∧ xs[xs.length - 1]? = some y ∧ ChO H l (.lst xs.dropLast) (Q y)
theorem mt_popS : MtR X "list.pop" rPopS := MtR.imp (r := rPop) mt_pop fun x vs H Q q => by
  obtain ⟨l, xs, y, h1, h2, h3, h4, h5⟩ := q
  exact ⟨l, xs, y, h1, h2, h3, h4, h5.up⟩
end
/-- a digit off the pile -/
def spTakeS : Sp := fun vs H Q _ => ∃ (p : Addr) (c m : Int), vs = [.ref p, .int m] ∧ H p = some (.lst [.int c]) ∧ (0 < m ∧ m < 1073741824) ∧ ChO H p (.lst [.int (c.fdiv m)]) (Q (.int (c.fmod m)))
theorem take_runS {K : PySem.W.Frag} {p : Addr} {c m : Int} {H : Hp} {D : Ends} (hp : H p = some (.lst [.int c])) (hm : 0 < m ∧ m < 1073741824) (h : ChO H p (.lst [.int (c.fdiv m)]) (D.rt (.int (c.fmod m)))) :
    t_take K D [some (.ref p), some (.int m), none] H := take_run hp hm h.up
end LK
namespace LK
open PySem PySem.Spec PyProof.Rows L2
/-- a pile of digits at p, laid behind H1 -/
structure Pile (H1 H : Hp) (p : Addr) (c : Int) : Prop where
  s : Same H1 H
  hp : H p = some (.lst [.int c])
  pn : H1 p = none
theorem Pile.new {H1 H2 : Hp} {p : Addr} {c : Int} (n : H1 p = none) (s : Same H1 H2) (k : H2 p = some (.lst [.int c])) : Pile H1 H2 p c := ⟨s, k, n⟩
theorem Pile.ch {H1 H H2 : Hp} {p : Addr} {c c' : Int} (t : Pile H1 H p c) (k : H2 p = some (.lst [.int c'])) (b : But p H H2) : Pile H1 H2 p c' := ⟨Same.but t.s t.pn b, k, t.pn⟩
theorem Pile.go {H1 H H2 : Hp} {p : Addr} {c : Int} (t : Pile H1 H p c) (s : Same H H2) : Pile H1 H2 p c := ⟨Same.trans t.s s, s _ _ t.hp, t.pn⟩
/-- the item at a place within bounds -/
theorem atI_mem {xs : List V} {i : Int} (h0 : 0 ≤ i) (h1 : i < xs.length) : ∃ v, atI xs i = some v ∧ v ∈ xs := by
  obtain ⟨k, rfl⟩ : ∃ k : Nat, i = k := ⟨i.toNat, by omega⟩
  have hk : k < xs.length := by omega
  exact ⟨xs[k], atI_nat (List.getElem?_eq_getElem hk), List.getElem_mem hk⟩
end LK
namespace LK
open PySem PySem.Spec PyProof.Rows L2
theorem But.seqT {K : PySem.W.Frag} {H H2 : Hp} {p a : Addr} {xs ys : List V} (b : But p H H2) (hp : H p = some (.lst ys)) (k : SqT K H a xs) : SqT K H2 a xs := by
  rcases k with (k | ⟨o, k⟩) | k
  · exact .inl (.inl (b a _ (fun e => by rw [e, hp] at k; cases k) k))
  · exact .inl (.inr ⟨o, b a _ (fun e => by rw [e, hp] at k; cases k) k⟩)
  · exact .inr k
end LK
theorem LK.mget {α β : Type} {f : α → β} {l : List α} {i : Nat} {v : β} (h : (l.map f)[i]? = some v) : ∃ x, l[i]? = some x ∧ v = f x := by
  rw [List.getElem?_map] at h
  obtain ⟨x, h1, h2⟩ := Option.map_eq_some_iff.mp h
  exact ⟨x, h1, h2.symm⟩
namespace LK
open PySem PySem.Spec PyProof.Rows L2
def rIntS : List V → Hp → VK → Prop := fun xs H Q => rInt xs H Q ∨ ∃ a n, xs = [.str a] ∧ PySem.intText? a = some n ∧ a.length ≤ 640 ∧ Q (.int n) H
theorem cIntS {X : Cx} : CallR X (.type "int") rIntS := CallR.or cInt call_int_str
end LK
namespace LK
open PySem PySem.Spec PyProof.Rows L2
theorem But.trans {p : Addr} {H H1 H2 : Hp} (a : But p H H1) (b : But p H1 H2) : But p H H2 := fun c o n e => b c o n (a c o n e)
theorem But.of {p : Addr} {H H1 : Hp} (s : Same H H1) : But p H H1 := fun c o _ e => s c o e
end LK

set_option Elab.async false
set_option linter.all false
set_option maxRecDepth 100000
set_option maxHeartbeats 4000000
/-! errors: what the head tells of their classes; the law's own look at them -/
namespace LK
open PySem PySem.Spec PyProof.Rows L2 He
/-! ### the head's facts -/
def ecB (K : PySem.W.Frag) (D : Addr) : Bool :=
  eqO (PySem.W.findIn K (.ref D) "__getattribute__") (some (some (.builtin "BaseException.__getattribute__"))) && (eqO (PySem.W.findIn K (.ref D) "__getattr__") (some none) && (decide (PySem.W.subIn K (.ref D) (.type "BaseException") = some true) && (PySem.W.hasDictIn K D &&
    (eqO (PySem.W.findIn K (.ref D) "__class__") (some (some (.builtin "object.__class__"))) && (eqO (PySem.W.specialIn K (.builtin "object.__class__") "__get__") (some (some (.builtin "getset_descriptor.__get__"))) &&
      (decide (PySem.W.takesIn K (.builtin "object.__class__") = some true) && decide (PySem.W.mroIn K D (.type "object") = some true)))))))
theorem ecB_ok {K : PySem.W.Frag} {D : Addr} (h : ecB K D = true) : ExcC K D := by
  obtain ⟨h1, h⟩ := ba h
  obtain ⟨h2, h⟩ := ba h
  obtain ⟨h3, h⟩ := ba h
  obtain ⟨h4, h⟩ := ba h
  obtain ⟨h5, h⟩ := ba h
  obtain ⟨h6, h⟩ := ba h
  obtain ⟨h7, h8⟩ := ba h
  exact ⟨eqO_ok h1, eqO_ok h2, of_decide_eq_true h3, h4, eqO_ok h5, eqO_ok h6, of_decide_eq_true h7, of_decide_eq_true h8⟩
theorem ExcC.xf {K : PySem.W.Frag} {D : Addr} (c : ExcC K D) : XfC K D := ⟨c.hg, c.hk, c.hs, c.hd⟩
def ocB (K : PySem.W.Frag) (C : Addr) : Bool := match K.lookup C with
  | some ⟨.type t, _, .cls cd, sl⟩ => (match cd.mro, sl.toList with
    | .ref C' :: bm, [_, _, _, _, some (.builtin n), _] => decide (t = "type") && (decide (C' = C) && (decide (n = "ValueError.__new__") && (!cd.hasDel && (cd.hasDict && PySem.HandSPX.refsVE bm))))
    | _, _ => false)
  | _ => false
theorem ocB_ok {K : PySem.W.Frag} {C : Addr} (h : ocB K C = true) : ∃ nm q N bs bm sn sub ab col dd k0 k1 k2 k3 k5, K.lookup C = some (excClassObj nm q C N bs bm true sn sub ab col dd k0 k1 k2 k3 k5 "ValueError.__new__") ∧ PySem.HandSPX.refsVE bm = true := by
  unfold ocB at h
  split at h
  · rename_i t dd cd sl ho
    split at h
    · rename_i C' bm k0 k1 k2 k3 n k5 hm hs
      obtain ⟨h1, h⟩ := ba h
      obtain ⟨h2, h⟩ := ba h
      obtain ⟨h3, h⟩ := ba h
      obtain ⟨h4, h⟩ := ba h
      obtain ⟨h5, h6⟩ := ba h
      have e1 := of_decide_eq_true h1
      have e2 := of_decide_eq_true h2
      have e3 := of_decide_eq_true h3
      subst e1 e2 e3
      obtain ⟨nm, bs, mro, ns, qn, hd, sn, sub, ab, col, del⟩ := cd
      have e4 : del = false := by simpa using h4
      have e5 : hd = true := h5
      have e6 : mro = .ref C' :: bm := hm
      subst e4 e5 e6
      have e7 : sl = #[k0, k1, k2, k3, some (.builtin "ValueError.__new__"), k5] := by
        obtain ⟨l⟩ := sl
        simp only at hs
        rw [hs]
      subst e7
      exact ⟨nm, qn, ns, bs, bm, sn, sub, ab, col, dd, k0, k1, k2, k3, k5, ho, h6⟩
    · cases h
  · cases h
def oexB (K : PySem.W.Frag) (C : Addr) : Bool := ocB K C && (eqO (PySem.W.findIn K (.ref C) "__setattr__") (some (some (.builtin "object.__setattr__"))) && (decide (PySem.W.subIn K (.ref C) (.type "BaseException") = some true) &&
  (decide (PySem.W.typeIn K (.ref C) = some (.type "type")) && PySem.W.keepIn K (.ref C))))
theorem oexB_ok {K : PySem.W.Frag} {C : Addr} (h : oexB K C = true) : OexC K C := by
  obtain ⟨h1, h⟩ := ba h
  obtain ⟨h2, h⟩ := ba h
  obtain ⟨h3, h⟩ := ba h
  obtain ⟨h4, h5⟩ := ba h
  exact ⟨ocB_ok h1, eqO_ok h2, of_decide_eq_true h3, of_decide_eq_true h4, h5⟩
def icB (K : PySem.W.Frag) (D : Addr) : Bool := PySem.W.readsIn K D (.type "type") && (eqO (PySem.W.specialIn K (.ref D) "__getattribute__") (some (some (.builtin "type.__getattribute__"))) &&
  (match PySem.W.findCls K (.ref D) (.type "type") "__init__" with
    | some (.val v) => decide (v = .builtin "ValueError.__init__")
    | _ => false))
theorem icB_ok {K : PySem.W.Frag} {D : Addr} (h : icB K D = true) : InitC K D := by
  obtain ⟨h1, h⟩ := ba h
  obtain ⟨h2, h3⟩ := ba h
  refine ⟨h1, eqO_ok h2, ?_⟩
  split at h3
  · rename_i v e
    rw [e, of_decide_eq_true h3]
  · cases h3
/-- the __init__ of an own class: where it is found, a function -/
def inB (K : PySem.W.Frag) (x : Str) : Bool := eqO (PySem.W.findIn K (.ref (ga K x)) "__init__") (some (some (.ref (ma K (ga K x) "__init__")))) && decide (PySem.W.typeIn K (.ref (ma K (ga K x) "__init__")) = some (.type "function"))
theorem inB_ok {K : PySem.W.Frag} {x : Str} (h : inB K x = true) : PySem.W.findIn K (.ref (ga K x)) "__init__" = some (some (.ref (ma K (ga K x) "__init__"))) ∧ PySem.W.typeIn K (.ref (ma K (ga K x) "__init__")) = some (.type "function") := by
  obtain ⟨h1, h2⟩ := ba h
  exact ⟨eqO_ok h1, of_decide_eq_true h2⟩
/-- classes ds, each straight under LeanError, none under another -/
structure Kinds (K : PySem.W.Frag) (ds : List Str) : Prop where
  ec : ∀ d ∈ ds, ExcC K (ga K d)
  own : ∀ d ∈ ds, ∀ c ∈ ds, PySem.W.kitOne K (.ref (ga K d)) (.ref (ga K c)) = some (decide (d = c))
  top : ∀ d ∈ ds, PySem.W.kitOne K (.ref (ga K d)) (.ref (ga K "LeanError")) = some true
  ve : ∀ d ∈ ds, PySem.W.kitOne K (.ref (ga K d)) (.type "ValueError") = some true
  lo : ∀ d ∈ ds, PySem.W.kitOne K (.ref (ga K d)) (.type "LookupError") = some false
  ar : ∀ d ∈ ds, PySem.W.kitOne K (.ref (ga K d)) (.type "ArithmeticError") = some false
def kindsB (K : PySem.W.Frag) (ds : List Str) : Bool := ds.all fun d => ecB K (ga K d) && ((ds.all fun c => decide (PySem.W.kitOne K (.ref (ga K d)) (.ref (ga K c)) = some (decide (d = c)))) &&
  (decide (PySem.W.kitOne K (.ref (ga K d)) (.ref (ga K "LeanError")) = some true) && (decide (PySem.W.kitOne K (.ref (ga K d)) (.type "ValueError") = some true) &&
    (decide (PySem.W.kitOne K (.ref (ga K d)) (.type "LookupError") = some false) && decide (PySem.W.kitOne K (.ref (ga K d)) (.type "ArithmeticError") = some false)))))
theorem kindsB_ok {K : PySem.W.Frag} {ds : List Str} (h : kindsB K ds = true) : Kinds K ds := by
  have z := List.all_eq_true.mp h
  have y : ∀ d ∈ ds, ExcC K (ga K d) ∧ (∀ c ∈ ds, PySem.W.kitOne K (.ref (ga K d)) (.ref (ga K c)) = some (decide (d = c))) ∧ PySem.W.kitOne K (.ref (ga K d)) (.ref (ga K "LeanError")) = some true ∧ PySem.W.kitOne K (.ref (ga K d)) (.type "ValueError") = some true ∧
      PySem.W.kitOne K (.ref (ga K d)) (.type "LookupError") = some false ∧ PySem.W.kitOne K (.ref (ga K d)) (.type "ArithmeticError") = some false := fun d hd => by
    obtain ⟨h1, h⟩ := ba (z d hd)
    obtain ⟨h2, h⟩ := ba h
    obtain ⟨h3, h⟩ := ba h
    obtain ⟨h4, h⟩ := ba h
    obtain ⟨h5, h6⟩ := ba h
    exact ⟨ecB_ok h1, fun c hc => of_decide_eq_true (List.all_eq_true.mp h2 c hc), of_decide_eq_true h3, of_decide_eq_true h4, of_decide_eq_true h5, of_decide_eq_true h6⟩
  exact ⟨fun d hd => (y d hd).1, fun d hd => (y d hd).2.1, fun d hd => (y d hd).2.2.1, fun d hd => (y d hd).2.2.2.1, fun d hd => (y d hd).2.2.2.2.1, fun d hd => (y d hd).2.2.2.2.2⟩
/-! ### calls with keywords and defaults, no keyword-only parameters -/
theorem kbn1 {K : PySem.W.Frag} {x qual : Str} {params : Arguments} {body : List Stmt} {scope : Scope} {dvs : List V} {f : Addr} {fd : FuncData} {ps : List Str} (F : FunD K x qual params body scope dvs [] f fd) (n : Nat) (ks : List Str) (g : {α : Type} → List α → List α → List α → List α) (hd : dvs ≠ [])
    (hrel : ∀ {vs ds zs : List V} {us its ws : List Value}, Vals vs us → Vals ds its → Vals zs ws → Vals (g vs ds zs) (g us its ws))
    (h : ∀ (T : Addr) (kV doc pm : Value) (an : Option Addr) (cdv ct : Value) (us its ws : List Value), us.length = n → its.length = dvs.length → ws.length = ks.length →
      ∃ k, bindArgs (PySem.W.fnOf x qual params body scope (.ref T) kV doc pm an cdv ct) ⟨us, ks.zip ws⟩ = seqItems? (.ref T) >>= k ∧ k (some its.toArray) = pure (ps.zip (g us its ws))) :
    ∃ gv : List Value → List Value → List Value, KBn K fd ps n ks gv (fun vs zs => g vs dvs zs) := by
  obtain ⟨oc, od, dV, kV, doc, pm, an, cdv, ct, osl, rfl, lk, hcd, hD, hK⟩ := F.ex
  rcases hD with ⟨e, _⟩ | ⟨_, T, o, its, m, rfl, lT, oT, rT⟩
  · exact absurd e hd
  · refine ⟨fun us ws => g us its ws, ⟨fun s us ws X l1 l2 => ?_, fun r1 r2 => hrel r1 rT r2⟩⟩
    obtain ⟨k, e1, e2⟩ := h T kV doc pm an cdv ct us its ws l1 rT.length.symm l2
    refine BindsTo.of_looks fun M => ?_
    rw [e1]
    exact looks_items X lT oT (.of_pure e2)
/-! ### an __init__ that hands its values on to fields -/
def spInit (C : Addr) (names : List Str) : Sp := fun vs H Q _ => ∃ (a : Addr) (ws : List V), vs = .ref a :: ws ∧ ws.length = names.length ∧ H a = some (exo a C none) ∧
  ∀ dx H', H dx = none → dx ≠ a → H' a = some (exo a C (some dx)) → H' dx = some (exd dx (names.zip ws).reverse) → (∀ b, b ≠ a → b ≠ dx → H' b = H b) → Q .non H'
/-- an error with its fields -/
structure ErrAt (H : Hp) (a C : Addr) (fs : List (Str × V)) : Prop where
  ex : ∃ (d : Addr) (fr : Bool), H a = some (exK a (.ref C) (some d) fr) ∧ H d = some (.xd fs)
theorem ErrAt.same {H H' : Hp} {a C : Addr} {fs : List (Str × V)} (k : ErrAt H a C fs) (e : Same H H') : ErrAt H' a C fs := by
  obtain ⟨d, fr, e1, e2⟩ := k.ex
  exact ⟨d, fr, e _ _ e1, e _ _ e2⟩
/-- an error, whatever its dict -/
structure Err (H : Hp) (a C : Addr) : Prop where
  ex : ∃ (d : Option Addr) (fr : Bool), H a = some (exK a (.ref C) d fr) ∧ DictAt H d
theorem Err.same {H H' : Hp} {a C : Addr} (k : Err H a C) (e : Same H H') : Err H' a C := by
  obtain ⟨d, fr, e1, e2⟩ := k.ex
  exact ⟨d, fr, e _ _ e1, e2.same e⟩
theorem ErrAt.err {H : Hp} {a C : Addr} {fs : List (Str × V)} (k : ErrAt H a C fs) : Err H a C := by
  obtain ⟨d, fr, e1, e2⟩ := k.ex
  exact ⟨some d, fr, e1, .inr ⟨d, fs, rfl, e2⟩⟩
theorem mkO_read {C : Addr} {n : Nat} {ks names : List Str} {gV : List V → List V → List V} {xs zs ws : List V} {H : Hp} {Q : VK} (hn : xs.length = n) (hz : zs.length = ks.length) (hg : ∀ a, gV (.ref a :: xs) zs = .ref a :: ws) (hw : ws.length = names.length)
    (h : ∀ a H', H a = none → Same H H' → ErrAt H' a C (names.zip ws).reverse → Q (.ref a) H') : rMkO C n ks (spInit C names) gV xs zs H Q := by
  refine ⟨hn, hz, fun a ha => ⟨a, ws, hg a, hw, upd_same, fun dx H' hdx nda e1 e2 ho => ⟨rfl, dx, _, e1, e2, h a _ ha (fun b u hb => ?_) ⟨dx, true, ?_, ?_⟩⟩⟩⟩
  · have n1 : b ≠ a := ne_of_none hb ha
    have hdx' : H dx = none := by rw [← upd_ne (H := H) (o := exo a C none) nda]; exact hdx
    have n2 : b ≠ dx := ne_of_none hb hdx'
    rw [upd_ne n1, upd_ne n2, ho b n1 n2, upd_ne n1]
    exact hb
  · rw [upd_same]
  · rw [upd_ne nda, upd_same]
theorem mkN_read {C : Addr} {xs : List V} {H : Hp} {Q : VK} (hl : xs.length ≤ 1000) (h : ∀ a H', H a = none → Same H H' → Err H' a C → Q (.ref a) H') : rMkN C xs [] H Q :=
  ⟨rfl, hl, fun a ha => h a _ ha (Same.new ha) ⟨none, true, upd_same, .inl rfl⟩⟩
/-- one isinstance of an error -/
theorem isx_read {K : PySem.W.Frag} {a C : Addr} {c : V} {cv : Value} {b : Bool} {H : Hp} {Q : VK} (k : Err H a C) (T : ExcC K C) (hc : ClsV c cv) (e : PySem.W.kitOne K (.ref C) cv = some b) (h : Q (.bl b) H) : rIsx K [.ref a, c] H Q := by
  obtain ⟨d, fr, e1, e2⟩ := k.ex
  exact .inr ⟨a, C, c, cv, d, fr, b, rfl, T, e1, e2, hc, e, h⟩
/-- two things of the same content -/
theorem neD {K : PySem.W.Frag} {x y : V} {d : PyData} {H : Hp} {Q : VK} (dx : Dp K H x d) (dy : Dp K H y d) (sh : PySem.SeqAt.shaped d = true) (h : Q (.bl false) H) : rNeM K x y H Q := by
  refine .inr ⟨d, d, dx, dy, sh, sh, ?_⟩
  rw [PySem.SeqAt.eqv_refl _ (PySem.SeqAt.canLay_of_shaped sh)]
  exact h
theorem eqD {K : PySem.W.Frag} {x y : V} {d : PyData} {H : Hp} {Q : VK} (dx : Dp K H x d) (dy : Dp K H y d) (sh : PySem.SeqAt.shaped d = true) (h : Q (.bl true) H) : rEqM K x y H Q := by
  refine .inr ⟨d, d, dx, dy, sh, sh, ?_⟩
  rw [PySem.SeqAt.eqv_refl _ (PySem.SeqAt.canLay_of_shaped sh)]
  exact h
/-- an empty tuple of the written part -/
def etB (K : PySem.W.Frag) (a : Addr) : Bool := match K.lookup a with
  | some ⟨.type c, _, .seq its _, _⟩ => decide (c = "tuple") && decide (its.toList = [])
  | _ => false
theorem etB_ok {K : PySem.W.Frag} {a : Addr} (h : etB K a = true) (H : Hp) : SqT K H a [] := by
  unfold etB at h
  split at h
  · rename_i c dd its n sl e
    obtain ⟨h1, h2⟩ := ba h
    have e1 : its.toList = [] := of_decide_eq_true h2
    have e2 : its.size = 0 := by rw [← Array.length_toList, e1] <;> rfl
    exact .inr ⟨_, its, n, e, congrArg Value.type (of_decide_eq_true h1), rfl, by rw [e2]; exact Nat.zero_le _, by rw [e1]; exact .nil⟩
  · cases h
/-- targets in a comprehension's block -/
theorem pgTup {X : Cx} {K : PySem.W.Frag} {es : List Expr} {k : Nat} {t : TGs} {n : Nat} {pos : Pos} (hc : X.calm = true) (h : PGs X es t) (hK : X.K = K := by rfl)
    (hn : (assignEach es X.env).length = n := by rfl) (hst : (assignEach es X.env).findIdx? (·.1) = none := by rfl) : PG X (.Tuple es k pos) (gTup K n t) := hK ▸ pg_tup hc h hn hst
/-- the statics too -/
def obsSG (n : Nat) (ck : PySem.W.Frag → Bool) (fn : List DefD) (g : Addr → Option Obj) : AlD := obsM ck fn (frG g (cStatics :: asD g n))
def hookS (n : Nat) (ck : PySem.W.Frag → Bool) (fn : List DefD) : PySem.W.Hook where
  α := AlD
  obs := fun s => obsSG n ck fn s.heap.get?
  val := fun _ => valD fn
  says := fun _ h => ∃ K : PySem.W.Frag, K.In h ∧ SaysM ck fn K
  of := fun _ _ e => ⟨_, frG_in, e⟩
  keeps := fun _ _ _ ⟨K, hK, c⟩ k => ⟨K, PySem.W.Frag.In.keeps hK k, c⟩
theorem obsSG_eq {n : Nat} {ck : PySem.W.Frag → Bool} {fn : List DefD} {g : Addr → Option Obj} {s : Shared} (h : ∀ a, g a = s.heap.get? a) : obsSG n ck fn g = (hookS n ck fn).obs s := by
  have e : g = s.heap.get? := funext h
  rw [e]
  rfl
end LK
namespace LK
open PySem PySem.Spec PyProof.Rows L2
theorem xf_at {K : PySem.W.Frag} {a C : Addr} {fs : List (Str × V)} {f : Str} {v : V} {H : Hp} {Q : VK} (k : ErrAt H a C fs) (c : ExcC K C) (no : PySem.W.findIn K (.ref C) f = some none) (l : fs.lookup f = some v) (h : Q v H) : rXfK K f (.ref a) H Q := by
  obtain ⟨d, fr, e1, e2⟩ := k.ex
  exact ⟨a, C, d, fr, fs, v, rfl, ExcC.xf c, no, e1, e2, l, h⟩
end LK

set_option Elab.async false
set_option linter.all false
set_option maxRecDepth 100000
set_option maxHeartbeats 4000000
/-! texts as lists of codes -/
namespace LK
open PySem PySem.Spec PyProof.Rows L2
/-! ### readings as structures: a lemma of one is found by its name alone -/
structure rLenW (K : PySem.W.Frag) (xs : List V) (H : Hp) (Q : VK) : Prop where
  out : rLen K xs H Q
structure rIxW (K : PySem.W.Frag) (x y : V) (H : Hp) (Q : VK) : Prop where
  out : rIx K x y H Q
structure rInW (K : PySem.W.Frag) (neg : Bool) (x y : V) (H : Hp) (Q : VK) : Prop where
  out : rInM K neg x y H Q
structure rSlW (K : PySem.W.Frag) (x : V) (lo hi : Option Int) (H : Hp) (Q : VK) : Prop where
  out : rSlS' K x lo hi H Q
structure rEqW (K : PySem.W.Frag) (x y : V) (H : Hp) (Q : VK) : Prop where
  out : rEqM K x y H Q
structure rNeW (K : PySem.W.Frag) (x y : V) (H : Hp) (Q : VK) : Prop where
  out : rNeM K x y H Q
structure rIsW (K : PySem.W.Frag) (xs : List V) (H : Hp) (Q : VK) : Prop where
  out : rIsx K xs H Q
structure rIntW (xs : List V) (H : Hp) (Q : VK) : Prop where
  out : rIntS xs H Q
structure rTupW (K : PySem.W.Frag) (xs : List V) (H : Hp) (Q : VK) : Prop where
  out : rTupS K xs H Q
structure rListW (K : PySem.W.Frag) (xs : List V) (H : Hp) (Q : VK) : Prop where
  out : rListS K xs H Q
section
variable {X : Cx} {K : PySem.W.Frag}
theorem cLenW (hK : X.K = K := by rfl) : CallR X (.builtin "len") (rLenW K) := CallR.imp (cLen hK) fun _ _ _ q => q.out
theorem ixW (hK : X.K = K := by rfl) : IxR X (rIxW K) := fun value slice pins s σ H x y v u Q I rx ry q hs => ixM hK value slice pins s σ H x y v u Q I rx ry q.out hs
theorem oInW (hK : X.K = K := by rfl) : OpR X (compareOp .In) (rInW K false) := OpR.imp (oIn hK) fun _ _ _ _ q => q.out
theorem oNinW (hK : X.K = K := by rfl) : OpR X (compareOp .NotIn) (rInW K true) := OpR.imp (oNin hK) fun _ _ _ _ q => q.out
theorem slW (hK : X.K = K := by rfl) : SlR X (rSlW K) := SlR.imp (slS hK) fun _ _ _ _ _ q => q.out
theorem oEqW (hu : X.A.units + 64 < cLine) (hK : X.K = K := by rfl) : OpR X (compareOp .Eq) (rEqW K) := OpR.imp (oEq hu hK) fun _ _ _ _ q => q.out
theorem oNeW (hu : X.A.units + 64 < cLine) (hK : X.K = K := by rfl) : OpR X (compareOp .NotEq) (rNeW K) := OpR.imp (oNe hu hK) fun _ _ _ _ q => q.out
theorem cIsW (hK : X.K = K := by rfl) : CallR X (.builtin "isinstance") (rIsW K) := CallR.imp (cIsx hK) fun _ _ _ q => q.out
theorem cIntW : CallR X (.type "int") rIntW := CallR.imp cIntS fun _ _ _ q => q.out
theorem cTupW (hK : X.K = K := by rfl) : CallR X (.type "tuple") (rTupW K) := CallR.imp (cTupS hK) fun _ _ _ q => q.out
theorem cListW (hc : X.calm = true) (hK : X.K = K := by rfl) : CallR X (.type "list") (rListW K) := CallR.imp (cListS hc hK) fun _ _ _ q => q.out
variable {H : Hp} {Q : VK}
theorem lenL {p : Addr} {xs : List V} (h : SqL K H p xs) (q : Q (.int (xs.length : Nat)) H) : rLenW K [.ref p] H Q := ⟨⟨_, _, rfl, .inl ⟨_, h, rfl⟩, q⟩⟩
theorem lenT {p : Addr} {xs : List V} (h : SqT K H p xs) (q : Q (.int (xs.length : Nat)) H) : rLenW K [.ref p] H Q := ⟨⟨_, _, rfl, .inr ⟨_, h, rfl⟩, q⟩⟩
theorem ixL {p : Addr} {xs : List V} {i : Int} {v : V} (h : SqL K H p xs) (e : atI xs i = some v) (q : Q v H) : rIxW K (.ref p) (.int i) H Q := ⟨.inl ⟨_, _, _, _, rfl, rfl, h, e, q⟩⟩
theorem ixT {p : Addr} {xs : List V} {i : Int} {v : V} (h : SqT K H p xs) (e : atI xs i = some v) (q : Q v H) : rIxW K (.ref p) (.int i) H Q := ⟨.inr (.inl ⟨_, _, _, _, rfl, rfl, h, e, q⟩)⟩
theorem eqSc {x y : V} (h : scal x y = true) (q : Q (.bl (decide (x = y))) H) : rEqW K x y H Q := ⟨.inl ⟨h, q⟩⟩
theorem neSc {x y : V} (h : scal x y = true) (q : Q (.bl (!decide (x = y))) H) : rNeW K x y H Q := ⟨.inl ⟨h, q⟩⟩
theorem eqDa {x y : V} {d e : PyData} (dx : Dp K H x d) (dy : Dp K H y e) (s1 : PySem.SeqAt.shaped d = true) (s2 : PySem.SeqAt.shaped e = true) (q : Q (.bl (PyData.eqv d e)) H) : rEqW K x y H Q := ⟨.inr ⟨_, _, dx, dy, s1, s2, q⟩⟩
theorem neDa {x y : V} {d e : PyData} (dx : Dp K H x d) (dy : Dp K H y e) (s1 : PySem.SeqAt.shaped d = true) (s2 : PySem.SeqAt.shaped e = true) (q : Q (.bl (!PyData.eqv d e)) H) : rNeW K x y H Q := ⟨.inr ⟨_, _, dx, dy, s1, s2, q⟩⟩
theorem eqSame {x y : V} {d : PyData} (dx : Dp K H x d) (dy : Dp K H y d) (s1 : PySem.SeqAt.shaped d = true) (q : Q (.bl true) H) : rEqW K x y H Q := ⟨eqD dx dy s1 q⟩
theorem neSame {x y : V} {d : PyData} (dx : Dp K H x d) (dy : Dp K H y d) (s1 : PySem.SeqAt.shaped d = true) (q : Q (.bl false) H) : rNeW K x y H Q := ⟨neD dx dy s1 q⟩
theorem isErr {a C : Addr} {c : V} {cv : Value} {b : Bool} (k : Err H a C) (T : ExcC K C) (hc : ClsV c cv) (e : PySem.W.kitOne K (.ref C) cv = some b) (h : Q (.bl b) H) : rIsW K [.ref a, c] H Q := ⟨isx_read k T hc e h⟩
theorem isTy {x : V} {t : Value} {n : String} {b : Bool} (ty : TyX K H x t) (e : PySem.W.kitOne K t (.type n) = some b) (h : Q (.bl b) H) : rIsW K [x, .ty n] H Q := ⟨.inl ⟨_, _, _, _, _, rfl, .ty _, ty, e, h⟩⟩
theorem intI {i : Int} (h : Q (.int i) H) : rIntW [.int i] H Q := ⟨.inl (.inl ⟨i, rfl, h⟩)⟩
theorem intB {b : Bool} (h : Q (.int (if b then 1 else 0)) H) : rIntW [.bl b] H Q := ⟨.inl (.inr ⟨b, rfl, h⟩)⟩
theorem intT {a : Str} {n : Int} (e : PySem.intText? a = some n) (l : a.length ≤ 640) (h : Q (.int n) H) : rIntW [.str a] H Q := ⟨.inr ⟨a, n, rfl, e, l, h⟩⟩
theorem tupL {p : Addr} {ys : List V} (h : SqL K H p ys) (q : ∀ l H2, Same H H2 → SqT K H2 l ys → Q (.ref l) H2) : rTupW K [.ref p] H Q := ⟨⟨p, ys, rfl, .inl h, q⟩⟩
end
abbrev toS (w : List Nat) : Str := ⟨w.toArray⟩
theorem toS_list (w : List Nat) : (toS w).cps.toList = w := rfl
theorem toS_len (w : List Nat) : (toS w).length = w.length := by
  show w.toArray.size = _
  simp
theorem toS_of (z : Str) : z = toS z.cps.toList := by
  obtain ⟨a⟩ := z
  show Str.mk a = Str.mk a.toList.toArray
  simp
theorem toS_inj {a b : List Nat} (h : toS a = toS b) : a = b := by
  have : a.toArray = b.toArray := congrArg Str.cps h
  simpa using congrArg Array.toList this
theorem toS_eq {a b : List Nat} : (toS a = toS b) = (a = b) := propext ⟨toS_inj, fun h => by rw [h]⟩
theorem toS_app (a b : List Nat) : toS a ++ toS b = toS (a ++ b) := by
  show Str.mk (a.toArray ++ b.toArray) = _
  simp
theorem str_inj {a b : List Nat} : (V.str (toS a) = V.str (toS b)) = (a = b) := propext ⟨fun h => toS_inj (V.str.inj h), fun h => by rw [h]⟩
/-- text[i:j] -/
theorem cut_at (cs : List Nat) (i j : Nat) : cutS (toS cs) (some (i : Int)) (some (j : Int)) = toS ((cs.drop i).take (j - i)) := by
  unfold cutS
  rw [HT.sIx_nat, HT.sIx_nat, toS_len]
  show toS ((cs.drop (min i cs.length)).take (min j cs.length - min i cs.length)) = _
  rw [toS_eq]
  by_cases h : i ≤ cs.length
  · rw [Nat.min_eq_left h]
    rw [List.take_eq_take_iff, List.length_drop]
    omega
  · rw [show min i cs.length = cs.length by omega, List.drop_length, List.drop_eq_nil_of_le (by omega : cs.length ≤ i)]
    simp
theorem cut_to (cs : List Nat) (j : Nat) : cutS (toS cs) none (some (j : Int)) = toS (cs.take j) := by
  unfold cutS
  rw [HT.sIx_nat, HT.sIx_none, toS_len]
  show toS ((cs.drop 0).take (min j cs.length - 0)) = _
  rw [toS_eq, List.drop_zero, List.take_eq_take_iff]
  omega
theorem cut_from (cs : List Nat) (i : Nat) : cutS (toS cs) (some (i : Int)) none = toS (cs.drop i) := by
  unfold cutS
  rw [HT.sIx_nat, HT.sIx_none, toS_len]
  show toS ((cs.drop (min i cs.length)).take (cs.length - min i cs.length)) = _
  rw [toS_eq]
  by_cases h : i ≤ cs.length
  · rw [Nat.min_eq_left h, List.take_of_length_le (by rw [List.length_drop]; exact Nat.le_refl _)]
  · rw [show min i cs.length = cs.length by omega, List.drop_length, List.drop_eq_nil_of_le (by omega : cs.length ≤ i)]
    simp
theorem drop_cons {cs : List Nat} {i : Nat} (h : i < cs.length) : cs.drop i = cs[i] :: cs.drop (i + 1) := List.drop_eq_getElem_cons h
/-- text[i] -/
theorem ixS {K : PySem.W.Frag} {cs : List Nat} {i c : Nat} {r : List Nat} {H : Hp} {Q : VK} (hl : cs.length ≤ sizeLine) (e : cs.drop i = c :: r) (h : Q (.str (toS [c])) H) : rIxW K (.str (toS cs)) (.int i) H Q := by
  refine ⟨.inr (.inr ⟨_, _, c, rfl, rfl, by rw [toS_len]; exact hl, ?_, h⟩)⟩
  have : cs[i]? = some c := by
    have := congrArg (fun l => l[0]?) e
    simpa using this
  exact atI_nat this
/-- one sign in a text -/
theorem inS {K : PySem.W.Frag} {c : Nat} {cs : List Nat} {H : Hp} {Q : VK} (h : Q (.bl (decide (c ∈ cs))) H) : rInW K false (.str (toS [c])) (.str (toS cs)) H Q := by
  refine ⟨⟨_, rfl, ?_⟩⟩
  rw [if_neg Bool.false_ne_true, sign_in]
  exact h
theorem ninS {K : PySem.W.Frag} {c : Nat} {cs : List Nat} {H : Hp} {Q : VK} (h : Q (.bl (!decide (c ∈ cs))) H) : rInW K true (.str (toS [c])) (.str (toS cs)) H Q := by
  refine ⟨⟨_, rfl, ?_⟩⟩
  rw [if_pos rfl, sign_in]
  exact h
/-- a text among texts -/
theorem inV_toS (w : List Nat) : ∀ ws : List (List Nat), inV (.str (toS w)) (ws.map fun a => V.str (toS a)) = decide (w ∈ ws)
  | [] => rfl
  | a :: ws => by
    have ih := inV_toS w ws
    unfold inV at ih ⊢
    rw [List.map_cons, List.any_cons, ih]
    show (toS a == toS w || _) = _
    rw [Bool.eq_iff_iff, Bool.or_eq_true, beq_iff_eq, decide_eq_true_eq, decide_eq_true_eq, toS_eq, List.mem_cons, eq_comm]
theorem flat_toS (ws : List (List Nat)) : (ws.map fun a => V.str (toS a)).all flatV = true := by
  rw [List.all_eq_true]
  intro x hx
  obtain ⟨a, _, rfl⟩ := List.mem_map.mp hx
  rfl
theorem inT {K : PySem.W.Frag} {w : List Nat} {ws : List (List Nat)} {p : Addr} {vs : List V} {H : Hp} {Q : VK} (hp : SqL K H p vs ∨ SqT K H p vs) (e : vs = ws.map fun a => V.str (toS a)) (h : Q (.bl (decide (w ∈ ws))) H) : rInW K false (.str (toS w)) (.ref p) H Q := by
  subst e
  refine ⟨⟨p, _, rfl, hp, rfl, flat_toS ws, ?_⟩⟩
  rw [if_neg Bool.false_ne_true, inV_toS]
  exact h
theorem slS_at {K : PySem.W.Frag} {cs : List Nat} {i j : Nat} {H : Hp} {Q : VK} (hl : cs.length ≤ sizeLine) (h : Q (.str (toS ((cs.drop i).take (j - i)))) H) : rSlW K (.str (toS cs)) (some (i : Int)) (some (j : Int)) H Q := by
  refine ⟨.inr (.inr ⟨_, rfl, by rw [toS_len]; exact hl, ?_⟩)⟩
  rw [cut_at]
  exact h
theorem slS_to {K : PySem.W.Frag} {cs : List Nat} {j : Nat} {H : Hp} {Q : VK} (hl : cs.length ≤ sizeLine) (h : Q (.str (toS (cs.take j))) H) : rSlW K (.str (toS cs)) none (some (j : Int)) H Q := by
  refine ⟨.inr (.inr ⟨_, rfl, by rw [toS_len]; exact hl, ?_⟩)⟩
  rw [cut_to]
  exact h
theorem slS_from {K : PySem.W.Frag} {cs : List Nat} {i : Nat} {H : Hp} {Q : VK} (hl : cs.length ≤ sizeLine) (h : Q (.str (toS (cs.drop i))) H) : rSlW K (.str (toS cs)) (some (i : Int)) none H Q := by
  refine ⟨.inr (.inr ⟨_, rfl, by rw [toS_len]; exact hl, ?_⟩)⟩
  rw [cut_from]
  exact h
theorem lenS {K : PySem.W.Frag} {cs : List Nat} {H : Hp} {Q : VK} (hl : cs.length ≤ sizeLine) (h : Q (.int (cs.length : Nat)) H) : rLenW K [.str (toS cs)] H Q :=
  ⟨⟨_, cs.length, rfl, ⟨by rw [toS_len]; exact hl, (toS_len cs).symm⟩, h⟩⟩
end LK

set_option Elab.async false
set_option linter.all false
set_option maxRecDepth 100000
set_option maxHeartbeats 4000000
/-! raise, try .. except C as e: the error that is caught stands on behind the suite -/
namespace LK
open PySem PySem.Spec PyProof.Rows L2
/-- on the ground again, the error tracked from here on -/
theorem landedK {X : Cx} {pins : List (Addr × Obj)} {σ : L2.St} {H : Hp} {sI s' : Shared} {B : Heap} {a : Addr} {oe : Obj} {vs : Array Value} {cls : Value} {d : Option Addr} (I : Inv X pins σ H sI) (nb : ∀ b o, sI.heap.get? b = some o → b ∉ frs X.stack → B.get? b = some o)
    (st : B.StaysIn s'.heap) (up : sI.heap.UpToSlots s'.heap) (os : s'.os = sI.os) (ag : AllBare s'.gens) (na : H a = none) (nI : sI.heap.get? a = none) (he : s'.heap.get? a = some oe) (hc : oe.cls = cls) (hd : oe.dict = d) (hf : oe.data = .fields vs) :
    Inv X pins σ (upd H a (exK a cls d false)) s' := by
  have ne : ∀ {b : Addr} {o : Obj}, sI.heap.get? b = some o → b ≠ a := fun {b o} e z => by
    rw [z, nI] at e
    cases e
  have nf : ∀ b ∈ frs X.stack, ∀ o, sI.heap.get? b = some o → ∃ sl, s'.heap.get? b = some { o with slots := sl } := fun b hb o e => by
    obtain ⟨_, o', e', hx⟩ := I.stack.mem hb
    rw [e] at e'
    cases e'
    exact up b o e hx
  have hok : HOk X.prog X.w (upd H a (exK a cls d false)) s'.heap := fun b u e => by
    by_cases hb : b = a
    · subst hb
      rw [upd_same] at e
      cases e
      exact exK_ok he hc hd hf fun z => nomatch z
    · rw [upd_ne hb] at e
      exact ((I.inGround nb) b u e).stay (fun c v _ q => st c v q) (fun c q => by rw [upd_ne (ne_of_none q na)]; exact q) fun c xs q => by rw [upd_ne (ne_of_none q na)]; exact q
  have J := I.call (ch := []) (h' := s'.heap) (g' := s'.gens) (t' := s'.toks) (d' := s'.drawn) (H' := upd H a (exK a cls d false))
    ⟨fun b o e _ hb _ => st b o (nb b o e hb), fun b o e _ hb _ => nf b hb o e, fun b o e n _ => by rw [upd_ne (ne e)]; exact n, fun b o e _ => by
      by_cases hb : b ∈ frs X.stack
      · obtain ⟨sl, q⟩ := nf b hb o e
        exact ⟨_, q⟩
      · exact ⟨o, st b o (nb b o e hb)⟩, fun b xs e => by rw [upd_ne (ne_of_none e na)]; exact e, fun b o v e => by rw [upd_ne (ne_of_none e na)]; exact e, fun b ps e => ⟨#[], by rw [upd_ne (ne_of_none e na), e]; simp⟩⟩
    hok ag (fun _ z => nomatch z)
  obtain ⟨a1, a2, a3, a4, a5⟩ := s'
  have e5 : a5 = sI.os := os
  subst e5
  exact J
/-- into the suite, nothing pinned -/
theorem suiteK {X : Cx} {pins : List (Addr × Obj)} {σ : L2.St} {H : Hp} {s : Shared} (I : Inv X pins σ H s) (a : Addr) : Inv (X.suite a (X.pn ++ pins)) [] σ H s :=
  ⟨I.ok.suite _ _, I.os, I.bare, I.base, I.loc, I.cell, I.free, I.freeC, fun p hp => I.pin p (by rw [List.append_nil] at hp; exact hp), I.hok, I.len⟩
theorem unsuiteK {X : Cx} {pins pn' : List (Addr × Obj)} {σ : L2.St} {H : Hp} {s : Shared} {a : Addr} (I : Inv (X.suite a (X.pn ++ pins)) pn' σ H s) (ok : X.Ok) : Inv X pins σ H s :=
  ⟨ok, I.os, I.bare, I.base, I.loc, I.cell, I.free, I.freeC, fun p hp => I.pin p (List.mem_append_left _ hp), I.hok, I.len⟩
/-- what the clause wishes of the body's error: slot i is the clause's name -/
def wAsK (K : PySem.W.Frag) (c : Value) (i : Nat) (ts : TS) (Wout : WX) (D : Ends) : WX := fun cls d σ H => ∃ b, PySem.W.exmOne K cls c = some b ∧
  (b = true → ∀ a H2, H a = none → Same H H2 → H2 a = some (exK a cls d false) → ts { nx := fun σ' H' => D.nx (σ'.set i none) H', rt := D.rt, bk := fun σ' H' => D.bk (σ'.set i none) H', ct := fun σ' H' => D.ct (σ'.set i none) H' } (σ.set i (some (.ref a))) H2) ∧ (b = false → Wout cls d σ H)
theorem takes_none {X : Cx} : Takes X (fun _ _ _ _ => False) := fun u s' x => by
  obtain ⟨a, B, sI, pins, σ, H, cls, d, e, I, nb, up, sky, na, os, ag, w⟩ := x
  exact False.elim w
theorem passF {X : Cx} : Passes (L2.CX X.prog X.w) X (fun _ _ _ => False) := fun pins σ H s e s' I c => by
  obtain ⟨a, B, H', cls, d, _, _, _, _, _, _, _, z⟩ := c
  exact False.elim z
section
variable {X : Cx} {x n : Str} {c : Value} {i : Nat} {body suite : List Stmt} {b₀ : Stmt} {np pos pos' : Pos} {tb : WX → TS} {ts : TS} {Wout : WX}
theorem ps_try_asK (hs : X.stack = X.env :: X.outer) (hf : X.env.frame = some X.env.locals) (hN : X.N.Nodup) (hi : X.N[i]? = some n) (hln : X.env.kindOf n = some .local) (hc : Names X x c) (tk : Takes X Wout)
    (hb : ∀ (W : WX) (pn : List (Addr × Obj)) (xe : Value → Shared → Prop), Takes (X.tr pn xe) W → PassesOwn (model X.prog X.w) X.A X.env xe → PSs (X.tr pn xe) body (tb W))
    (hsu : ∀ (a : Addr) (pn : List (Addr × Obj)), PSs (X.suite a pn) (b₀ :: suite) ts) :
    PS X (.Try body [.ExceptHandler (some (.Name x np)) (some n) (b₀ :: suite) pos'] [] [] pos) (fun D σ H => tb (wAsK X.K c i ts Wout D) D σ H) := by
  refine ⟨fun pins s σ H D I h => ?_⟩
  have ok := I.ok
  have frE : X.A.frames = some (X.env :: X.outer) := ok.frames.trans (congrArg some hs)
  have lcl : Loc X.env.scope n := .inl hln
  refine wpAny_Try_except (wpAny_mono ((hb (wAsK X.K c i ts Wout D) (X.pn ++ pins) (fun e s₁ => wpAny (model X.prog X.w) X.A (noteFrame e X.env) (fun _ s₂ => wpAny (model X.prog X.w) X.A (setFlight e none) (fun _ s₃ =>
    wpAny (model X.prog X.w) X.A (handleBy e X.env [.ExceptHandler (some (.Name x np)) (some n) (b₀ :: suite) pos']) (SP X pins D) X.xe s₃) X.xe s₂) X.xe s₁) (fun u s' xx => ?_) PassesOwn.looking).run [] s σ H D (I.toTry _) h) (fun f s1 hsp => ?_) (fun e s1 he => he))
  · obtain ⟨a, B, sI, pins', σ', H', cls, d, rfl, J', nb, up, sky, na, os, ag, b, hb1, hyes, hno⟩ := xx
    have J : Inv X pins σ' H' sI := J'.ofTry ok
    have skyE : Sky B (X.env :: X.outer) a (Zc cls d) X.env.locals s'.heap := hs ▸ sky
    show wpAny (model X.prog X.w) X.A (noteFrame (.ref a) X.env) _ _ _
    refine Sky.land Zc.steady frE hf skyE fun h3 fl3 up3 => ?_
    have J3 : Inv X pins σ' H' { s' with heap := h3 } := J.landed nb fl3.1 (up.trans up3) os ag
    obtain ⟨oe3, vs3, he3, hz3, hd3⟩ := fl3.there
    have apart : a ∉ frs (X.env :: X.outer) := fun hm => by
      obtain ⟨_, o', e', hx⟩ := fl3.2.2.1.mem hm
      rw [he3] at e'
      cases e'
      exact hx _ hd3
    have nL : a ≠ X.env.locals := fun z => apart (List.mem_filterMap.mpr ⟨X.env, List.mem_cons_self, by rw [hf, z]⟩)
    have nF : a ∉ X.fs := fun hm => by
      obtain ⟨e, he, q⟩ := List.mem_filterMap.mp hm
      exact apart (List.mem_filterMap.mpr ⟨e, List.mem_cons_of_mem _ he, q⟩)
    have nI : sI.heap.get? a = none := by
      cases e : sI.heap.get? a with
      | none => rfl
      | some o =>
        have z := nb a o e (by rw [hs]; exact apart)
        rw [fl3.2.1] at z
        cases z
    have S3 := J3.suite he3 hd3 na nL nF
    refine wpAny_handleBy_cons (codeAny_handlers_test ?_) (by intro q; cases q)
    have LT : PySem.W.Looks (model X.prog X.w) h3 (typeOf (.ref a)) cls := fun A Q E s k q => wpAny_typeOf_ref (k _ _ he3) (by rw [hz3.1]; exact q)
    have LM := PySem.W.exm_one (M := model X.prog X.w) (J3.kIn) LT hb1
    have clause : ∀ {Q : Value → Shared → Prop} {E : Value → Shared → Prop}, Q c { s' with heap := h3 } → wpAny (model X.prog X.w) (X.A.mark (some (.ref a))) (eval (.Name x np) X.env) Q E { s' with heap := h3 } := fun {Q E} q => by
      obtain ⟨hg, hdbg, hm | ⟨hm, hv, hnn⟩⟩ := hc
      · exact ld_glob (X := X.suite a ((a, oe3) :: (X.pn ++ pins))) S3 hg hm q hdbg
      · exact ld_blt (X := X.suite a ((a, oe3) :: (X.pn ++ pins))) S3 hg hm hv q hnn hdbg
    refine clause (LM.here ?_)
    cases b with
    | true =>
      refine codeAny_handlers_suite_as (HandSPX.lands_againZ fl3 fun h4 fl4 up4 => ?_)
      obtain ⟨oe4, vs4, he4, hz4, hd4⟩ := fl4.there
      have J4 := landedK J nb (s' := { s' with heap := h4 }) fl4.1 ((up.trans up3).trans up4) os ag na nI he4 hz4.1 hz4.2 hd4
      have S4 := suiteK J4 a
      refine store_ok (X := X.suite a (X.pn ++ pins)) (v := .ref a) S4 hN hi lcl rfl (fun s5 S5 => ?_) (.inr hln)
      refine wpAny_mono ((hsu a (X.pn ++ pins)).run [] s5 _ _ _ S5 (hyes rfl a _ na (Same.new na) upd_same)) (fun f s6 hsp => ?_) (fun _ _ z => False.elim z)
      have fin : ∀ {σ6 : L2.St} {H6 : Hp} {Q : Shared → Prop}, Inv (X.suite a (X.pn ++ pins)) [] σ6 H6 s6 → (∀ s7, Inv X pins (σ6.set i none) H6 s7 → Q s7) →
          wpAny (model X.prog X.w) X.A (do bindName X.env n .none; unbindBehindTheSuite X.env n pos') (fun _ s7 => Q s7) X.xe s6 := fun {σ6 H6 Q} S6 hq => gone_ok (unsuiteK S6 ok) hN hi hln hq
      cases f with
      | ret u =>
        obtain ⟨v6, σ6, H6, S6, r6, q6⟩ := hsp
        exact fin S6 fun s7 J7 => ⟨_, _, _, J7, r6, q6⟩
      | next | brk | cont =>
        obtain ⟨σ6, H6, S6, q6⟩ := hsp
        exact fin S6 fun s7 J7 => ⟨_, _, J7, q6⟩
    | false =>
      show wpAny _ X.A (handleBy (.ref a) X.env []) _ _ _
      refine wpAny_handleBy_nil ?_
      obtain ⟨k1, k2, k3, oe, vs, T, oT, ts', he, hz, hd, h1, hr⟩ := id fl3
      unfold PySem.passOn
      refine wpAny_bind (wpAny_field he hd h1 ?_)
      rw [if_neg (show ¬ ((Value.ref T == Value.none) = true) from by simp)]
      have on : wpAny (model X.prog X.w) X.A (setFlight (.ref a) X.env.frame) (fun _ s4 => wpAny (model X.prog X.w) X.A (throw (.ref a) : Sem Flow) (SP X pins D) X.xe s4) X.xe { s' with heap := h3 } := by
        rw [hf]
        exact HandSPX.setFlight_upZ fl3 fun h4 hh4 up4 => wpAny_throw (tk _ _ ⟨a, B, sI, pins, σ', H', cls, d, rfl, J, nb, (up.trans up3).trans up4, .inr (.inr (by rw [hs]; exact hh4)), na, os, ag, hno rfl⟩)
      first
        | exact wpAny_bind (wpAny_pure (wpAny_bind on))
        | exact wpAny_bind on
  · cases f with
    | next =>
      obtain ⟨σ', H', J', q⟩ := hsp
      exact wpAny_execs_nil ⟨σ', H', J'.ofTry ok, q⟩
    | ret u =>
      obtain ⟨v, σ', H', J', r, q⟩ := hsp
      exact ⟨v, σ', H', J'.ofTry ok, r, q⟩
    | brk | cont =>
      obtain ⟨σ', H', J', q⟩ := hsp
      exact ⟨σ', H', J'.ofTry ok, q⟩
end
/-! ### raise C(..) -/
/-- an own class without own __init__ -/
def tRaN (C : Addr) (ta tk : TA) : L2.St → Hp → XK → Prop := fun σ H E => ta σ H fun xs H1 => tk σ H1 fun zs H2 => zs = [] ∧ xs.length ≤ 1000 ∧ E (.ref C) none H2
/-- .. with its own: behind it all that stood stands, its fields at d -/
def tRaO (C : Addr) (n : Nat) (ks : List Str) (names : List Str) (gV : List V → List V → List V) (ta tk : TA) : L2.St → Hp → XK → Prop := fun σ H E => ta σ H fun xs H1 => tk σ H1 fun zs H2 => xs.length = n ∧ zs.length = ks.length ∧ ∃ ws, (∀ a, gV (.ref a :: xs) zs = .ref a :: ws) ∧ ws.length = names.length ∧
  ∀ d H', Same H2 H' → H' d = some (.xd (names.zip ws).reverse) → E (.ref C) (some d) H'
section
variable {X : Cx} {CX : CXT} {C fI : Addr} {k n : Nat} {fd : FuncData} {ps ks names : List Str} {g : List Value → List Value → List Value} {gV : List V → List V → List V} {x : Str} {p pos : Pos} {e : Expr} {es : List Expr} {kws : List Keyword} {t tk : TA}
def CallMk (X : Cx) (f : Value) (ks : List Str) (r : List V → List V → Hp → XK → Prop) : Prop :=
  ∀ (pins : List (Addr × Obj)) (s : Shared) (σ : L2.St) (H : Hp) (xs : List V) (us : List Value) (zs : List V) (ws : List Value) (Q : XK), Inv X pins σ H s → Vals xs us → Vals zs ws → r xs zs H Q →
    wpAny (model X.prog X.w) X.A (call f us (ks.zip ws)) (MkP X pins σ Q) X.xe s
theorem pmk_gk {f : Value} {r : List V → List V → Hp → XK → Prop} (c : CallMk X f ks r) (hg : Gl X x) (hm : X.mg x = some f) (hk : PySem.W.keepIn X.K f = true) (ha : PA X (e :: es) t) (hkw : PK X kws tk)
    (hall : (backToKw pos (keywordEach kws X.env)).all (·.1.isSome) = true := by rfl) (hks : (backToKw pos (keywordEach kws X.env)).filterMap (·.1) = ks := by rfl) (hdb : (x == ("__debug__" : Str)) = false := by decide)
    (he : starEach (e :: es) X.env = (false, eval e X.env) :: starEach es X.env := by rfl) (hpl : ((backTo pos (starEach (e :: es) X.env)).any (·.1) || (backToKw pos (keywordEach kws X.env)).any (·.1.isNone)) = false := by rfl) :
    PMk X (.Call (.Name x p) (e :: es) kws pos) (fun σ H Q => t σ H fun xs H1 => tk σ H1 fun zs H2 => r xs zs H2 Q) := by
  intro pins s σ H Q I h
  refine wpAny_Call_Name_kw (ld_glob I hg hm ?_ hdb)
  refine PySem.W.callWith_KW (h₀ := X.base) I.ok.mod.kin hk hall (thn (ha.run pos pins s σ H _ I h) fun us s1 hz => ?_) hpl he
  obtain ⟨vs, H1, I1, r1, q⟩ := hz
  refine thn (hkw.run pos pins s1 σ H1 _ I1 q) fun ws s2 hz => ?_
  obtain ⟨zs, H2, I2, rz, q2⟩ := hz
  refine ⟨I2.kIn, ?_⟩
  rw [hks]
  exact c pins s2 σ H2 vs us zs ws Q I2 r1 rz q2
theorem pmk_gk0 {f : Value} {r : List V → List V → Hp → XK → Prop} (c : CallMk X f ks r) (hg : Gl X x) (hm : X.mg x = some f) (hk : PySem.W.keepIn X.K f = true) (hkw : PK X kws tk)
    (hall : (backToKw pos (keywordEach kws X.env)).all (·.1.isSome) = true := by rfl) (hks : (backToKw pos (keywordEach kws X.env)).filterMap (·.1) = ks := by rfl) (hdb : (x == ("__debug__" : Str)) = false := by decide)
    (hpl : ((backTo pos (starEach [] X.env)).any (·.1) || (backToKw pos (keywordEach kws X.env)).any (·.1.isNone)) = false := by rfl) :
    PMk X (.Call (.Name x p) [] kws pos) (fun σ H Q => tNil σ H fun xs H1 => tk σ H1 fun zs H2 => r xs zs H2 Q) := by
  intro pins s σ H Q I h
  refine wpAny_Call_Name_kw (ld_glob I hg hm ?_ hdb)
  refine PySem.W.callWith_KW0 (h₀ := X.base) I.ok.mod.kin hk hall (thn (hkw.run pos pins s σ H _ I h) fun ws s2 hz => ?_) hpl
  obtain ⟨zs, H2, I2, rz, q2⟩ := hz
  refine ⟨I2.kIn, ?_⟩
  rw [hks]
  exact c pins s2 σ H2 [] [] zs ws Q I2 .nil rz q2
structure rRaN (C : Addr) (xs zs : List V) (H : Hp) (E : XK) : Prop where
  out : zs = [] ∧ xs.length ≤ 1000 ∧ E (.ref C) none H
theorem cm_N {bmB : List Value} {B newId initId : String} (F : ExcBaseFacts B newId initId bmB) (q : PySem.W.excIn X.K C bmB newId = true) (r : Raises X (.ref C)) : CallMk X (.ref C) [] (rRaN C) := by
  intro pins s σ H xs us zs ws Q I r1 rz h
  obtain ⟨rfl, hl, q1⟩ := h.out
  obtain ⟨bm, N, nm, qn, bs, hdct, sn, sub, ab, col, dd, k0, k1, k2, k3, k5, mN, hC, hN, hni, T⟩ := exc_obj I.kIn q
  show wpAny _ _ (call (.ref C) us) _ _ _
  have hus : us.length ≤ sizeLine := by
    rw [← Paired.length r1, sizeLine_eq]
    omega
  exact wpAny_call_exc_subT F T hC hN hni (fun h' a hm => mk_of I hm r q1 (I.hok.gone hm.new)) hus
structure rRaO (C : Addr) (n : Nat) (ks names : List Str) (gV : List V → List V → List V) (xs zs : List V) (H : Hp) (E : XK) : Prop where
  out : xs.length = n ∧ zs.length = ks.length ∧ ∃ ws, (∀ a, gV (.ref a :: xs) zs = .ref a :: ws) ∧ ws.length = names.length ∧ ∀ d H', Same H H' → H' d = some (.xd (names.zip ws).reverse) → E (.ref C) (some d) H'
theorem cm_O (T : OexC X.K C) (iC : PySem.W.findIn X.K (.ref C) "__init__" = some (some (.ref fI))) (tI : PySem.W.typeIn X.K (.ref fI) = some (.type "function"))
    (F1 : FnOk X.prog X.w X.K X.mg X.base CX k fI fd ps (spInit C names)) (hr : Room (k + 1) X.A) (hb : KBn X.K fd ps (n + 1) ks g gV) (hx : Passes CX X (fun _ _ _ => False)) (hl : n ≤ 1000 := by decide) : CallMk X (.ref C) ks (rRaO C n ks names gV) := by
  intro pins s σ H xs us zs ws Q I r rz h
  obtain ⟨hn, hz, vs, hg, hw, hq⟩ := h.out
  refine mk_core (Qi := fun a v H2 => v = .non ∧ ∃ d : Addr, H d = none ∧ d ≠ a ∧ H2 a = some (exo a C (some d)) ∧ H2 d = some (exd d (names.zip vs).reverse) ∧ ∀ b, b ≠ a → b ≠ d → H2 b = H b) T iC tI F1 hr hb hx I r rz hn hz hl (fun a ha => ⟨a, vs, hg a, hw, upd_same, fun dx H' hdx nda e1 e2 ho => ?_⟩) fun s2 u os2 k2 I2 s' hc => ?_
  · have hdx' : H dx = none := by rw [← upd_ne (H := H) (o := exo a C none) nda]; exact hdx
    exact ⟨rfl, dx, hdx', nda, e1, e2, fun b n1 n2 => by rw [ho b n1 n2, upd_ne n1]⟩
  · obtain ⟨v, H2, os3, bare, un, hok, rv, ev, d, hd1, nda, ea, ed, ho⟩ := hc
    subst ev
    refine ⟨rv, ?_⟩
    obtain ⟨hp, gs, dr, tk, os⟩ := s
    obtain ⟨hp2, g2, dr2, tk2, o2⟩ := s2
    obtain ⟨h2, g3, dr3, tk3, o3⟩ := s'
    have o3e : o3 = os := os3.trans os2
    refine mk_end (raises_own T.exC T.tyC) I (Nat.le_succ _) k2 un hok o3e bare ea ed hd1 (hq d _ (fun b w hb => ?_) upd_same)
    have nb1 : b ≠ hp.objs.size + 1 := ne_of_none hb (I.hok.fresh (Nat.le_succ _))
    have nb2 : b ≠ d := ne_of_none hb hd1
    rw [upd_ne nb2, del_ne nb1, ho b nb1 nb2]
    exact hb
end
end LK

set_option Elab.async false
set_option linter.all false
set_option maxRecDepth 100000
set_option maxHeartbeats 4000000
/-! the words of a text: plain functions of lists of codes -/
namespace WD
open PySem LK
def codes (s : String) : List Nat := s.toList.map Char.toNat
def lets : List Nat := [97, 98, 99, 100, 101, 102, 103, 104, 105, 106, 107, 108, 109, 110, 111, 112, 113, 114, 115, 116, 117, 118, 119, 120, 121, 122]
def figs : List Nat := [48, 49, 50, 51, 52, 53, 54, 55, 56, 57]
def sings : List Nat := [43, 45, 42, 47, 126, 60, 62, 33, 63, 58, 46, 44, 61, 40, 41, 123, 125, 91, 93, 59]
def dbls : List (List Nat) := [[60, 61], [62, 61], [61, 61], [33, 61], [38, 38], [124, 124]]
def kept : List (List Nat) := ["let", "if", "else", "while", "return", "fail", "try", "catch", "out", "fn"].map codes
/-- how many signs of s stand ahead -/
def runL (s : List Nat) : List Nat → Nat
  | [] => 0
  | c :: r => if c ∈ s then runL s r + 1 else 0
theorem runL_le (s : List Nat) : ∀ r, runL s r ≤ r.length
  | [] => Nat.le_refl _
  | c :: r => by
    have := runL_le s r
    unfold runL
    split
    · rw [List.length_cons]; omega
    · omega
theorem runL_take (s : List Nat) : ∀ (r : List Nat), ∀ c ∈ r.take (runL s r), c ∈ s
  | [], c, h => by cases h
  | a :: r, c, h => by
    unfold runL at h
    split at h
    · rename_i ha
      rw [List.take_succ_cons, List.mem_cons] at h
      rcases h with rfl | h
      · exact ha
      · exact runL_take s r c h
    · rw [List.take_zero] at h
      cases h
theorem runL_pos {s : List Nat} {c : Nat} {r : List Nat} (h : c ∈ s) : 0 < runL s (c :: r) := by
  unfold runL
  rw [if_pos h]
  omega
/-- a letter or a figure stands ahead -/
def byB : List Nat → Bool
  | [] => false
  | c :: _ => decide (c ∈ lets ++ figs)
/-- the figures behind an e -/
def noughts (r : List Nat) : List Nat := match r with
  | 101 :: t => match t.take (min 2 (runL figs t)) with
    | [] => []
    | 48 :: _ => []
    | f => f
  | _ => []
theorem nou_le (r : List Nat) : (noughts r).length ≤ 2 := by
  unfold noughts
  split
  · rename_i t
    have h : (t.take (min 2 (runL figs t))).length ≤ 2 := by rw [List.length_take]; omega
    split
    · exact Nat.zero_le _
    · exact Nat.zero_le _
    · exact h
  · exact Nat.zero_le _
/-- what a figure text is worth -/
def val (w : List Nat) : Nat := w.foldl (fun a d => 10 * a + (d - 48)) 0
theorem int_one : ∀ a ∈ figs, intText? (toS [a]) = some ((val [a] : Nat) : Int) := by decide +kernel
theorem int_two : ∀ a ∈ figs, ∀ b ∈ figs, intText? (toS [a, b]) = some ((val [a, b] : Nat) : Int) := by decide +kernel
theorem int_val {w : List Nat} (h : ∀ c ∈ w, c ∈ figs) (h1 : w ≠ []) (h2 : w.length ≤ 2) : intText? (toS w) = some ((val w : Nat) : Int) := by
  match w, h1, h2 with
  | [a], _, _ => exact int_one a (h a (by simp))
  | [a, b], _, _ => exact int_two a (h a (by simp)) b (h b (by simp))
  | _ :: _ :: _ :: _, _, h2 => simp at h2
theorem nou_figs (r : List Nat) : ∀ c ∈ noughts r, c ∈ figs := by
  unfold noughts
  split
  · rename_i t
    have h : ∀ c ∈ t.take (min 2 (runL figs t)), c ∈ figs := fun c hc => runL_take figs t c (by
      have e : t.take (min 2 (runL figs t)) = (t.take (runL figs t)).take 2 := by rw [List.take_take]
      rw [e] at hc
      exact List.mem_of_mem_take hc)
    split
    · intro c hc; cases hc
    · intro c hc; cases hc
    · exact h
  · intro c hc; cases hc
/-- many figures, and how long: of a number that begins at r -/
def numb (r : List Nat) : Nat × Nat := match r with
  | 48 :: _ => (1, 1)
  | _ => let n := runL figs r
         let w := noughts (r.drop n)
         if w = [] then (n, n) else (n + val w, n + 1 + w.length)
/-- the word that begins at r: its sort and how long it is -/
def wordAt (r : List Nat) : Option (Str × Nat) := match r with
  | [] => none
  | c :: t =>
    if c ∈ lets then
      let n := runL lets r
      if 12 < n ∨ byB (r.drop n) = true then none else some (if r.take n ∈ kept then "kept" else "name", n)
    else if c ∈ figs then
      let m := numb r
      if 18 < m.1 ∨ byB (r.drop m.2) = true then none else some ("number", m.2)
    else if r.take 2 ∈ dbls then some ("sign", 2)
    else if c ∈ sings then some ("sign", 1)
    else none
theorem noughts_len {n : Nat} (r : List Nat) (h : noughts (r.drop n) ≠ []) : n + 1 + (noughts (r.drop n)).length ≤ r.length := by
  unfold noughts at h ⊢
  split
  · rename_i t e
    have hl : t.length + 1 = (r.drop n).length := by rw [e]; rfl
    have ht : (t.take (min 2 (runL figs t))).length ≤ t.length := by rw [List.length_take]; omega
    rw [List.length_drop] at hl
    rw [e] at h
    have h' : (match t.take (min 2 (runL figs t)) with
      | [] => []
      | 48 :: _ => []
      | f => f : List Nat) ≠ [] := h
    split
    · rename_i e2; rw [e2] at h'; exact absurd rfl h'
    · rename_i e2; rw [e2] at h'; exact absurd rfl h'
    · omega
  · rename_i e
    split at h
    · rename_i t e2
      exact absurd e2 (e t)
    · exact absurd rfl h
theorem numb_le (r : List Nat) : (numb r).2 ≤ r.length := by
  unfold numb
  split
  · rw [List.length_cons]; omega
  · dsimp only
    split
    · exact runL_le figs r
    · rename_i h
      exact noughts_len r h
theorem numb_pos {c : Nat} {t : List Nat} (h : c ∈ figs) : 0 < (numb (c :: t)).2 := by
  unfold numb
  split
  · exact Nat.one_pos
  · dsimp only
    have := runL_pos (r := t) h
    split
    · exact this
    · omega
theorem word_len {r : List Nat} {s : Str} {n : Nat} (h : wordAt r = some (s, n)) : 0 < n ∧ n ≤ r.length := by
  unfold wordAt at h
  split at h
  · cases h
  · rename_i c t
    split at h
    · rename_i hc
      dsimp only at h
      split at h
      · cases h
      · cases h
        exact ⟨runL_pos hc, runL_le _ _⟩
    · split at h
      · rename_i hc
        dsimp only at h
        split at h
        · cases h
        · cases h
          exact ⟨numb_pos hc, numb_le _⟩
      · split at h
        · rename_i h2
          cases h
          refine ⟨by omega, ?_⟩
          cases t with
          | nil => exact absurd h2 (by have : ∀ w ∈ dbls, w.length = 2 := by decide
                                       exact fun z => by have := this _ z; simp at this)
          | cons d t => simp
        · split at h
          · cases h
            exact ⟨by omega, by simp⟩
          · cases h
/-- a word: sort, codes, place -/
abbrev Wo := Str × List Nat × Nat
/-- the words of a text from a place on, and the place at which none begins -/
def wordsF : Nat → List Nat → Nat → List Wo × Option Nat
  | 0, _, _ => ([], none)
  | _ + 1, [], _ => ([], none)
  | f + 1, c :: t, at_ => if c ∈ [32, 10] then wordsF f t (at_ + 1) else match wordAt (c :: t) with
    | none => ([], some at_)
    | some (s, n) => ((s, (c :: t).take n, at_) :: (wordsF f ((c :: t).drop n) (at_ + n)).1, (wordsF f ((c :: t).drop n) (at_ + n)).2)
theorem wordsF_more : ∀ (f : Nat) (r : List Nat) (a : Nat) (g : Nat), r.length ≤ f → r.length ≤ g → wordsF f r a = wordsF g r a
  | 0, r, a, g, h1, h2 => by
    have : r = [] := List.eq_nil_of_length_eq_zero (by omega)
    subst this
    cases g <;> rfl
  | f + 1, [], a, g, h1, h2 => by cases g <;> rfl
  | f + 1, c :: t, a, 0, h1, h2 => by simp at h2
  | f + 1, c :: t, a, g + 1, h1, h2 => by
    rw [List.length_cons] at h1 h2
    unfold wordsF
    split
    · exact wordsF_more f t (a + 1) g (by omega) (by omega)
    · split
      · rfl
      · rename_i s n e
        have hn := word_len e
        rw [List.length_cons] at hn
        have hl : ((c :: t).drop n).length = t.length + 1 - n := by rw [List.length_drop, List.length_cons]
        rw [wordsF_more f ((c :: t).drop n) (a + n) g (by omega) (by omega)]
def words (cs : List Nat) : List Wo × Option Nat := wordsF cs.length cs 0
/-- from the place a on -/
def wordsAt (cs : List Nat) (a : Nat) : List Wo × Option Nat := wordsF cs.length (cs.drop a) a
theorem wordsAt_end {cs : List Nat} {a : Nat} (h : cs.length ≤ a) : wordsAt cs a = ([], none) := by
  unfold wordsAt
  rw [List.drop_eq_nil_of_le h]
  cases cs.length <;> rfl
theorem wordsAt_blank {cs t : List Nat} {a c : Nat} (e : cs.drop a = c :: t) (h : c ∈ [32, 10]) : wordsAt cs a = wordsAt cs (a + 1) := by
  have hl : cs.length = (cs.length - 1) + 1 := by
    have := congrArg List.length e
    rw [List.length_drop, List.length_cons] at this
    omega
  have e2 : cs.drop (a + 1) = t := by rw [← List.drop_drop, e]; rfl
  have ht : t.length ≤ cs.length - 1 := by
    have := congrArg List.length e
    rw [List.length_drop, List.length_cons] at this
    omega
  unfold wordsAt
  rw [e, e2, hl]
  show (if c ∈ [32, 10] then _ else _) = _
  rw [if_pos h]
  exact wordsF_more _ _ _ _ ht (by omega)
theorem wordsAt_bad {cs t : List Nat} {a c : Nat} (e : cs.drop a = c :: t) (h : c ∉ [32, 10]) (hw : wordAt (c :: t) = none) : wordsAt cs a = ([], some a) := by
  have hl : cs.length = (cs.length - 1) + 1 := by
    have := congrArg List.length e
    rw [List.length_drop, List.length_cons] at this
    omega
  unfold wordsAt
  rw [e, hl]
  unfold wordsF
  rw [if_neg h, hw]
theorem wordsAt_word {cs t : List Nat} {a c : Nat} {s : Str} {n : Nat} (e : cs.drop a = c :: t) (h : c ∉ [32, 10]) (hw : wordAt (c :: t) = some (s, n)) :
    wordsAt cs a = ((s, (c :: t).take n, a) :: (wordsAt cs (a + n)).1, (wordsAt cs (a + n)).2) := by
  have hn := word_len hw
  have hcl := congrArg List.length e
  rw [List.length_drop, List.length_cons] at hcl
  rw [List.length_cons] at hn
  have hl : cs.length = (cs.length - 1) + 1 := by omega
  have e2 : cs.drop (a + n) = (c :: t).drop n := by rw [← List.drop_drop, e]
  have ht : ((c :: t).drop n).length = t.length + 1 - n := by rw [List.length_drop, List.length_cons]
  have k : wordsF (cs.length - 1) ((c :: t).drop n) (a + n) = wordsAt cs (a + n) := by
    unfold wordsAt
    rw [e2]
    exact wordsF_more _ _ _ _ (by omega) (by omega)
  have step : wordsF (cs.length - 1 + 1) (c :: t) a = ((s, (c :: t).take n, a) :: (wordsF (cs.length - 1) ((c :: t).drop n) (a + n)).1, (wordsF (cs.length - 1) ((c :: t).drop n) (a + n)).2) := by
    conv => lhs; unfold wordsF
    rw [if_neg h, hw]
  show wordsF cs.length (cs.drop a) a = _
  rw [e, show wordsF cs.length (c :: t) a = wordsF (cs.length - 1 + 1) (c :: t) a by rw [← hl], step, k]
end WD
namespace WD
open PySem PySem.Spec PyProof.Rows L2 LK
theorem lets_lit : ("abcdefghijklmnopqrstuvwxyz" : Str) = toS lets := by decide +kernel
theorem figs_lit : ("0123456789" : Str) = toS figs := by decide +kernel
theorem sings_lit : ("+-*/~<>!?:.,=(){}[];" : Str) = toS sings := by decide +kernel
theorem blank_lit : (" \n" : Str) = toS [32, 10] := by decide +kernel
theorem e_lit : ("e" : Str) = toS [101] := by decide +kernel
theorem n_lit : ("0" : Str) = toS [48] := by decide +kernel
theorem nil_lit : ("" : Str) = toS [] := by decide +kernel
theorem kept_lit : ([.str "let", .str "if", .str "else", .str "while", .str "return", .str "fail", .str "try", .str "catch", .str "out", .str "fn"] : List V) = kept.map fun a => V.str (toS a) := by decide +kernel
theorem dbls_lit : ([.str "<=", .str ">=", .str "==", .str "!=", .str "&&", .str "||"] : List V) = dbls.map fun a => V.str (toS a) := by decide +kernel
theorem noz_lit : ([.str "", .str "0"] : List V) = [[], [48]].map fun a => V.str (toS a) := by decide +kernel
/-- the refusal of a text at a place -/
def errAt (K : PySem.W.Frag) (E : XK) (H : Hp) (a : Nat) : Prop := ∀ d H', Same H H' → H' d = some (.xd [("at", .int a)]) → E (.ref (He.ga K "NoText")) (some d) H'
/-- a word as a tuple -/
def woV (w : Wo) : List V := [.str w.1, .str (toS w.2.1), .int w.2.2]
def woD (w : Wo) : PyData := .tuple [.str w.1, .str (toS w.2.1), .int w.2.2]
inductive Tups (K : PySem.W.Frag) (H : Hp) : List V → List Wo → Prop
  | nil : Tups K H [] []
  | cons {q : Addr} {w : Wo} {vs : List V} {ws : List Wo} (h : SqT K H q (woV w)) (r : Tups K H vs ws) : Tups K H (.ref q :: vs) (w :: ws)
section
variable {K : PySem.W.Frag} {H H2 : Hp}
theorem Tups.app : ∀ {vs : List V} {ws : List Wo} {q : Addr} {w : Wo}, Tups K H vs ws → SqT K H q (woV w) → Tups K H (vs ++ [.ref q]) (ws ++ [w])
  | _, _, _, _, .nil, h => .cons h .nil
  | _, _, _, _, .cons a r, h => .cons a (r.app h)
theorem Tups.same (e : Same H H2) : ∀ {vs : List V} {ws : List Wo}, Tups K H vs ws → Tups K H2 vs ws
  | _, _, .nil => .nil
  | _, _, .cons a r => .cons (Same.seqT e a) (Tups.same e r)
theorem Tups.but {p : Addr} {ys : List V} (b : But p H H2) (hp : H p = some (.lst ys)) : ∀ {vs : List V} {ws : List Wo}, Tups K H vs ws → Tups K H2 vs ws
  | _, _, .nil => .nil
  | _, _, .cons a r => .cons (But.seqT b hp a) (Tups.but b hp r)
theorem Tups.dp : ∀ {vs : List V} {ws : List Wo}, Tups K H vs ws → DpAll K H vs (ws.map woD)
  | _, _, .nil => .nil
  | _, _, .cons a r => .cons (.tup a (.cons (.str _) (.cons (.str _) (.cons (.int _) .nil)))) r.dp
theorem Tups.len : ∀ {vs : List V} {ws : List Wo}, Tups K H vs ws → vs.length = ws.length
  | _, _, .nil => rfl
  | _, _, .cons _ r => congrArg Nat.succ r.len
end
end WD
namespace WD
open PySem PySem.Spec PyProof.Rows L2 LK
def spRunEnd : Sp := fun vs H Q _ => ∃ (cs : List Nat) (a : Nat) (sg : List Nat), vs = [.str (toS cs), .int a, .str (toS sg)] ∧ a ≤ cs.length ∧ cs.length ≤ 100000 ∧ Q (.int ((a + runL sg (cs.drop a) : Nat) : Int)) H
def spStandsBy : Sp := fun vs H Q _ => ∃ (cs : List Nat) (a : Nat), vs = [.str (toS cs), .int a] ∧ cs.length ≤ 100000 ∧ Q (.bl (byB (cs.drop a))) H
def longL (r : List Nat) : Prop := 12 < runL lets r ∨ byB (r.drop (runL lets r)) = true
def spLettersEnd (K : PySem.W.Frag) : Sp := fun vs H Q E => ∃ (cs : List Nat) (a : Nat), vs = [.str (toS cs), .int a] ∧ a < cs.length ∧ cs.length ≤ 100000 ∧ (longL (cs.drop a) → errAt K E H a) ∧ (¬ longL (cs.drop a) → Q (.int ((a + runL lets (cs.drop a) : Nat) : Int)) H)
def spNoughts : Sp := fun vs H Q _ => ∃ (cs : List Nat) (a : Nat), vs = [.str (toS cs), .int a] ∧ cs.length ≤ 100000 ∧ ∀ H', Same H H' → Q (.str (toS (noughts (cs.drop a)))) H'
def longF (r : List Nat) : Prop := 18 < (numb r).1 ∨ byB (r.drop (numb r).2) = true
def spFiguresEnd (K : PySem.W.Frag) : Sp := fun vs H Q E => ∃ (cs : List Nat) (a : Nat), vs = [.str (toS cs), .int a] ∧ a < cs.length ∧ cs.length ≤ 100000 ∧ (longF (cs.drop a) → errAt K E H a) ∧ (¬ longF (cs.drop a) → ∀ H', Same H H' → Q (.int ((a + (numb (cs.drop a)).2 : Nat) : Int)) H')
def spWordAt (K : PySem.W.Frag) : Sp := fun vs H Q E => ∃ (cs : List Nat) (a : Nat), vs = [.str (toS cs), .int a] ∧ a < cs.length ∧ cs.length ≤ 100000 ∧ (wordAt (cs.drop a) = none → errAt K E H a) ∧
  ∀ s n, wordAt (cs.drop a) = some (s, n) → ∀ p H', H p = none → Same H H' → H' p = some (.tup [.str s, .str (toS ((cs.drop a).take n))]) → Q (.ref p) H'
def spWords (K : PySem.W.Frag) : Sp := fun vs H Q E => ∃ cs : List Nat, vs = [.str (toS cs)] ∧ cs.length ≤ 100000 ∧ (∀ a, (words cs).2 = some a → errAt K E H a) ∧
  ((words cs).2 = none → ∀ p H' vs, H p = none → Same H H' → H' p = some (.lst vs) → Tups K H' vs (words cs).1 → Q (.ref p) H')
end WD
namespace WD
open PySem LK
section
variable {c : Nat} {t : List Nat}
theorem wa_cons : wordAt (c :: t) = if c ∈ lets then (if 12 < runL lets (c :: t) ∨ byB ((c :: t).drop (runL lets (c :: t))) = true then none else some (if (c :: t).take (runL lets (c :: t)) ∈ kept then ("kept" : Str) else ("name" : Str), runL lets (c :: t)))
    else if c ∈ figs then (if 18 < (numb (c :: t)).1 ∨ byB ((c :: t).drop (numb (c :: t)).2) = true then none else some (("number" : Str), (numb (c :: t)).2))
    else if (c :: t).take 2 ∈ dbls then some (("sign" : Str), 2) else if c ∈ sings then some (("sign" : Str), 1) else none := rfl
theorem wa_letL (hc : c ∈ lets) (h : longL (c :: t)) : wordAt (c :: t) = none := by rw [wa_cons, if_pos hc]; exact if_pos h
theorem wa_let (hc : c ∈ lets) (h : ¬ longL (c :: t)) : wordAt (c :: t) = some (if (c :: t).take (runL lets (c :: t)) ∈ kept then ("kept" : Str) else ("name" : Str), runL lets (c :: t)) := by rw [wa_cons, if_pos hc]; exact if_neg h
theorem wa_figL (hc : c ∉ lets) (hf : c ∈ figs) (h : longF (c :: t)) : wordAt (c :: t) = none := by rw [wa_cons, if_neg hc, if_pos hf]; exact if_pos h
theorem wa_fig (hc : c ∉ lets) (hf : c ∈ figs) (h : ¬ longF (c :: t)) : wordAt (c :: t) = some (("number" : Str), (numb (c :: t)).2) := by rw [wa_cons, if_neg hc, if_pos hf]; exact if_neg h
theorem wa_dbl (hc : c ∉ lets) (hf : c ∉ figs) (h : (c :: t).take 2 ∈ dbls) : wordAt (c :: t) = some (("sign" : Str), 2) := by rw [wa_cons, if_neg hc, if_neg hf, if_pos h]
theorem wa_sing (hc : c ∉ lets) (hf : c ∉ figs) (h2 : (c :: t).take 2 ∉ dbls) (h : c ∈ sings) : wordAt (c :: t) = some (("sign" : Str), 1) := by rw [wa_cons, if_neg hc, if_neg hf, if_neg h2, if_pos h]
theorem wa_none (hc : c ∉ lets) (hf : c ∉ figs) (h2 : (c :: t).take 2 ∉ dbls) (h : c ∉ sings) : wordAt (c :: t) = none := by rw [wa_cons, if_neg hc, if_neg hf, if_neg h2, if_neg h]
end
end WD
namespace WD
open PySem PySem.Spec PyProof.Rows L2 LK
def nz : List Nat := [49, 50, 51, 52, 53, 54, 55, 56, 57]
theorem nz_lit : ([.str "1", .str "2", .str "3", .str "4", .str "5", .str "6", .str "7", .str "8", .str "9"] : List V) = (nz.map fun c => [c]).map fun a => V.str (toS a) := by decide +kernel
theorem nz_figs : ∀ c ∈ nz, c ∈ figs := by decide
theorem nz_of : ∀ c ∈ figs, c ≠ 48 → c ∈ nz := by decide
theorem nou_two {d d2 : Nat} {t : List Nat} (h : d ∈ nz) (h2 : d2 ∈ figs) : noughts (101 :: d :: d2 :: t) = [d, d2] := by
  have h0 : d ≠ 48 := fun z => by rw [z] at h; exact absurd h (by decide)
  have e : (d :: d2 :: t).take (min 2 (runL figs (d :: d2 :: t))) = [d, d2] := by
    have : runL figs (d :: d2 :: t) = runL figs t + 1 + 1 := by
      show (if _ then (if _ then _ else _) + 1 else _) = _
      rw [if_pos (nz_figs d h), if_pos h2]
    rw [this, show min 2 (runL figs t + 1 + 1) = 2 by omega]
    rfl
  show (match (d :: d2 :: t).take (min 2 (runL figs (d :: d2 :: t))) with
    | [] => []
    | 48 :: _ => []
    | f => f) = _
  rw [e]
  split
  · rename_i z; cases z
  · rename_i z; cases z; exact absurd rfl h0
  · rfl
theorem nou_one {d : Nat} {t : List Nat} (h : d ∈ nz) (h2 : ∀ d2 t2, t = d2 :: t2 → d2 ∉ figs) : noughts (101 :: d :: t) = [d] := by
  have h0 : d ≠ 48 := fun z => by rw [z] at h; exact absurd h (by decide)
  have e : (d :: t).take (min 2 (runL figs (d :: t))) = [d] := by
    have h3 : runL figs t = 0 := by
      cases t with
      | nil => rfl
      | cons d2 t2 =>
        show (if _ then _ else _) = _
        rw [if_neg (h2 d2 t2 rfl)]
    have : runL figs (d :: t) = 1 := by
      show (if _ then _ else _) = _
      rw [if_pos (nz_figs d h), h3]
    rw [this]
    rfl
  show (match (d :: t).take (min 2 (runL figs (d :: t))) with
    | [] => []
    | 48 :: _ => []
    | f => f) = _
  rw [e]
  split
  · rename_i z; cases z
  · rename_i z; cases z; exact absurd rfl h0
  · rfl
theorem nou_none {r : List Nat} (h : ∀ d t, r = 101 :: d :: t → d ∉ nz) : noughts r = [] := by
  unfold noughts
  split
  · rename_i t
    cases t with
    | nil => rfl
    | cons d t =>
      have hd := h d t rfl
      by_cases hf : d ∈ figs
      · have h0 : d = 48 := Classical.byContradiction fun z => hd (nz_of d hf z)
        subst h0
        have : runL figs (48 :: t) = runL figs t + 1 := by
          show (if _ then _ else _) = _
          rw [if_pos hf]
        rw [this]
        obtain ⟨m, hm⟩ : ∃ m, min 2 (runL figs t + 1) = m + 1 := ⟨min 2 (runL figs t + 1) - 1, by omega⟩
        rw [hm]
        rfl
      · have : runL figs (d :: t) = 0 := by
          show (if _ then _ else _) = _
          rw [if_neg hf]
        rw [this]
        rfl
  · rfl
def spNumEnd : Sp := fun vs H Q _ => ∃ (cs : List Nat) (a c : Nat) (t : List Nat), vs = [.str (toS cs), .int a] ∧ cs.drop a = c :: t ∧ c ∈ figs ∧ cs.length ≤ 100000 ∧
  ∀ p H', H p = none → Same H H' → H' p = some (.tup [.int ((a + (numb (c :: t)).2 : Nat) : Int), .int ((numb (c :: t)).1 : Nat)]) → Q (.ref p) H'
def spLawWordAt : Sp := fun vs H Q _ => ∃ (cs : List Nat) (a : Nat), vs = [.str (toS cs), .int a] ∧ a < cs.length ∧ cs.length ≤ 100000 ∧ (wordAt (cs.drop a) = none → ∀ H', Same H H' → Q .non H') ∧
  ∀ s n, wordAt (cs.drop a) = some (s, n) → ∀ p H', H p = none → Same H H' → H' p = some (.tup (woV (s, (cs.drop a).take n, a))) → Q (.ref p) H'
def opt : Option Nat → V
  | none => .non
  | some a => .int a
def spLawWords (K : PySem.W.Frag) : Sp := fun vs H Q _ => ∃ cs : List Nat, vs = [.str (toS cs)] ∧ cs.length ≤ 100000 ∧
  ∀ p q H' vs, Same H H' → SqT K H' p [.ref q, opt (words cs).2] → H q = none → H' q = some (.lst vs) → Tups K H' vs (words cs).1 → Q (.ref p) H'
end WD
namespace WD
open PySem PySem.Spec PyProof.Rows L2 LK
/-- a text of proper codes, not long -/
def Txt (n : Nat) (cs : List Nat) : Prop := (∀ c ∈ cs, c < 1114112) ∧ cs.length ≤ n
theorem Txt.app {n m : Nat} {a b : List Nat} (x : Txt n a) (y : Txt m b) : Txt (n + m) (a ++ b) := by
  refine ⟨fun c hc => ?_, ?_⟩
  · rcases List.mem_append.mp hc with h | h
    · exact x.1 c h
    · exact y.1 c h
  · rw [List.length_append]
    have := x.2
    have := y.2
    omega
theorem Txt.mono {n m : Nat} {a : List Nat} (x : Txt n a) (h : n ≤ m) : Txt m a := ⟨x.1, Nat.le_trans x.2 h⟩
theorem Txt.sub {n : Nat} {a b : List Nat} (x : Txt n a) (h : ∀ c ∈ b, c ∈ a) (l : b.length ≤ a.length) : Txt n b := ⟨fun c hc => x.1 c (h c hc), Nat.le_trans l x.2⟩
theorem Txt.ok {n : Nat} {a : List Nat} (x : Txt n a) : PyData.strOk (toS a) = true := by
  show (toS a).cps.all (fun x => decide (x < 0x110000)) = true
  rw [Array.all_eq_true]
  intro i hi
  refine decide_eq_true (x.1 _ ?_)
  show a.toArray[i] ∈ a
  simp
def txtB (n : Nat) : V → Bool
  | .str z => (z.cps.toList.all fun c => decide (c < 1114112)) && decide (z.cps.toList.length ≤ n)
  | _ => false
theorem txtB_ok {n : Nat} {v : V} (h : txtB n v = true) : ∃ a, v = .str (toS a) ∧ Txt n a := by
  cases v with
  | str z =>
    obtain ⟨h1, h2⟩ := Bool.and_eq_true_iff.mp (show ((z.cps.toList.all fun c => decide (c < 1114112)) && decide (z.cps.toList.length ≤ n)) = true from h)
    exact ⟨z.cps.toList, by rw [← toS_of], fun c hc => of_decide_eq_true (List.all_eq_true.mp h1 c hc), of_decide_eq_true h2⟩
  | _ => cases h
def sorts : List Str := ["kept", "name", "number", "sign"]
theorem word_sort {r : List Nat} {s : Str} {n : Nat} (h : wordAt r = some (s, n)) : s ∈ sorts := by
  cases r with
  | nil => cases h
  | cons c t =>
    rw [wa_cons] at h
    split at h
    · split at h
      · cases h
      · cases h
        split
        · simp [sorts]
        · simp [sorts]
    · split at h
      · split at h
        · cases h
        · cases h
          simp [sorts]
      · split at h
        · cases h
          simp [sorts]
        · split at h
          · cases h
            simp [sorts]
          · cases h
theorem wordsF_of : ∀ (f : Nat) (r : List Nat) (a : Nat), ∀ w ∈ (wordsF f r a).1, w.1 ∈ sorts ∧ w.2.1.length ≤ r.length ∧ ∀ c ∈ w.2.1, c ∈ r
  | 0, r, a, w, h => by cases h
  | f + 1, [], a, w, h => by cases h
  | f + 1, c :: t, a, w, h => by
    unfold wordsF at h
    split at h
    · have z := wordsF_of f t (a + 1) w h
      exact ⟨z.1, Nat.le_succ_of_le z.2.1, fun x hx => List.mem_cons_of_mem _ (z.2.2 x hx)⟩
    · split at h
      · cases h
      · rename_i s n e
        rcases List.mem_cons.mp h with rfl | h
        · exact ⟨word_sort e, by rw [List.length_take]; exact Nat.min_le_right .., fun x hx => List.mem_of_mem_take hx⟩
        · have z := wordsF_of f _ _ w h
          refine ⟨z.1, Nat.le_trans z.2.1 (by rw [List.length_drop]; exact Nat.sub_le ..), fun x hx => List.mem_of_mem_drop (z.2.2 x hx)⟩
theorem sorts_ok : ∀ s ∈ sorts, PyData.strOk s = true := by decide +kernel
theorem lay_words : ∀ ws : List Wo, (∀ w ∈ ws, PyData.strOk w.1 = true ∧ PyData.strOk (toS w.2.1) = true) → PyData.canLayAll0 (ws.map woD) = true ∧ PyData.depthAll (ws.map woD) ≤ 4
  | [], _ => ⟨rfl, Nat.zero_le _⟩
  | w :: ws, h => by
    obtain ⟨h1, h2⟩ := lay_words ws fun x hx => h x (List.mem_cons_of_mem _ hx)
    obtain ⟨h3, h4⟩ := h w (List.mem_cons_self ..)
    rw [List.map_cons]
    constructor
    · show (PyData.canLay0 (woD w) && PyData.canLayAll0 (ws.map woD)) = true
      rw [h1, Bool.and_true]
      simp only [woD, PyData.canLay0, PyData.canLayAll0, h3, h4, Bool.and_true]
    · simp only [woD, PyData.depth, PyData.depthAll] at h2 ⊢
      omega
theorem shaped_words {n : Nat} {cs : List Nat} (x : Txt n cs) : PySem.SeqAt.shaped (.list ((words cs).1.map woD)) = true := by
  obtain ⟨h1, h2⟩ := lay_words (words cs).1 fun w hw => by
    obtain ⟨z1, z2, z3⟩ := wordsF_of cs.length cs 0 w hw
    exact ⟨sorts_ok _ z1, (x.sub z3 z2).ok⟩
  show (PyData.canLay0 (.list ((words cs).1.map woD)) && decide (PyData.depth (.list ((words cs).1.map woD)) ≤ 64)) = true
  have h3 : PyData.depth (.list ((words cs).1.map woD)) ≤ 64 := by
    simp only [PyData.depth]
    omega
  rw [decide_eq_true h3, Bool.and_true]
  simp only [PyData.canLay0]
  exact h1
end WD
namespace WD
open PySem LK
theorem wordsF_len : ∀ (f : Nat) (r : List Nat) (a : Nat), (wordsF f r a).1.length ≤ r.length
  | 0, r, a => Nat.zero_le _
  | f + 1, [], a => Nat.zero_le _
  | f + 1, c :: t, a => by
    unfold wordsF
    split
    · exact Nat.le_succ_of_le (wordsF_len f t (a + 1))
    · split
      · exact Nat.zero_le _
      · rename_i s n e
        have hn := word_len e
        have z := wordsF_len f ((c :: t).drop n) (a + n)
        rw [List.length_drop] at z
        show (wordsF f ((c :: t).drop n) (a + n)).1.length + 1 ≤ _
        omega
theorem words_len (cs : List Nat) : (words cs).1.length ≤ cs.length := wordsF_len _ _ _
end WD

set_option Elab.async false
set_option linter.all false
set_option maxRecDepth 100000
set_option maxHeartbeats 4000000
namespace P01
open PySem L2 LK WD
def top (i : Nat) : Stmt := PySem.Challenge.pw_leanscript_k01_words_of_texts.main.body.getD i (.Pass ⟨0, 0, 0, 0⟩)
abbrev s_NoText_init : Stmt := inClass (top 2) 0
abbrev N_NoText_init : List Str := ["self", "at"]
theorem sc_NoText_init : FnScope N_NoText_init ["self", "at"] (defScope s_NoText_init) := ⟨rfl, rfl, rfl, by decide +kernel, rfl, by decide +kernel, by decide +kernel⟩

abbrev s_NoTree_init : Stmt := inClass (top 3) 0
abbrev N_NoTree_init : List Str := ["self", "path", "why"]
theorem sc_NoTree_init : FnScope N_NoTree_init ["self", "path", "why"] (defScope s_NoTree_init) := ⟨rfl, rfl, rfl, by decide +kernel, rfl, by decide +kernel, by decide +kernel⟩

abbrev s_NoNaming_init : Stmt := inClass (top 5) 0
abbrev N_NoNaming_init : List Str := ["self", "one", "other"]
theorem sc_NoNaming_init : FnScope N_NoNaming_init ["self", "one", "other"] (defScope s_NoNaming_init) := ⟨rfl, rfl, rfl, by decide +kernel, rfl, by decide +kernel, by decide +kernel⟩

abbrev s_run_end : Stmt := top 20
abbrev N_run_end : List Str := ["text", "at", "signs"]
theorem sc_run_end : FnScope N_run_end ["text", "at", "signs"] (defScope s_run_end) := ⟨rfl, rfl, rfl, by decide +kernel, rfl, by decide +kernel, by decide +kernel⟩

abbrev s_stands_by : Stmt := top 21
abbrev N_stands_by : List Str := ["text", "at"]
theorem sc_stands_by : FnScope N_stands_by ["text", "at"] (defScope s_stands_by) := ⟨rfl, rfl, rfl, by decide +kernel, rfl, by decide +kernel, by decide +kernel⟩

abbrev s_letters_end : Stmt := top 22
abbrev N_letters_end : List Str := ["text", "at", "end"]
theorem sc_letters_end : FnScope N_letters_end ["text", "at"] (defScope s_letters_end) := ⟨rfl, rfl, rfl, by decide +kernel, rfl, by decide +kernel, by decide +kernel⟩

abbrev s_noughts_at : Stmt := top 23
abbrev N_noughts_at : List Str := ["text", "at", "figures"]
theorem sc_noughts_at : FnScope N_noughts_at ["text", "at"] (defScope s_noughts_at) := ⟨rfl, rfl, rfl, by decide +kernel, rfl, by decide +kernel, by decide +kernel⟩

abbrev s_figures_end : Stmt := top 24
abbrev N_figures_end : List Str := ["text", "at", "end", "many", "noughts"]
theorem sc_figures_end : FnScope N_figures_end ["text", "at"] (defScope s_figures_end) := ⟨rfl, rfl, rfl, by decide +kernel, rfl, by decide +kernel, by decide +kernel⟩

abbrev s_word_at : Stmt := top 25
abbrev N_word_at : List Str := ["text", "at", "sign", "word"]
theorem sc_word_at : FnScope N_word_at ["text", "at"] (defScope s_word_at) := ⟨rfl, rfl, rfl, by decide +kernel, rfl, by decide +kernel, by decide +kernel⟩

abbrev s_words : Stmt := top 26
abbrev N_words : List Str := ["text", "found", "at", "sort", "word"]
theorem sc_words : FnScope N_words ["text"] (defScope s_words) := ⟨rfl, rfl, rfl, by decide +kernel, rfl, by decide +kernel, by decide +kernel⟩

abbrev s__law_mixed : Stmt := top 28
abbrev N__law_mixed : List Str := ["cell", "k", "mix"]
theorem sc__law_mixed : FnScope N__law_mixed ["cell", "k"] (defScope s__law_mixed) := ⟨rfl, rfl, rfl, by decide +kernel, rfl, by decide +kernel, by decide +kernel⟩

abbrev s__law_cell : Stmt := top 29
abbrev N__law_cell : List Str := ["script", "k", "cell", "found", "j"]
theorem sc__law_cell : FnScope N__law_cell ["script", "k"] (defScope s__law_cell) := ⟨rfl, rfl, rfl, by decide +kernel, rfl, by decide +kernel, by decide +kernel⟩

abbrev s__law_take : Stmt := top 30
abbrev N__law_take : List Str := ["pile", "size", "digit"]
theorem sc__law_take : FnScope N__law_take ["pile", "size"] (defScope s__law_take) := ⟨rfl, rfl, rfl, by decide +kernel, rfl, by decide +kernel, by decide +kernel⟩

abbrev s__law_run_end : Stmt := top 31
abbrev N__law_run_end : List Str := ["text_in", "at", "signs", "end"]
theorem sc__law_run_end : FnScope N__law_run_end ["text_in", "at", "signs"] (defScope s__law_run_end) := ⟨rfl, rfl, rfl, by decide +kernel, rfl, by decide +kernel, by decide +kernel⟩

abbrev s__law_number_end : Stmt := top 32
abbrev N__law_number_end : List Str := ["text_in", "at", "end", "many", "far"]
theorem sc__law_number_end : FnScope N__law_number_end ["text_in", "at"] (defScope s__law_number_end) := ⟨rfl, rfl, rfl, by decide +kernel, rfl, by decide +kernel, by decide +kernel⟩

abbrev s__law_word_at : Stmt := top 33
abbrev N__law_word_at : List Str := ["text_in", "at", "small", "figures", "sort", "end", "many"]
theorem sc__law_word_at : FnScope N__law_word_at ["text_in", "at"] (defScope s__law_word_at) := ⟨rfl, rfl, rfl, by decide +kernel, rfl, by decide +kernel, by decide +kernel⟩

abbrev s__law_words : Stmt := top 34
abbrev N__law_words : List Str := ["text_in", "found", "at", "one"]
theorem sc__law_words : FnScope N__law_words ["text_in"] (defScope s__law_words) := ⟨rfl, rfl, rfl, by decide +kernel, rfl, by decide +kernel, by decide +kernel⟩

abbrev s__law_only : Stmt := top 35
abbrev N__law_only : List Str := ["caught", "name", "names", "some", "one", "here"]
theorem sc__law_only : FnScope N__law_only ["caught", "name"] (defScope s__law_only) := ⟨rfl, rfl, rfl, by decide +kernel, rfl, by decide +kernel, by decide +kernel⟩

abbrev s__law_drawn : Stmt := top 36
abbrev N__law_drawn : List Str := ["pile", "some", "text_in", "k"]
theorem sc__law_drawn : FnScope N__law_drawn ["pile"] (defScope s__law_drawn) := ⟨rfl, rfl, rfl, by decide +kernel, rfl, by decide +kernel, by decide +kernel⟩

abbrev s__law_bent : Stmt := top 37
abbrev N__law_bent : List Str := ["pile", "text_in", "spot", "sign", "way"]
theorem sc__law_bent : FnScope N__law_bent ["pile", "text_in"] (defScope s__law_bent) := ⟨rfl, rfl, rfl, by decide +kernel, rfl, by decide +kernel, by decide +kernel⟩

abbrev s__law_good : Stmt := top 38
abbrev N__law_good : List Str := ["text_in", "got", "caught", "e", "due", "at"]
theorem sc__law_good : FnScope N__law_good ["text_in"] (defScope s__law_good) := ⟨rfl, rfl, rfl, by decide +kernel, rfl, by decide +kernel, by decide +kernel⟩

abbrev s_law : Stmt := top 39
abbrev N_law : List Str := ["script", "k", "pile", "text_in", "turn"]
theorem sc_law : FnScope N_law ["script"] (defScope s_law) := ⟨rfl, rfl, rfl, by decide +kernel, rfl, by decide +kernel, by decide +kernel⟩

structure Env (K : PySem.W.Frag) (mg : Str → Option Value) where
  fd_NoText_init : FuncData
  F_NoText_init : FunD K "__init__" "NoText.__init__" (defArgs s_NoText_init) (defBody s_NoText_init) (defScope s_NoText_init) [.int 0] [] (He.ma K (He.ga K "NoText") "__init__") fd_NoText_init
  fd_run_end : FuncData
  F_run_end : FunD K "run_end" "run_end" (defArgs s_run_end) (defBody s_run_end) (defScope s_run_end) [] [] (He.ga K "run_end") fd_run_end
  m_run_end : mg "run_end" = some (.ref (He.ga K "run_end"))
  b_run_end : Binds K fd_run_end ["text", "at", "signs"] []
  fd_stands_by : FuncData
  F_stands_by : FunD K "stands_by" "stands_by" (defArgs s_stands_by) (defBody s_stands_by) (defScope s_stands_by) [] [] (He.ga K "stands_by") fd_stands_by
  m_stands_by : mg "stands_by" = some (.ref (He.ga K "stands_by"))
  b_stands_by : Binds K fd_stands_by ["text", "at"] []
  fd_letters_end : FuncData
  F_letters_end : FunD K "letters_end" "letters_end" (defArgs s_letters_end) (defBody s_letters_end) (defScope s_letters_end) [] [] (He.ga K "letters_end") fd_letters_end
  m_letters_end : mg "letters_end" = some (.ref (He.ga K "letters_end"))
  b_letters_end : Binds K fd_letters_end ["text", "at"] []
  fd_noughts_at : FuncData
  F_noughts_at : FunD K "noughts_at" "noughts_at" (defArgs s_noughts_at) (defBody s_noughts_at) (defScope s_noughts_at) [] [] (He.ga K "noughts_at") fd_noughts_at
  m_noughts_at : mg "noughts_at" = some (.ref (He.ga K "noughts_at"))
  b_noughts_at : Binds K fd_noughts_at ["text", "at"] []
  fd_figures_end : FuncData
  F_figures_end : FunD K "figures_end" "figures_end" (defArgs s_figures_end) (defBody s_figures_end) (defScope s_figures_end) [] [] (He.ga K "figures_end") fd_figures_end
  m_figures_end : mg "figures_end" = some (.ref (He.ga K "figures_end"))
  b_figures_end : Binds K fd_figures_end ["text", "at"] []
  fd_word_at : FuncData
  F_word_at : FunD K "word_at" "word_at" (defArgs s_word_at) (defBody s_word_at) (defScope s_word_at) [] [] (He.ga K "word_at") fd_word_at
  m_word_at : mg "word_at" = some (.ref (He.ga K "word_at"))
  b_word_at : Binds K fd_word_at ["text", "at"] []
  fd_words : FuncData
  F_words : FunD K "words" "words" (defArgs s_words) (defBody s_words) (defScope s_words) [] [] (He.ga K "words") fd_words
  m_words : mg "words" = some (.ref (He.ga K "words"))
  b_words : Binds K fd_words ["text"] []
  fd__law_mixed : FuncData
  F__law_mixed : FunD K "_law_mixed" "_law_mixed" (defArgs s__law_mixed) (defBody s__law_mixed) (defScope s__law_mixed) [] [] (He.ga K "_law_mixed") fd__law_mixed
  m__law_mixed : mg "_law_mixed" = some (.ref (He.ga K "_law_mixed"))
  b__law_mixed : Binds K fd__law_mixed ["cell", "k"] []
  fd__law_cell : FuncData
  F__law_cell : FunD K "_law_cell" "_law_cell" (defArgs s__law_cell) (defBody s__law_cell) (defScope s__law_cell) [] [] (He.ga K "_law_cell") fd__law_cell
  m__law_cell : mg "_law_cell" = some (.ref (He.ga K "_law_cell"))
  b__law_cell : Binds K fd__law_cell ["script", "k"] []
  fd__law_take : FuncData
  F__law_take : FunD K "_law_take" "_law_take" (defArgs s__law_take) (defBody s__law_take) (defScope s__law_take) [] [] (He.ga K "_law_take") fd__law_take
  m__law_take : mg "_law_take" = some (.ref (He.ga K "_law_take"))
  b__law_take : Binds K fd__law_take ["pile", "size"] []
  fd__law_run_end : FuncData
  F__law_run_end : FunD K "_law_run_end" "_law_run_end" (defArgs s__law_run_end) (defBody s__law_run_end) (defScope s__law_run_end) [] [] (He.ga K "_law_run_end") fd__law_run_end
  m__law_run_end : mg "_law_run_end" = some (.ref (He.ga K "_law_run_end"))
  b__law_run_end : Binds K fd__law_run_end ["text_in", "at", "signs"] []
  fd__law_number_end : FuncData
  F__law_number_end : FunD K "_law_number_end" "_law_number_end" (defArgs s__law_number_end) (defBody s__law_number_end) (defScope s__law_number_end) [] [] (He.ga K "_law_number_end") fd__law_number_end
  m__law_number_end : mg "_law_number_end" = some (.ref (He.ga K "_law_number_end"))
  b__law_number_end : Binds K fd__law_number_end ["text_in", "at"] []
  fd__law_word_at : FuncData
  F__law_word_at : FunD K "_law_word_at" "_law_word_at" (defArgs s__law_word_at) (defBody s__law_word_at) (defScope s__law_word_at) [] [] (He.ga K "_law_word_at") fd__law_word_at
  m__law_word_at : mg "_law_word_at" = some (.ref (He.ga K "_law_word_at"))
  b__law_word_at : Binds K fd__law_word_at ["text_in", "at"] []
  fd__law_words : FuncData
  F__law_words : FunD K "_law_words" "_law_words" (defArgs s__law_words) (defBody s__law_words) (defScope s__law_words) [] [] (He.ga K "_law_words") fd__law_words
  m__law_words : mg "_law_words" = some (.ref (He.ga K "_law_words"))
  b__law_words : Binds K fd__law_words ["text_in"] []
  fd__law_only : FuncData
  F__law_only : FunD K "_law_only" "_law_only" (defArgs s__law_only) (defBody s__law_only) (defScope s__law_only) [] [] (He.ga K "_law_only") fd__law_only
  m__law_only : mg "_law_only" = some (.ref (He.ga K "_law_only"))
  b__law_only : Binds K fd__law_only ["caught", "name"] []
  fd__law_drawn : FuncData
  F__law_drawn : FunD K "_law_drawn" "_law_drawn" (defArgs s__law_drawn) (defBody s__law_drawn) (defScope s__law_drawn) [] [] (He.ga K "_law_drawn") fd__law_drawn
  m__law_drawn : mg "_law_drawn" = some (.ref (He.ga K "_law_drawn"))
  b__law_drawn : Binds K fd__law_drawn ["pile"] []
  fd__law_bent : FuncData
  F__law_bent : FunD K "_law_bent" "_law_bent" (defArgs s__law_bent) (defBody s__law_bent) (defScope s__law_bent) [] [] (He.ga K "_law_bent") fd__law_bent
  m__law_bent : mg "_law_bent" = some (.ref (He.ga K "_law_bent"))
  b__law_bent : Binds K fd__law_bent ["pile", "text_in"] []
  fd__law_good : FuncData
  F__law_good : FunD K "_law_good" "_law_good" (defArgs s__law_good) (defBody s__law_good) (defScope s__law_good) [] [] (He.ga K "_law_good") fd__law_good
  m__law_good : mg "_law_good" = some (.ref (He.ga K "_law_good"))
  b__law_good : Binds K fd__law_good ["text_in"] []
  fd_law : FuncData
  F_law : FunD K "law" "law" (defArgs s_law) (defBody s_law) (defScope s_law) [] [] (He.ga K "law") fd_law
  m_law : mg "law" = some (.ref (He.ga K "law"))
  b_law : Binds K fd_law ["script"] []
  m_LeanError : mg "LeanError" = some (.ref (He.ga K "LeanError"))
  m_NoCount : mg "NoCount" = some (.ref (He.ga K "NoCount"))
  m_NoLetters : mg "NoLetters" = some (.ref (He.ga K "NoLetters"))
  m_NoLine : mg "NoLine" = some (.ref (He.ga K "NoLine"))
  m_NoMap : mg "NoMap" = some (.ref (He.ga K "NoMap"))
  m_NoNaming : mg "NoNaming" = some (.ref (He.ga K "NoNaming"))
  m_NoPath : mg "NoPath" = some (.ref (He.ga K "NoPath"))
  m_NoText : mg "NoText" = some (.ref (He.ga K "NoText"))
  m_NoTree : mg "NoTree" = some (.ref (He.ga K "NoTree"))
  m_NoTurning : mg "NoTurning" = some (.ref (He.ga K "NoTurning"))
  m_TooMany : mg "TooMany" = some (.ref (He.ga K "TooMany"))
  k_NoText : PySem.W.keepIn K (.ref (He.ga K "NoText")) = true
  o_NoText : OexC K (He.ga K "NoText")
  i_NoText : PySem.W.findIn K (.ref (He.ga K "NoText")) "__init__" = some (some (.ref (He.ma K (He.ga K "NoText") "__init__")))
  t_NoText : PySem.W.typeIn K (.ref (He.ma K (He.ga K "NoText") "__init__")) = some (.type "function")
  na_NoText_at : PySem.W.findIn K (.ref (He.ga K "NoText")) "at" = some none
  kb_NoText_1 : ∃ g : List Value → List Value → List Value, KBn K fd_NoText_init ["self", "at"] 2 [] g (fun vs zs => (vs.drop 0).take 1 ++ ((vs.drop 1).take 1))
  ic_LeanError : InitC K (He.ga K "LeanError")
  ex_NoText_LeanError : PySem.W.exmOne K (.ref (He.ga K "NoText")) (.ref (He.ga K "LeanError")) = some true
  kinds : Kinds K ["NoText", "NoTree", "NoPath", "NoNaming", "NoLetters", "NoCount", "NoTurning", "NoMap", "NoLine", "TooMany"]
  z_ArithmeticError : mg "ArithmeticError" = none
  z_LookupError : mg "LookupError" = none
  z_ValueError : mg "ValueError" = none
  z_int : mg "int" = none
  z_isinstance : mg "isinstance" = none
  z_len : mg "len" = none
  z_list : mg "list" = none
  z_min : mg "min" = none
  z_range : mg "range" = none
  z_zip : mg "zip" = none
  m_DOUBLE : mg "DOUBLE" = some (.ref (He.ga K "DOUBLE"))
  q_DOUBLE : ∀ H, SqT K H (He.ga K "DOUBLE") [.str "<=", .str ">=", .str "==", .str "!=", .str "&&", .str "||"]
  t_FIGURES : Tok
  m_FIGURES : mg "FIGURES" = some (.str "0123456789" t_FIGURES)
  m_KEPT : mg "KEPT" = some (.ref (He.ga K "KEPT"))
  q_KEPT : ∀ H, SqT K H (He.ga K "KEPT") [.str "let", .str "if", .str "else", .str "while", .str "return", .str "fail", .str "try", .str "catch", .str "out", .str "fn"]
  t_LETTERS : Tok
  m_LETTERS : mg "LETTERS" = some (.str "abcdefghijklmnopqrstuvwxyz" t_LETTERS)
  t_LONGEST : Tok
  m_LONGEST : mg "LONGEST" = some (.int 12 t_LONGEST)
  t_MOST_FIGURES : Tok
  m_MOST_FIGURES : mg "MOST_FIGURES" = some (.int 18 t_MOST_FIGURES)
  t_SINGLE : Tok
  m_SINGLE : mg "SINGLE" = some (.str "+-*/~<>!?:.,=(){}[];" t_SINGLE)
  kb_words_0_text : KBinds K fd_words ["text"] ["text"] (fun us ws => us ++ ws) (fun us ws => us ++ ws)

section
variable {P : Program} {w : World} {K : PySem.W.Frag} {mg : Str → Option Value} {base : Heap}
theorem ok_NoText_init (T : Env K mg) : FnOk P w K mg base CX0 1 (He.ma K (He.ga K "NoText") "__init__") T.fd_NoText_init ["self", "at"] (spInit (He.ga K "NoText") ["at"]) := by
  refine T.F_NoText_init.ok sc_NoText_init (fun vs H Q E h => ?_) (fun cdv A outer s H vs Q E hr h => ?_)
  · obtain ⟨a, ws, rfl, hl, _⟩ := h
    rw [List.length_cons, hl]
    rfl
  · have nd := sc_NoText_init.nd
    refine ⟨_, PSs.nox (pss_cons (ps_expr (pe_cinit T.ic_LeanError (by rfl) T.m_LeanError (pa_cons (pv 0) (pa_cons pe_str pa_nil))))
      (pss_one (ps_ost (pv 0) (pv 1)))), ?_⟩
    obtain ⟨a, ws, rfl, hl, e, h⟩ := h
    obtain ⟨v, rfl⟩ := List.length_eq_one_iff.mp hl
    refine ⟨_, rfl, a, He.ga K "NoText", _, rfl, by simp, T.o_NoText, e, ?_⟩
    refine ⟨_, rfl, _, rfl, a, He.ga K "NoText", rfl, T.o_NoText, T.na_NoText_at, .inl ⟨e, fun dx hdx nda => ?_⟩⟩
    exact h dx _ hdx nda upd_same (by rw [upd_ne nda]; exact upd_same) fun b n1 n2 => by rw [upd_ne n1, upd_ne n2]
theorem ok_run_end (T : Env K mg) : FnOk P w K mg base CX0 1 (He.ga K "run_end") T.fd_run_end ["text", "at", "signs"] spRunEnd := by
  refine T.F_run_end.ok sc_run_end (fun vs H Q E h => ?_) (fun cdv A outer s H vs Q E hr h => ?_)
  · obtain ⟨cs, a, sg, rfl, _⟩ := h
    rfl
  · have nd := sc_run_end.nd
    refine ⟨_, PSs.nox (pss_cons (ps_while PassesOwn.never (PW.pt (pw_and (pt_cmpR op_ltM (pv 1) (pe_callB (cLenW (K := K)) (by rfl) T.z_len (by decide +kernel) (pa_cons (pv 0) pa_nil)) (nomark _)) (pw_and1 (pt_cmpR (oInW (K := K)) (pe_ix (ixW (K := K)) (pv 0) (pv 1) (fun _ _ => rfl)) (pv 2) (by rfl))))) (pss_one (ps_aug (i := 1) nd rfl (Or.inl rfl) pe_int ip_add)))
      (pss_one (ps_ret (pv 1)))), ?_⟩
    obtain ⟨cs, a, sg, rfl, ha, hl, h⟩ := h
    have hz : cs.length ≤ sizeLine := Nat.le_trans hl (by decide)
    refine ⟨fun m σ H1 => ∃ b : Nat, m = cs.length - b ∧ b ≤ cs.length ∧ b + runL sg (cs.drop b) = a + runL sg (cs.drop a) ∧ H1 = H ∧ σ = [some (.str (toS cs)), some (.int b), some (.str (toS sg))], ⟨_, a, rfl, ha, rfl, rfl, rfl⟩, ?_⟩
    rintro m σ H1 ⟨b, rfl, hb, he, rfl, rfl⟩
    have done : runL sg (cs.drop b) = 0 → Q (.int (b : Nat)) H1 := fun z => by
      rw [← he, z] at h
      exact h
    refine ⟨_, rfl, _, rfl, lenS hz ?_⟩
    by_cases hlt : b < cs.length
    · refine ⟨true, blT (by omega), ?_⟩
      have e := drop_cons hlt
      refine ⟨_, rfl, _, rfl, ixS hz e ⟨_, rfl, inS ?_⟩⟩
      by_cases hc : cs[b] ∈ sg
      · refine ⟨true, blT hc, ?_⟩
        have er : runL sg (cs.drop b) = runL sg (cs.drop (b + 1)) + 1 := by
          rw [e]
          show (if _ then _ else _) = _
          rw [if_pos hc]
        refine ⟨fun σ' H' => H' = H1 ∧ σ' = [some (.str (toS cs)), some (.int ((b + 1 : Nat) : Int)), some (.str (toS sg))], fun σ' H' hh => ⟨cs.length - (b + 1), by omega, b + 1, rfl, by omega, by omega, hh.1, hh.2⟩, ?_⟩
        exact ⟨_, rfl, _, _, rfl, rfl, rfl, rfl⟩
      · refine ⟨false, blF hc, _, rfl, done ?_⟩
        rw [e]
        show (if _ then _ else _) = _
        rw [if_neg hc]
    · refine ⟨false, blF (by omega), _, rfl, done ?_⟩
      rw [List.drop_eq_nil_of_le (by omega)]
      rfl
theorem ok_stands_by (T : Env K mg) : FnOk P w K mg base CX0 1 (He.ga K "stands_by") T.fd_stands_by ["text", "at"] spStandsBy := by
  refine T.F_stands_by.ok sc_stands_by (fun vs H Q E h => ?_) (fun cdv A outer s H vs Q E hr h => ?_)
  · obtain ⟨cs, a, rfl, _⟩ := h
    rfl
  · have nd := sc_stands_by.nd
    refine ⟨_, PSs.nox (pss_one (ps_ret (pe_and (pe_cmpR op_ltM (pv 1) (pe_callB (cLenW (K := K)) (by rfl) T.z_len (by decide +kernel) (pa_cons (pv 0) pa_nil)) (nomark _)) (pe_one (pe_cmpR (oInW (K := K)) (pe_ix (ixW (K := K)) (pv 0) (pv 1) (fun _ _ => rfl)) (pe_op (oAddS (K := K)) (pe_glob (v := .str "abcdefghijklmnopqrstuvwxyz") rfl T.m_LETTERS ⟨_, rfl⟩) (pe_glob (v := .str "0123456789") rfl T.m_FIGURES ⟨_, rfl⟩)) (by rfl)))))), ?_⟩
    obtain ⟨cs, a, rfl, hl, h⟩ := h
    have hz : cs.length ≤ sizeLine := Nat.le_trans hl (by decide)
    refine ⟨_, rfl, _, rfl, lenS hz ?_⟩
    by_cases hlt : a < cs.length
    · refine ⟨true, blT (by omega), ?_⟩
      have e := drop_cons hlt
      refine ⟨_, rfl, _, rfl, ixS hz e ⟨by decide +kernel, ?_⟩⟩
      rw [lets_lit, figs_lit, toS_app]
      refine inS ?_
      rw [e] at h
      exact h
    · refine ⟨false, blF (by omega), ?_⟩
      rw [List.drop_eq_nil_of_le (by omega)] at h
      exact h
theorem ok_letters_end (T : Env K mg) : FnOk P w K mg base (L2.CX P w) 3 (He.ga K "letters_end") T.fd_letters_end ["text", "at"] (spLettersEnd K) := by
  refine T.F_letters_end.ok sc_letters_end (fun vs H Q E h => ?_) (fun cdv A outer s H vs Q E hr h => ?_)
  · obtain ⟨cs, a, rfl, _⟩ := h
    rfl
  · have nd := sc_letters_end.nd
    refine ⟨_, (pss_cons (ps_set (i := 2) nd rfl (Or.inl rfl) (pe_call (ok_run_end T) (hr.mono (by decide)) (by rfl) T.m_run_end T.F_run_end.kp T.b_run_end .nil pass0 (pa_cons (pv 0) (pa_cons (pv 1) (pa_cons (pe_glob (v := .str "abcdefghijklmnopqrstuvwxyz") rfl T.m_LETTERS ⟨_, rfl⟩) pa_nil)))))
      (pss_cons (ps_if (PW.pt (pw_or (pt_cmpR op_gtM (pe_op op_sub (pv 2) (pv 1)) (pe_glob (v := .int 12) rfl T.m_LONGEST ⟨_, rfl⟩) (nomark _)) (pw_or1 (ptT (K := K) (pe_call (ok_stands_by T) (hr.mono (by decide)) (by rfl) T.m_stands_by T.F_stands_by.kp T.b_stands_by .nil pass0 (pa_cons (pv 0) (pa_cons (pv 2) pa_nil))))))) (pss_one (ps_raise rfl (takes_of rfl rfl rfl rfl) (pmk_gk (cm_O T.o_NoText T.i_NoText T.t_NoText (ok_NoText_init T) hr (T.kb_NoText_1).choose_spec pass0) (by rfl) T.m_NoText T.k_NoText (pa_cons (pv 1) pa_nil) pk_nil))) pss_nil)
      (pss_one (ps_ret (pv 2))))), ?_⟩
    obtain ⟨cs, a, rfl, ha, hl, hb, hg⟩ := h
    refine ⟨_, rfl, _, rfl, cs, a, lets, by rw [lets_lit]; rfl, by omega, hl, ?_⟩
    have hle := runL_le lets (cs.drop a)
    refine ⟨_, rfl, _, rfl, _, _, rfl, rfl, ?_⟩
    by_cases h1 : 12 < runL lets (cs.drop a)
    · refine ⟨true, blT (by omega), ?_⟩
      exact ⟨_, rfl, ⟨rfl, rfl, [.int a], fun _ => rfl, rfl, fun d H' s e => hb (.inl h1) d H' s e⟩⟩
    refine ⟨false, blF (by omega), ?_⟩
    refine ⟨_, rfl, _, rfl, cs, a + runL lets (cs.drop a), rfl, hl, _, rfl, ?_⟩
    rw [← List.drop_drop]
    cases h2 : byB ((cs.drop a).drop (runL lets (cs.drop a))) with
    | true => exact ⟨_, rfl, ⟨rfl, rfl, [.int a], fun _ => rfl, rfl, fun d H' s e => hb (.inr h2) d H' s e⟩⟩
    | false => exact ⟨_, rfl, hg (fun z => z.elim h1 fun z => by rw [h2] at z; cases z)⟩
theorem ok_noughts_at (T : Env K mg) : FnOk P w K mg base CX0 2 (He.ga K "noughts_at") T.fd_noughts_at ["text", "at"] spNoughts := by
  refine T.F_noughts_at.ok sc_noughts_at (fun vs H Q E h => ?_) (fun cdv A outer s H vs Q E hr h => ?_)
  · obtain ⟨cs, a, rfl, _⟩ := h
    rfl
  · have nd := sc_noughts_at.nd
    refine ⟨_, PSs.nox (pss_cons (ps_if (pt_cmpR (oNeW (K := K) hr.units) (pe_slice (slW (K := K)) (pv 0) (po_some (pv 1)) (po_some (pe_op (oAddS (K := K)) (pv 1) pe_int))) pe_str (nomark _)) (pss_one (ps_ret pe_str)) pss_nil)
      (pss_cons (ps_set (i := 2) nd rfl (Or.inl rfl) (pe_slice (slW (K := K)) (pv 0) (po_some (pe_op (oAddS (K := K)) (pv 1) pe_int)) (po_some (pe_callB (cMin rfl) (by rfl) T.z_min (by decide +kernel) (pa_cons (pe_op (oAddS (K := K)) (pv 1) pe_int) (pa_cons (pe_call (ok_run_end T) hr (by rfl) T.m_run_end T.F_run_end.kp T.b_run_end .nil pass0 (pa_cons (pv 0) (pa_cons (pe_op (oAddS (K := K)) (pv 1) pe_int) (pa_cons (pe_glob (v := .str "0123456789") rfl T.m_FIGURES ⟨_, rfl⟩) pa_nil)))) pa_nil))))))
      (pss_cons (ps_if (pt_cmpR (oInW (K := K)) (pe_slice (slW (K := K)) (pv 2) po_none (po_some pe_int)) (pe_tupS (pa_cons pe_str (pa_cons pe_str pa_nil))) (by rfl)) (pss_one (ps_ret pe_str)) pss_nil)
      (pss_one (ps_ret (pv 2)))))), ?_⟩
    obtain ⟨cs, a, rfl, hl, h⟩ := h
    have hz : cs.length ≤ sizeLine := Nat.le_trans hl (by decide)
    refine ⟨_, rfl, _, rfl, _, rfl, _, rfl, _, rfl, slS_at (i := a) (j := a + 1) hz ?_⟩
    rw [e_lit, show a + 1 - a = 1 by omega]
    refine neSc rfl ?_
    by_cases h1 : (cs.drop a).take 1 = [101]
    · refine ⟨false, blN (by rw [str_inj]; exact h1), ?_⟩
      obtain ⟨t, et⟩ : ∃ t, cs.drop a = 101 :: t := by
        cases e : cs.drop a with
        | nil => rw [e] at h1; cases h1
        | cons c t =>
          rw [e] at h1
          cases h1
          exact ⟨t, rfl⟩
      have e2 : cs.drop (a + 1) = t := by rw [← List.drop_drop, et]; rfl
      have hlen : a + 1 ≤ cs.length := by
        have := congrArg List.length et
        rw [List.length_drop, List.length_cons] at this
        omega
      refine ⟨_, rfl, _, rfl, _, rfl, _, rfl, _, rfl, _, rfl, cs, a + 1, figs, by rw [figs_lit]; rfl, hlen, hl, _, _, rfl, ((min (a + 3) (a + 1 + runL figs t) : Nat) : Int), ?_, slS_at (i := a + 1) hz ?_⟩
      · rw [e2]
        refine congrArg V.int ?_
        split <;> omega
      rw [e2]
      have em : t.take (min (a + 3) (a + 1 + runL figs t) - (a + 1)) = t.take (min 2 (runL figs t)) := by
        congr 1
        omega
      rw [em]
      have en : noughts (cs.drop a) = match t.take (min 2 (runL figs t)) with
          | [] => []
          | 48 :: _ => []
          | f => f := by rw [et]; rfl
      rw [en] at h
      generalize hf : t.take (min 2 (runL figs t)) = f at h ⊢
      have hf2 : f.length ≤ 2 := by rw [← hf, List.length_take]; omega
      have hzf : f.length ≤ sizeLine := Nat.le_trans hf2 (by decide)
      refine ⟨_, rfl, _, rfl, slS_to (j := 1) hzf ⟨(by show 2 ≤ sizeLine; decide), fun p H1 n1 s1 k1 => ?_⟩⟩
      refine inT (.inr (.inl (.inl k1))) noz_lit ?_
      match f, h with
      | [], h => exact ⟨true, rfl, by rw [nil_lit]; exact h _ s1⟩
      | c :: f, h =>
        by_cases hc : c = 48
        · subst hc
          exact ⟨true, rfl, by rw [nil_lit]; exact h _ s1⟩
        · refine ⟨false, blF ?_, _, rfl, ?_⟩
          · simp [hc]
          · have e3 : (match c :: f with
              | [] => []
              | 48 :: _ => []
              | f => f : List Nat) = c :: f := by
              split
              · rename_i z; cases z
              · rename_i z; cases z; exact absurd rfl hc
              · rename_i z; rfl
            rw [e3] at h
            exact h _ s1
    · refine ⟨true, blNF (by rw [str_inj]; exact h1), ?_⟩
      have : noughts (cs.drop a) = [] := by
        unfold noughts
        split
        · rename_i t e
          rw [e] at h1
          exact absurd rfl h1
        · rfl
      rw [this] at h
      rw [nil_lit]
      exact h _ (L2.Same.refl H)
theorem ok_figures_end (T : Env K mg) : FnOk P w K mg base (L2.CX P w) 3 (He.ga K "figures_end") T.fd_figures_end ["text", "at"] (spFiguresEnd K) := by
  refine T.F_figures_end.ok sc_figures_end (fun vs H Q E h => ?_) (fun cdv A outer s H vs Q E hr h => ?_)
  · obtain ⟨cs, a, rfl, _⟩ := h
    rfl
  · have nd := sc_figures_end.nd
    refine ⟨_, (pss_cons (ps_set (i := 2) nd rfl (Or.inl rfl) (pe_call (ok_run_end T) (hr.mono (by decide)) (by rfl) T.m_run_end T.F_run_end.kp T.b_run_end .nil pass0 (pa_cons (pv 0) (pa_cons (pv 1) (pa_cons (pe_glob (v := .str "0123456789") rfl T.m_FIGURES ⟨_, rfl⟩) pa_nil)))))
      (pss_cons (ps_if (pt_cmpR (oEqW (K := K) hr.units) (pe_ix (ixW (K := K)) (pv 0) (pv 1) (fun _ _ => rfl)) pe_str (nomark _)) (pss_one (ps_set (i := 2) nd rfl (Or.inl rfl) (pe_op (oAddS (K := K)) (pv 1) pe_int))) pss_nil)
      (pss_cons (ps_set (i := 3) nd rfl (Or.inl rfl) (pe_op op_sub (pv 2) (pv 1)))
      (pss_cons (ps_set (i := 4) nd rfl (Or.inl rfl) (pe_call (ok_noughts_at T) hr (by rfl) T.m_noughts_at T.F_noughts_at.kp T.b_noughts_at .nil pass0 (pa_cons (pv 0) (pa_cons (pv 2) pa_nil))))
      (pss_cons (ps_if (PW.pt (pw_and (pt_cmpR (oNeW (K := K) hr.units) (pv 4) pe_str (nomark _)) (pw_and1 (pt_cmpR (oNeW (K := K) hr.units) (pe_ix (ixW (K := K)) (pv 0) (pv 1) (fun _ _ => rfl)) pe_str (nomark _))))) (pss_cons (ps_aug (i := 3) nd rfl (Or.inl rfl) (pe_callTy cIntW (by rfl) T.z_int (by decide +kernel) (pa_cons (pv 4) pa_nil)) ip_add)
      (pss_one (ps_aug (i := 2) nd rfl (Or.inl rfl) (pe_op (oAddS (K := K)) pe_int (pe_callB (cLenW (K := K)) (by rfl) T.z_len (by decide +kernel) (pa_cons (pv 4) pa_nil))) ip_add))) pss_nil)
      (pss_cons (ps_if (PW.pt (pw_or (pt_cmpR op_gtM (pv 3) (pe_glob (v := .int 18) rfl T.m_MOST_FIGURES ⟨_, rfl⟩) (nomark _)) (pw_or1 (ptT (K := K) (pe_call (ok_stands_by T) (hr.mono (by decide)) (by rfl) T.m_stands_by T.F_stands_by.kp T.b_stands_by .nil pass0 (pa_cons (pv 0) (pa_cons (pv 2) pa_nil))))))) (pss_one (ps_raise rfl (takes_of rfl rfl rfl rfl) (pmk_gk (cm_O T.o_NoText T.i_NoText T.t_NoText (ok_NoText_init T) hr (T.kb_NoText_1).choose_spec pass0) (by rfl) T.m_NoText T.k_NoText (pa_cons (pv 1) pa_nil) pk_nil))) pss_nil)
      (pss_one (ps_ret (pv 2))))))))), ?_⟩
    obtain ⟨cs, a, rfl, ha, hl, hb, hg⟩ := h
    have hz : cs.length ≤ sizeLine := Nat.le_trans hl (by decide)
    have e := drop_cons ha
    refine ⟨_, rfl, _, rfl, cs, a, figs, by rw [figs_lit]; rfl, by omega, hl, ?_⟩
    refine ⟨_, rfl, _, rfl, ixS hz e ?_⟩
    rw [n_lit]
    refine eqSc rfl ?_
    by_cases h0 : cs[a] = 48
    · refine ⟨true, blT (by rw [str_inj, h0]), _, rfl, ?_⟩
      have hn : numb (cs.drop a) = (1, 1) := by rw [e, h0]; rfl
      have ed : (cs.drop a).drop 1 = cs.drop (a + 1) := List.drop_drop
      refine ⟨_, rfl, _, rfl, _, _, rfl, rfl, ?_⟩
      refine ⟨_, rfl, _, rfl, cs, a + 1, rfl, hl, fun H1 s1 => ?_⟩
      refine ⟨_, rfl, ?_⟩
      rw [nil_lit]
      refine neSc rfl ?_
      by_cases hw : noughts (cs.drop (a + 1)) = []
      case' pos => refine ⟨false, blN (by rw [str_inj]; exact hw), ?_⟩
      case' neg => refine ⟨true, blNF (by rw [str_inj]; exact hw), _, rfl, _, rfl, ixS hz e (neSc rfl ⟨false, blN (by rw [str_inj, h0]), ?_⟩)⟩
      all_goals
        refine ⟨_, rfl, false, blF (by omega), ?_⟩
        refine ⟨_, rfl, _, rfl, cs, a + 1, rfl, hl, _, rfl, ?_⟩
        cases h2 : byB (cs.drop (a + 1)) with
        | true => exact ⟨_, rfl, ⟨rfl, rfl, [.int a], fun _ => rfl, rfl, fun d H' s e => hb (.inr (by rw [hn, ed]; exact h2)) d H' (Same.trans s1 s) e⟩⟩
        | false =>
          rw [hn] at hg
          refine ⟨_, rfl, hg (fun z => ?_) _ s1⟩
          rcases z with z | z
          · rw [hn] at z
            exact absurd z (by decide)
          · rw [hn, ed, h2] at z
            cases z
    · refine ⟨false, blF (by rw [str_inj]; intro z; exact h0 (by injection z)), ?_⟩
      have ed : (cs.drop a).drop (runL figs (cs.drop a)) = cs.drop (a + runL figs (cs.drop a)) := List.drop_drop
      have hn : numb (cs.drop a) = if noughts (cs.drop (a + runL figs (cs.drop a))) = [] then (runL figs (cs.drop a), runL figs (cs.drop a)) else
          (runL figs (cs.drop a) + val (noughts (cs.drop (a + runL figs (cs.drop a)))), runL figs (cs.drop a) + 1 + (noughts (cs.drop (a + runL figs (cs.drop a)))).length) := by
        rw [← ed]
        generalize hr' : cs.drop a = r at e ⊢
        subst e
        unfold numb
        split
        · rename_i z
          exact absurd (List.cons.inj z).1 h0
        · rfl
      refine ⟨_, rfl, _, rfl, _, _, rfl, rfl, ?_⟩
      refine ⟨_, rfl, _, rfl, cs, a + runL figs (cs.drop a), rfl, hl, fun H1 s1 => ?_⟩
      refine ⟨_, rfl, ?_⟩
      rw [nil_lit]
      refine neSc rfl ?_
      by_cases hw : noughts (cs.drop (a + runL figs (cs.drop a))) = []
      · rw [if_pos hw] at hn
        refine ⟨false, blN (by rw [str_inj]; exact hw), ?_⟩
        refine ⟨_, rfl, ?_⟩
        by_cases h1 : 18 < runL figs (cs.drop a)
        · refine ⟨true, blT (by omega), ?_⟩
          exact ⟨_, rfl, ⟨rfl, rfl, [.int a], fun _ => rfl, rfl, fun d H' s e => hb (.inl (by rw [hn]; exact h1)) d H' (Same.trans s1 s) e⟩⟩
        refine ⟨false, blF (by omega), ?_⟩
        refine ⟨_, rfl, _, rfl, cs, a + runL figs (cs.drop a), rfl, hl, _, rfl, ?_⟩
        cases h2 : byB (cs.drop (a + runL figs (cs.drop a))) with
        | true => exact ⟨_, rfl, ⟨rfl, rfl, [.int a], fun _ => rfl, rfl, fun d H' s e => hb (.inr (by rw [hn, ed]; exact h2)) d H' (Same.trans s1 s) e⟩⟩
        | false =>
          rw [hn] at hg
          refine ⟨_, rfl, hg (fun z => ?_) _ s1⟩
          rcases z with z | z
          · rw [hn] at z
            exact h1 z
          · rw [hn, ed, h2] at z
            cases z
      · rw [if_neg hw] at hn
        have hwl := nou_le (cs.drop (a + runL figs (cs.drop a)))
        refine ⟨true, blNF (by rw [str_inj]; exact hw), _, rfl, _, rfl, ixS hz e (neSc rfl ⟨true, blNF (by rw [str_inj]; intro z; exact h0 (by injection z)), ?_⟩)⟩
        refine ⟨_, rfl, _, rfl, intT (int_val (nou_figs _) hw hwl) (by rw [toS_len]; omega) ⟨_, _, rfl, rfl, ?_⟩⟩
        refine ⟨_, rfl, _, rfl, lenS (Nat.le_trans hwl (by decide)) ⟨_, _, rfl, rfl, ?_⟩⟩
        generalize noughts (cs.drop (a + runL figs (cs.drop a))) = wd at hn hwl ⊢
        have e2 : (cs.drop a).drop (numb (cs.drop a)).2 = cs.drop (a + runL figs (cs.drop a) + (1 + wd.length)) := by
          rw [hn, List.drop_drop]
          congr 1
          omega
        refine ⟨_, rfl, ?_⟩
        by_cases h1 : 18 < runL figs (cs.drop a) + val wd
        · refine ⟨true, blT (by dsimp only; omega), ?_⟩
          exact ⟨_, rfl, ⟨rfl, rfl, [.int a], fun _ => rfl, rfl, fun d H' s e => hb (.inl (by rw [hn]; exact h1)) d H' (Same.trans s1 s) e⟩⟩
        refine ⟨false, blF (by dsimp only; omega), ?_⟩
        refine ⟨_, rfl, _, rfl, cs, a + runL figs (cs.drop a) + (1 + wd.length), rfl, hl, _, rfl, ?_⟩
        cases h2 : byB (cs.drop (a + runL figs (cs.drop a) + (1 + wd.length))) with
        | true => exact ⟨_, rfl, ⟨rfl, rfl, [.int a], fun _ => rfl, rfl, fun d H' s e => hb (.inr (by rw [e2]; exact h2)) d H' (Same.trans s1 s) e⟩⟩
        | false =>
          refine ⟨_, rfl, ?_⟩
          have z := hg (fun z => by
            rcases z with z | z
            · rw [hn] at z
              exact h1 z
            · rw [e2, h2] at z
              cases z) _ s1
          rw [hn] at z
          have e3 : ((a + (runL figs (cs.drop a) + 1 + wd.length) : Nat) : Int) = ((a + runL figs (cs.drop a) : Nat) : Int) + (1 + (wd.length : Int)) := by omega
          show Q (.int (((a + runL figs (cs.drop a) : Nat) : Int) + (1 + (wd.length : Int)))) H1
          rw [← e3]
          exact z
theorem ok_word_at (T : Env K mg) : FnOk P w K mg base (L2.CX P w) 4 (He.ga K "word_at") T.fd_word_at ["text", "at"] (spWordAt K) := by
  refine T.F_word_at.ok sc_word_at (fun vs H Q E h => ?_) (fun cdv A outer s H vs Q E hr h => ?_)
  · obtain ⟨cs, a, rfl, _⟩ := h
    rfl
  · have nd := sc_word_at.nd
    refine ⟨_, (pss_cons (ps_set (i := 2) nd rfl (Or.inl rfl) (pe_ix (ixW (K := K)) (pv 0) (pv 1) (fun _ _ => rfl)))
      (pss_cons (ps_if (pt_cmpR (oInW (K := K)) (pv 2) (pe_glob (v := .str "abcdefghijklmnopqrstuvwxyz") rfl T.m_LETTERS ⟨_, rfl⟩) (by rfl)) (pss_cons (ps_set (i := 3) nd rfl (Or.inl rfl) (pe_slice (slW (K := K)) (pv 0) (po_some (pv 1)) (po_some (pe_call (ok_letters_end T) hr (by rfl) T.m_letters_end T.F_letters_end.kp T.b_letters_end .nil (passes_call (takes_of rfl rfl rfl rfl) (fun _ _ _ _ h => h)) (pa_cons (pv 0) (pa_cons (pv 1) pa_nil))))))
      (pss_cons (ps_if (pt_cmpR (oInW (K := K)) (pv 3) (pe_glob (v := .ref (He.ga K "KEPT")) rfl T.m_KEPT rfl) (by rfl)) (pss_one (ps_ret (pe_tupS (pa_cons pe_str (pa_cons (pv 3) pa_nil))))) pss_nil)
      (pss_one (ps_ret (pe_tupS (pa_cons pe_str (pa_cons (pv 3) pa_nil))))))) pss_nil)
      (pss_cons (ps_if (pt_cmpR (oInW (K := K)) (pv 2) (pe_glob (v := .str "0123456789") rfl T.m_FIGURES ⟨_, rfl⟩) (by rfl)) (pss_one (ps_ret (pe_tupS (pa_cons pe_str (pa_cons (pe_slice (slW (K := K)) (pv 0) (po_some (pv 1)) (po_some (pe_call (ok_figures_end T) hr (by rfl) T.m_figures_end T.F_figures_end.kp T.b_figures_end .nil (passes_call (takes_of rfl rfl rfl rfl) (fun _ _ _ _ h => h)) (pa_cons (pv 0) (pa_cons (pv 1) pa_nil))))) pa_nil))))) pss_nil)
      (pss_cons (ps_if (pt_cmpR (oInW (K := K)) (pe_slice (slW (K := K)) (pv 0) (po_some (pv 1)) (po_some (pe_op (oAddS (K := K)) (pv 1) pe_int))) (pe_glob (v := .ref (He.ga K "DOUBLE")) rfl T.m_DOUBLE rfl) (by rfl)) (pss_one (ps_ret (pe_tupS (pa_cons pe_str (pa_cons (pe_slice (slW (K := K)) (pv 0) (po_some (pv 1)) (po_some (pe_op (oAddS (K := K)) (pv 1) pe_int))) pa_nil))))) pss_nil)
      (pss_cons (ps_if (pt_cmpR (oInW (K := K)) (pv 2) (pe_glob (v := .str "+-*/~<>!?:.,=(){}[];") rfl T.m_SINGLE ⟨_, rfl⟩) (by rfl)) (pss_one (ps_ret (pe_tupS (pa_cons pe_str (pa_cons (pv 2) pa_nil))))) pss_nil)
      (pss_one (ps_raise rfl (takes_of rfl rfl rfl rfl) (pmk_gk (cm_O T.o_NoText T.i_NoText T.t_NoText (ok_NoText_init T) (hr.mono (by decide)) (T.kb_NoText_1).choose_spec pass0) (by rfl) T.m_NoText T.k_NoText (pa_cons (pv 1) pa_nil) pk_nil)))))))), ?_⟩
    obtain ⟨cs, a, rfl, ha, hl, hb, hg⟩ := h
    have hz : cs.length ≤ sizeLine := Nat.le_trans hl (by decide)
    have e := drop_cons ha
    generalize hr' : cs.drop a = r at e hb hg
    generalize cs[a] = c at e
    generalize cs.drop (a + 1) = t at e
    subst e
    refine ⟨_, rfl, _, rfl, ixS hz hr' ?_⟩
    refine ⟨_, rfl, ?_⟩
    rw [lets_lit]
    refine inS ?_
    by_cases hc : c ∈ lets
    · refine ⟨true, blT hc, ?_⟩
      refine ⟨_, rfl, _, rfl, _, rfl, _, rfl, _, rfl, cs, a, rfl, ha, hl, fun hlong => hb ?_, fun hs => ?_⟩
      · rw [hr'] at hlong
        exact wa_letL hc hlong
      rw [hr'] at hs ⊢
      have hw := wa_let hc hs
      refine ⟨_, rfl, slS_at (i := a) hz ?_⟩
      rw [hr', Nat.add_sub_cancel_left]
      refine ⟨_, rfl, inT (.inr (T.q_KEPT _)) kept_lit ?_⟩
      by_cases hk : (c :: t).take (runL lets (c :: t)) ∈ kept
      · rw [if_pos hk] at hw
        refine ⟨true, blT hk, _, rfl, (by show 2 ≤ sizeLine; decide), fun p H1 n1 s1 k1 => ?_⟩
        exact hg _ _ hw p H1 n1 s1 k1
      · rw [if_neg hk] at hw
        refine ⟨false, blF hk, _, rfl, (by show 2 ≤ sizeLine; decide), fun p H1 n1 s1 k1 => ?_⟩
        exact hg _ _ hw p H1 n1 s1 k1
    refine ⟨false, blF hc, ?_⟩
    refine ⟨_, rfl, ?_⟩
    rw [figs_lit]
    refine inS ?_
    by_cases hf : c ∈ figs
    · refine ⟨true, blT hf, ?_⟩
      refine ⟨_, rfl, _, rfl, _, rfl, _, rfl, _, rfl, cs, a, rfl, ha, hl, fun hlong => hb ?_, fun hs H1 s1 => ?_⟩
      · rw [hr'] at hlong
        exact wa_figL hc hf hlong
      rw [hr'] at hs ⊢
      have hw := wa_fig hc hf hs
      refine ⟨_, rfl, slS_at (i := a) hz ?_⟩
      rw [hr', Nat.add_sub_cancel_left]
      exact ⟨(by show 2 ≤ sizeLine; decide), fun p H2 n2 s2 k2 => hg _ _ hw p H2 (Same.free s1 n2) (Same.trans s1 s2) k2⟩
    refine ⟨false, blF hf, ?_⟩
    refine ⟨_, rfl, _, rfl, _, rfl, _, rfl, _, rfl, slS_at (i := a) (j := a + 1 + 1) hz ?_⟩
    rw [hr', show a + 1 + 1 - a = 2 by omega]
    refine inT (.inr (T.q_DOUBLE _)) dbls_lit ?_
    by_cases h2 : (c :: t).take 2 ∈ dbls
    · have hw := wa_dbl hc hf h2
      refine ⟨true, blT h2, ?_⟩
      refine ⟨_, rfl, _, rfl, _, rfl, _, rfl, _, rfl, slS_at (i := a) (j := a + 1 + 1) hz ?_⟩
      rw [hr', show a + 1 + 1 - a = 2 by omega]
      exact ⟨(by show 2 ≤ sizeLine; decide), fun p H2 n2 s2 k2 => hg _ _ hw p H2 n2 s2 k2⟩
    refine ⟨false, blF h2, ?_⟩
    refine ⟨_, rfl, ?_⟩
    rw [sings_lit]
    refine inS ?_
    by_cases h1 : c ∈ sings
    · have hw := wa_sing hc hf h2 h1
      refine ⟨true, blT h1, _, rfl, (by show 2 ≤ sizeLine; decide), fun p H2 n2 s2 k2 => hg _ _ hw p H2 n2 s2 k2⟩
    refine ⟨false, blF h1, ?_⟩
    have hw := wa_none hc hf h2 h1
    exact ⟨_, rfl, ⟨rfl, rfl, [.int a], fun _ => rfl, rfl, fun d H' s e => hb hw d H' s e⟩⟩
theorem ok_words (T : Env K mg) : FnOk P w K mg base (L2.CX P w) 5 (He.ga K "words") T.fd_words ["text"] (spWords K) := by
  refine T.F_words.ok sc_words (fun vs H Q E h => ?_) (fun cdv A outer s H vs Q E hr h => ?_)
  · obtain ⟨cs, rfl, _⟩ := h
    rfl
  · have nd := sc_words.nd
    refine ⟨_, (pss_cons (ps_set (i := 1) nd rfl (Or.inl rfl) (pe_lstS pa_nil))
      (pss_cons (ps_set (i := 2) nd rfl (Or.inl rfl) pe_int)
      (pss_cons (ps_while (passes_of rfl) (pt_cmpR op_ltM (pv 2) (pe_callB (cLenW (K := K)) (by rfl) T.z_len (by decide +kernel) (pa_cons (pv 0) pa_nil)) (nomark _)) (pss_one (ps_if (pt_cmpR (oInW (K := K)) (pe_ix (ixW (K := K)) (pv 0) (pv 2) (fun _ _ => rfl)) pe_str (by rfl)) (pss_one (ps_aug (i := 2) nd rfl (Or.inl rfl) pe_int ip_add)) (pss_cons (ps_asg (pe_call (ok_word_at T) hr (by rfl) T.m_word_at T.F_word_at.kp T.b_word_at .nil (passes_call (takes_of rfl rfl rfl rfl) (fun _ _ _ _ h => h)) (pa_cons (pv 0) (pa_cons (pv 2) pa_nil))) (pgTup (K := K) (n := 2) rfl (pgs_cons (pg_name (i := 3) nd rfl (Or.inl rfl)) (pgs_cons (pg_name (i := 4) nd rfl (Or.inl rfl)) pgs_nil))))
      (pss_cons (ps_expr (peBm (K := K) PySem.F.plainAttrs_list PySem.F.slot_list_append PySem.F.type_list_append mt_appendS (pv 1) (pa_cons (pe_tupS (pa_cons (pv 3) (pa_cons (pv 4) (pa_cons (pv 2) pa_nil)))) pa_nil)))
      (pss_one (ps_aug (i := 2) nd rfl (Or.inl rfl) (pe_callB (cLenW (K := K)) (by rfl) T.z_len (by decide +kernel) (pa_cons (pv 4) pa_nil)) ip_add)))))))
      (pss_one (ps_ret (pv 1)))))), ?_⟩
    obtain ⟨cs, rfl, hl, hb, hg⟩ := h
    have hz : cs.length ≤ sizeLine := Nat.le_trans hl (by decide)
    refine ⟨(by show 0 ≤ sizeLine; decide), fun p H1 n1 s1 k1 => ?_⟩
    refine ⟨fun m σ H2 => ∃ (a : Nat) (vs : List V) (done : List Wo) (x y : Option V), m = cs.length - a ∧ σ = [some (.str (toS cs)), some (.ref p), some (.int a), x, y] ∧ Same H H2 ∧ H2 p = some (.lst vs) ∧ Tups K H2 vs done ∧
        (words cs).1 = done ++ (wordsAt cs a).1 ∧ (words cs).2 = (wordsAt cs a).2 ∧ done.length ≤ a ∧ a ≤ cs.length,
      ⟨_, 0, [], [], none, none, rfl, rfl, s1, k1, .nil, rfl, rfl, Nat.le_refl _, Nat.zero_le _⟩, ?_⟩
    rintro m σ H2 ⟨a, vs, done, x, y, rfl, rfl, e2, k2, tp, w1, w2, hd, ha⟩
    refine ⟨_, rfl, _, rfl, lenS hz ?_⟩
    by_cases hlt : a < cs.length
    · refine ⟨true, blT (by omega), ?_⟩
      have e := drop_cons hlt
      refine ⟨fun σ' H' => ∃ (a' : Nat) (vs : List V) (done : List Wo) (x y : Option V), a < a' ∧ σ' = [some (.str (toS cs)), some (.ref p), some (.int a'), x, y] ∧ Same H H' ∧ H' p = some (.lst vs) ∧ Tups K H' vs done ∧
        (words cs).1 = done ++ (wordsAt cs a').1 ∧ (words cs).2 = (wordsAt cs a').2 ∧ done.length ≤ a' ∧ a' ≤ cs.length, ?_, ?_⟩
      · rintro σ' H' ⟨a', vs, done, x, y, h1, rfl, h2, h3, h4, h5, h6, h7, h8⟩
        exact ⟨cs.length - a', by omega, a', vs, done, x, y, rfl, rfl, h2, h3, h4, h5, h6, h7, h8⟩
      refine ⟨_, rfl, _, rfl, ixS hz e ?_⟩
      rw [blank_lit]
      refine inS ?_
      by_cases hbl : cs[a] ∈ [32, 10]
      · refine ⟨true, blT hbl, ?_⟩
        have z := wordsAt_blank e hbl
        rw [z] at w1 w2
        exact ⟨_, rfl, _, _, rfl, rfl, a + 1, vs, done, x, y, Nat.lt_succ_self a, rfl, e2, k2, tp, w1, w2, by omega, hlt⟩
      refine ⟨false, blF hbl, ?_⟩
      refine ⟨_, rfl, _, rfl, cs, a, rfl, hlt, hl, fun hn => ?_, fun sort n hs q H3 n3 s3 k3 => ?_⟩
      · rw [e] at hn
        have z := wordsAt_bad e hbl hn
        rw [z] at w2
        exact fun d H' s' k' => hb a w2 d H' (Same.trans e2 s') k'
      refine ⟨q, _, rfl, .inl (.inl k3), rfl, _, _, rfl, _, _, rfl, rfl, ?_⟩
      have k2' := s3 _ _ k2
      refine ⟨_, rfl, .inl ⟨rfl, _, SqL.of k2'⟩, _, rfl, _, rfl, _, rfl, (by show 3 ≤ sizeLine; decide), fun q4 H4 n4 s4 k4 => ?_⟩
      have hlen : vs.length = done.length := tp.len
      have hz2 : 100000 < sizeLine := by decide
      refine ⟨p, _, _, rfl, rfl, s4 _ _ k2', by omega, fun H5 k5 b5 => ?_⟩
      rw [e] at hs
      have z := wordsAt_word e hbl hs
      have hn := word_len hs
      have hcl := congrArg List.length e
      rw [List.length_drop] at hcl
      have hw : ((cs.drop a).take n).length = n := by rw [List.length_take, List.length_drop]; omega
      refine ⟨_, rfl, _, rfl, lenS (by rw [hw]; omega) ⟨_, _, rfl, rfl, ?_⟩⟩
      rw [hw]
      rw [z] at w1 w2
      rw [e]
      have tw : SqT K H4 q4 (woV (sort, (cs[a] :: cs.drop (a + 1)).take n, a)) := by
        rw [← e]
        exact .inl (.inl k4)
      have t4 : Tups K H4 (vs ++ [.ref q4]) (done ++ [(sort, (cs[a] :: cs.drop (a + 1)).take n, a)]) := (tp.same (Same.trans s3 s4)).app tw
      refine ⟨a + n, vs ++ [.ref q4], done ++ [(sort, (cs[a] :: cs.drop (a + 1)).take n, a)], _, _, by omega, rfl, ?_, k5, t4.but b5 (s4 _ _ k2'), ?_, w2, ?_, by omega⟩
      · exact Same.but (Same.trans e2 (Same.trans s3 s4)) n1 b5
      · rw [w1, List.append_assoc]
        rfl
      · rw [List.length_append, List.length_singleton]
        omega
    · refine ⟨false, blF (by omega), ?_⟩
      have z := wordsAt_end (by omega : cs.length ≤ a)
      rw [z] at w1 w2
      rw [List.append_nil] at w1
      exact ⟨_, rfl, hg w2 p H2 vs n1 e2 k2 (by rw [w1]; exact tp)⟩
end
end P01

set_option Elab.async false
set_option linter.all false
set_option maxRecDepth 100000
set_option maxHeartbeats 4000000
namespace P01
open PySem L2 LK WD
section
variable {P : Program} {w : World} {K : PySem.W.Frag} {mg : Str → Option Value} {base : Heap}
theorem ok__law_mixed (T : Env K mg) : FnOk P w K mg base CX0 1 (He.ga K "_law_mixed") T.fd__law_mixed ["cell", "k"] spMixed := by
  refine T.F__law_mixed.ok sc__law_mixed (fun vs H Q E h => ?_) (fun cdv A outer s H vs Q E hr h => ⟨t_mixed K, PSs.nox ?_, ?_⟩)
  · obtain ⟨c, k, rfl, _⟩ := h
    rfl
  · have nd := sc__law_mixed.nd
    exact (pss_cons (ps_set (i := 2) nd rfl (Or.inl rfl) (pe_op op_modN (pe_op (oAdd (K := K)) (pe_op (oAdd (K := K)) (pe_op (oMul (K := K)) (pe_op op_modN (pv 0) pe_int) pe_int) (pe_op (oMul (K := K)) (pv 1) pe_int)) pe_int) pe_int))
      (pss_cons (ps_set (i := 2) nd rfl (Or.inl rfl) (pe_op op_modN (pe_op (oMul (K := K)) (pv 2) (pv 2)) pe_int))
      (pss_one (ps_ret (pe_op op_modN (pe_op (oMul (K := K)) (pv 2) (pe_op (oAdd (K := K)) (pv 2) pe_int)) pe_int)))))
  · obtain ⟨c, k, rfl, h⟩ := h
    exact mixed_run h
theorem ok__law_cell (T : Env K mg) : FnOk P w K mg base CX0 2 (He.ga K "_law_cell") T.fd__law_cell ["script", "k"] (spCell' K) := by
  refine T.F__law_cell.ok sc__law_cell (fun vs H Q E h => ?_) (fun cdv A outer s H vs Q E hr h => ⟨t_cell K, PSs.nox ?_, ?_⟩)
  · obtain ⟨c, ns, k, rfl, _⟩ := h
    rfl
  · have nd := sc__law_cell.nd
    exact (pss_cons (ps_set (i := 2) nd rfl (Or.inl rfl) pe_int)
      (pss_cons (ps_if (pt_cmpR op_ltM (pv 1) (pe_callB (cLen (K := K)) (by rfl) T.z_len (by decide +kernel) (pa_cons (pv 0) pa_nil)) (nomark _)) (pss_one (ps_set (i := 2) nd rfl (Or.inl rfl) (pe_ix (ixM (K := K)) (pv 0) (pv 1) (fun _ _ => rfl)))) pss_nil)
      (pss_cons (ps_if (pt_cmpR op_geM (pv 2) (pe_op op_pow pe_int pe_int) (nomark _)) (pss_one (ps_ret (pe_op op_modN (pe_op op_sub (pv 2) (pe_op op_pow pe_int pe_int)) (pe_op (oMul (K := K)) (pe_op (oMul (K := K)) (pe_op (oMul (K := K)) (pe_op op_pow pe_int pe_int) (pe_op op_pow pe_int pe_int)) (pe_op op_pow pe_int pe_int)) (pe_op op_pow pe_int pe_int))))) pss_nil)
      (pss_cons (ps_set (i := 3) nd rfl (Or.inl rfl) pe_int)
      (pss_cons (ps_for PassesOwn.never rfl (pi_range1 (by rfl) T.z_range (pa_cons pe_int pa_nil)) (pg_name (i := 4) nd rfl (Or.inl rfl)) (pss_one (ps_set (i := 3) nd rfl (Or.inl rfl) (pe_op (oAdd (K := K)) (pe_op (oMul (K := K)) (pv 3) pe_int) (pe_call (ok__law_mixed T) hr (by rfl) T.m__law_mixed T.F__law_mixed.kp T.b__law_mixed .nil pass0 (pa_cons (pv 2) (pa_cons (pe_op (oAdd (K := K)) (pe_op (oAdd (K := K)) (pe_op (oMul (K := K)) pe_int (pv 1)) (pe_op (oMul (K := K)) pe_int (pv 4))) (pe_op (oMul (K := K)) (pv 4) (pv 4))) pa_nil)))))))
      (pss_one (ps_ret (pv 3))))))))
  · obtain ⟨c, ns, k, rfl, h1, h2, h3, h⟩ := h
    exact cell_run h1 h2 h3 h
theorem ok__law_take (T : Env K mg) : FnOk P w K mg base CX0 1 (He.ga K "_law_take") T.fd__law_take ["pile", "size"] spTakeS := by
  refine T.F__law_take.ok sc__law_take (fun vs H Q E h => ?_) (fun cdv A outer s H vs Q E hr h => ⟨t_take K, PSs.nox ?_, ?_⟩)
  · obtain ⟨p, c, b, rfl, _⟩ := h
    rfl
  · have nd := sc__law_take.nd
    exact (pss_cons (ps_set (i := 2) nd rfl (Or.inl rfl) (pe_op op_modN (pe_ix (ixM (K := K)) (pv 0) pe_int (fun _ _ => rfl)) (pv 1)))
      (pss_cons (ps_asg (pe_op op_fdivN (pe_ix (ixM (K := K)) (pv 0) pe_int (fun _ _ => rfl)) (pv 1)) (pg_sub (pv 0) pe_int set_M))
      (pss_one (ps_ret (pv 2)))))
  · obtain ⟨p, c, b, rfl, h1, h2, h⟩ := h
    exact take_runS h1 h2 h
theorem ok__law_run_end (T : Env K mg) : FnOk P w K mg base CX0 1 (He.ga K "_law_run_end") T.fd__law_run_end ["text_in", "at", "signs"] spRunEnd := by
  refine T.F__law_run_end.ok sc__law_run_end (fun vs H Q E h => ?_) (fun cdv A outer s H vs Q E hr h => ?_)
  · obtain ⟨cs, a, sg, rfl, _⟩ := h
    rfl
  · have nd := sc__law_run_end.nd
    refine ⟨_, PSs.nox (pss_cons (ps_set (i := 3) nd rfl (Or.inl rfl) (pv 1))
      (pss_cons (ps_while PassesOwn.never (PW.pt (pw_and (pt_cmpR op_ltM (pv 3) (pe_callB (cLenW (K := K)) (by rfl) T.z_len (by decide +kernel) (pa_cons (pv 0) pa_nil)) (nomark _)) (pw_and1 (pt_cmpR (oInW (K := K)) (pe_ix (ixW (K := K)) (pv 0) (pv 3) (fun _ _ => rfl)) (pv 2) (by rfl))))) (pss_one (ps_set (i := 3) nd rfl (Or.inl rfl) (pe_op (oAddS (K := K)) (pv 3) pe_int))))
      (pss_one (ps_ret (pv 3))))), ?_⟩
    obtain ⟨cs, a, sg, rfl, ha, hl, h⟩ := h
    have hz : cs.length ≤ sizeLine := Nat.le_trans hl (by decide)
    refine ⟨_, rfl, ?_⟩
    refine ⟨fun m σ H1 => ∃ b : Nat, m = cs.length - b ∧ b ≤ cs.length ∧ b + runL sg (cs.drop b) = a + runL sg (cs.drop a) ∧ H1 = H ∧ σ = [some (.str (toS cs)), some (.int a), some (.str (toS sg)), some (.int b)], ⟨_, a, rfl, ha, rfl, rfl, rfl⟩, ?_⟩
    rintro m σ H1 ⟨b, rfl, hb, he, rfl, rfl⟩
    have done : runL sg (cs.drop b) = 0 → Q (.int (b : Nat)) H1 := fun z => by
      rw [← he, z] at h
      exact h
    refine ⟨_, rfl, _, rfl, lenS hz ?_⟩
    by_cases hlt : b < cs.length
    · refine ⟨true, blT (by omega), ?_⟩
      have e := drop_cons hlt
      refine ⟨_, rfl, _, rfl, ixS hz e ⟨_, rfl, inS ?_⟩⟩
      by_cases hc : cs[b] ∈ sg
      · refine ⟨true, blT hc, ?_⟩
        have er : runL sg (cs.drop b) = runL sg (cs.drop (b + 1)) + 1 := by
          rw [e]
          show (if _ then _ else _) = _
          rw [if_pos hc]
        refine ⟨fun σ' H' => H' = H1 ∧ σ' = [some (.str (toS cs)), some (.int a), some (.str (toS sg)), some (.int ((b + 1 : Nat) : Int))], fun σ' H' hh => ⟨cs.length - (b + 1), by omega, b + 1, rfl, by omega, by omega, hh.1, hh.2⟩, ?_⟩
        exact ⟨_, rfl, rfl, rfl⟩
      · refine ⟨false, blF hc, _, rfl, done ?_⟩
        rw [e]
        show (if _ then _ else _) = _
        rw [if_neg hc]
    · refine ⟨false, blF (by omega), _, rfl, done ?_⟩
      rw [List.drop_eq_nil_of_le (by omega)]
      rfl
theorem ok__law_number_end (T : Env K mg) : FnOk P w K mg base CX0 2 (He.ga K "_law_number_end") T.fd__law_number_end ["text_in", "at"] spNumEnd := by
  refine T.F__law_number_end.ok sc__law_number_end (fun vs H Q E h => ?_) (fun cdv A outer s H vs Q E hr h => ?_)
  · obtain ⟨cs, a, c, t, rfl, _⟩ := h
    rfl
  · have nd := sc__law_number_end.nd
    refine ⟨_, PSs.nox (pss_cons (ps_set (i := 2) nd rfl (Or.inl rfl) (pe_call (ok__law_run_end T) hr (by rfl) T.m__law_run_end T.F__law_run_end.kp T.b__law_run_end .nil pass0 (pa_cons (pv 0) (pa_cons (pv 1) (pa_cons pe_str pa_nil)))))
      (pss_cons (ps_if (pt_cmpR (oEqW (K := K) hr.units) (pe_ix (ixW (K := K)) (pv 0) (pv 1) (fun _ _ => rfl)) pe_str (nomark _)) (pss_one (ps_ret (pe_tupS (pa_cons (pe_op (oAddS (K := K)) (pv 1) pe_int) (pa_cons pe_int pa_nil))))) pss_nil)
      (pss_cons (ps_set (i := 3) nd rfl (Or.inl rfl) (pe_op op_sub (pv 2) (pv 1)))
      (pss_cons (ps_if (PW.pt (pw_and (pt_cmpR (oEqW (K := K) hr.units) (pe_slice (slW (K := K)) (pv 0) (po_some (pv 2)) (po_some (pe_op (oAddS (K := K)) (pv 2) pe_int))) pe_str (nomark _)) (pw_and1 (pt_cmpR (oInW (K := K)) (pe_slice (slW (K := K)) (pv 0) (po_some (pe_op (oAddS (K := K)) (pv 2) pe_int)) (po_some (pe_op (oAddS (K := K)) (pv 2) pe_int))) (pe_lstS (pa_cons pe_str (pa_cons pe_str (pa_cons pe_str (pa_cons pe_str (pa_cons pe_str (pa_cons pe_str (pa_cons pe_str (pa_cons pe_str (pa_cons pe_str pa_nil)))))))))) (by rfl))))) (pss_cons (ps_set (i := 4) nd rfl (Or.inl rfl) (pe_op (oAddS (K := K)) (pv 2) pe_int))
      (pss_cons (ps_if (PW.pt (pw_and (pt_cmpR (oNeW (K := K) hr.units) (pe_slice (slW (K := K)) (pv 0) (po_some (pv 4)) (po_some (pe_op (oAddS (K := K)) (pv 4) pe_int))) pe_str (nomark _)) (pw_and1 (pt_cmpR (oInW (K := K)) (pe_ix (ixW (K := K)) (pv 0) (pv 4) (fun _ _ => rfl)) pe_str (by rfl))))) (pss_one (ps_set (i := 4) nd rfl (Or.inl rfl) (pe_op (oAddS (K := K)) (pv 4) pe_int))) pss_nil)
      (pss_one (ps_ret (pe_tupS (pa_cons (pv 4) (pa_cons (pe_op (oAddS (K := K)) (pv 3) (pe_callTy cIntW (by rfl) T.z_int (by decide +kernel) (pa_cons (pe_slice (slW (K := K)) (pv 0) (po_some (pe_op (oAddS (K := K)) (pv 2) pe_int)) (po_some (pv 4))) pa_nil))) pa_nil))))))) pss_nil)
      (pss_one (ps_ret (pe_tupS (pa_cons (pv 2) (pa_cons (pv 3) pa_nil))))))))), ?_⟩
    obtain ⟨cs, a, c, t, rfl, e, hf, hl, h⟩ := h
    have hz : cs.length ≤ sizeLine := Nat.le_trans hl (by decide)
    have hlen := congrArg List.length e
    rw [List.length_drop, List.length_cons] at hlen
    refine ⟨_, rfl, _, rfl, cs, a, figs, by rw [figs_lit]; rfl, by omega, hl, ?_⟩
    refine ⟨_, rfl, _, rfl, ixS hz e ?_⟩
    rw [n_lit]
    refine eqSc rfl ?_
    by_cases h0 : c = 48
    · subst h0
      refine ⟨true, blT rfl, _, rfl, (by show 2 ≤ sizeLine; decide), fun p H1 n1 s1 k1 => ?_⟩
      exact h p H1 n1 s1 k1
    refine ⟨false, blF (by rw [str_inj]; intro z; exact h0 (by injection z)), ?_⟩
    rw [e]
    have hn : numb (c :: t) = if noughts ((c :: t).drop (runL figs (c :: t))) = [] then (runL figs (c :: t), runL figs (c :: t)) else
        (runL figs (c :: t) + val (noughts ((c :: t).drop (runL figs (c :: t)))), runL figs (c :: t) + 1 + (noughts ((c :: t).drop (runL figs (c :: t)))).length) := by
      unfold numb
      split
      · rename_i z
        exact absurd (List.cons.inj z).1 h0
      · rfl
    have ed : (c :: t).drop (runL figs (c :: t)) = cs.drop (a + runL figs (c :: t)) := by rw [← e, List.drop_drop]
    rw [ed] at hn
    generalize hnn : runL figs (c :: t) = n at hn ed ⊢
    have hnl : n ≤ cs.length - a := by
      have := runL_le figs (c :: t)
      rw [hnn, ← e, List.length_drop] at this
      exact this
    refine ⟨_, rfl, _, rfl, _, _, rfl, rfl, ?_⟩
    refine ⟨_, rfl, _, rfl, _, rfl, _, rfl, _, rfl, slS_at (i := a + n) (j := a + n + 1) hz ?_⟩
    rw [e_lit, show a + n + 1 - (a + n) = 1 by omega]
    refine eqSc rfl ?_
    have e1 : cs.drop (a + n + 1) = (cs.drop (a + n)).drop 1 := by rw [List.drop_drop]
    have e2 : cs.drop (a + n + 2) = (cs.drop (a + n)).drop 2 := by rw [List.drop_drop]
    have plain : noughts (cs.drop (a + n)) = [] → ∀ p H', H p = none → Same H H' → H' p = some (.tup [.int ((a + n : Nat) : Int), .int (((a + n : Nat) : Int) - (a : Int))]) → Q (.ref p) H' := fun z p H' n1 s1 k1 => by
      rw [if_pos z] at hn
      refine h p H' n1 s1 ?_
      rw [hn, k1]
      refine congrArg (fun x => some (HO.tup [V.int ((a + n : Nat) : Int), V.int x])) ?_
      show ((a + n : Nat) : Int) - (a : Int) = (n : Nat)
      omega
    by_cases h1 : (cs.drop (a + n)).take 1 = [101]
    · refine ⟨true, blT (by rw [str_inj]; exact h1), ?_⟩
      refine ⟨_, rfl, _, rfl, _, rfl, _, rfl, _, rfl, slS_at (i := a + n + 1) (j := a + n + 2) hz ?_⟩
      rw [show a + n + 2 - (a + n + 1) = 1 by omega]
      obtain ⟨t1, et⟩ : ∃ t1, cs.drop (a + n) = 101 :: t1 := by
        cases e : cs.drop (a + n) with
        | nil => rw [e] at h1; cases h1
        | cons c t =>
          rw [e] at h1
          cases h1
          exact ⟨t, rfl⟩
      rw [et] at e1 e2
      have e1' : cs.drop (a + n + 1) = t1 := e1
      refine ⟨(by show 9 ≤ sizeLine; decide), fun p H1 n1 s1 k1 => ?_⟩
      refine inT (.inl (SqL.of k1)) nz_lit ?_
      rw [e1']
      by_cases h2 : t1.take 1 ∈ nz.map fun c => [c]
      · refine ⟨true, blT h2, ?_⟩
        obtain ⟨d, hd, hdt⟩ := List.mem_map.mp h2
        obtain ⟨t2, rfl⟩ : ∃ t2, t1 = d :: t2 := by
          cases t1 with
          | nil => cases hdt
          | cons x t2 =>
            cases hdt
            exact ⟨t2, rfl⟩
        have e2' : cs.drop (a + n + 2) = t2 := e2
        have hl2 : a + n + 2 ≤ cs.length := by
          have := congrArg List.length et
          rw [List.length_drop, List.length_cons, List.length_cons] at this
          omega
        refine ⟨_, rfl, ?_⟩
        refine ⟨_, rfl, _, rfl, _, rfl, _, rfl, _, rfl, slS_at (i := a + n + 2) (j := a + n + 2 + 1) hz ?_⟩
        rw [nil_lit, show a + n + 2 + 1 - (a + n + 2) = 1 by omega, e2']
        refine neSc rfl ?_
        have fin : ∀ (far : Nat) (wd : List Nat), (cs.drop (a + n + 1)).take (far - (a + n + 1)) = wd → noughts (cs.drop (a + n)) = wd → wd ≠ [] → far = a + n + 1 + wd.length →
            ∀ p H', H p = none → Same H H' → H' p = some (.tup [.int (far : Nat), .int (((a + n : Nat) : Int) - (a : Int) + (val wd : Nat))]) → Q (.ref p) H' := fun far wd _ hw hne hfar p H' n1 s1 k1 => by
          rw [hw, if_neg hne] at hn
          refine h p H' n1 s1 ?_
          rw [hn, k1]
          have z1 : ((far : Nat) : Int) = ((a + (n + 1 + wd.length) : Nat) : Int) := by omega
          have z2 : ((a + n : Nat) : Int) - (a : Int) + (val wd : Nat) = ((n + val wd : Nat) : Int) := by omega
          rw [z1, z2]
        cases t2 with
        | nil =>
          refine ⟨false, blN rfl, ?_⟩
          have hw : noughts (cs.drop (a + n)) = [d] := by
            rw [et]
            exact nou_one hd fun _ _ z => nomatch z
          refine ⟨_, rfl, _, rfl, _, rfl, _, rfl, _, rfl, _, rfl, _, rfl, slS_at (i := a + n + 1) (j := a + n + 2) hz ?_⟩
          rw [e1', show a + n + 2 - (a + n + 1) = 1 by omega]
          refine intT (int_val (w := [d]) (fun c hc => by rw [List.mem_singleton.mp hc]; exact nz_figs d hd) (by simp) (by simp)) (by rw [toS_len, List.length_take]; omega) ?_
          refine ⟨(by show 2 ≤ sizeLine; decide), fun p2 H2 n2 s2 k2 => ?_⟩
          exact fin (a + n + 2) [d] (by rw [e1', show a + n + 2 - (a + n + 1) = 1 by omega]; rfl) hw (by simp) rfl p2 H2 (Same.free s1 n2) (Same.trans s1 s2) k2
        | cons d2 t3 =>
          refine ⟨true, blNF (by rw [str_inj]; exact fun z => nomatch z), ?_⟩
          refine ⟨_, rfl, _, rfl, ixS hz e2' ?_⟩
          rw [figs_lit]
          refine inS ?_
          by_cases hd2 : d2 ∈ figs
          · refine ⟨true, blT hd2, _, rfl, ?_⟩
            have hw : noughts (cs.drop (a + n)) = [d, d2] := by
              rw [et]
              exact nou_two hd hd2
            refine ⟨_, rfl, _, rfl, _, rfl, _, rfl, _, rfl, _, rfl, _, rfl, slS_at (i := a + n + 1) (j := a + n + 2 + 1) hz ?_⟩
            rw [e1', show a + n + 2 + 1 - (a + n + 1) = 2 by omega]
            refine intT (int_val (w := [d, d2]) (fun c hc => ?_) (by simp) (by simp)) (by rw [toS_len, List.length_take]; omega) ?_
            · rcases List.mem_cons.mp hc with rfl | hc
              · exact nz_figs _ hd
              · rw [List.mem_singleton.mp hc]
                exact hd2
            refine ⟨(by show 2 ≤ sizeLine; decide), fun p2 H2 n2 s2 k2 => ?_⟩
            exact fin (a + n + 2 + 1) [d, d2] (by rw [e1', show a + n + 2 + 1 - (a + n + 1) = 2 by omega]; rfl) hw (by simp) rfl p2 H2 (Same.free s1 n2) (Same.trans s1 s2) k2
          · refine ⟨false, blF hd2, ?_⟩
            have hw : noughts (cs.drop (a + n)) = [d] := by
              rw [et]
              exact nou_one hd fun x y z => by cases z; exact hd2
            refine ⟨_, rfl, _, rfl, _, rfl, _, rfl, _, rfl, _, rfl, _, rfl, slS_at (i := a + n + 1) (j := a + n + 2) hz ?_⟩
            rw [e1', show a + n + 2 - (a + n + 1) = 1 by omega]
            refine intT (int_val (w := [d]) (fun c hc => by rw [List.mem_singleton.mp hc]; exact nz_figs d hd) (by simp) (by simp)) (by rw [toS_len, List.length_take]; omega) ?_
            refine ⟨(by show 2 ≤ sizeLine; decide), fun p2 H2 n2 s2 k2 => ?_⟩
            exact fin (a + n + 2) [d] (by rw [e1', show a + n + 2 - (a + n + 1) = 1 by omega]; rfl) hw (by simp) rfl p2 H2 (Same.free s1 n2) (Same.trans s1 s2) k2
      · refine ⟨false, blF h2, ?_⟩
        have hw : noughts (cs.drop (a + n)) = [] := by
          rw [et]
          refine nou_none fun d t z hd => h2 ?_
          cases z
          exact List.mem_map.mpr ⟨d, hd, rfl⟩
        refine ⟨_, rfl, _, rfl, (by show 2 ≤ sizeLine; decide), fun p2 H2 n2 s2 k2 => ?_⟩
        exact plain hw p2 H2 (Same.free s1 n2) (Same.trans s1 s2) k2
    · refine ⟨false, blF (by rw [str_inj]; exact h1), ?_⟩
      have hw : noughts (cs.drop (a + n)) = [] := nou_none fun d t z _ => h1 (by rw [z]; rfl)
      refine ⟨_, rfl, _, rfl, (by show 2 ≤ sizeLine; decide), fun p2 H2 n2 s2 k2 => ?_⟩
      exact plain hw p2 H2 n2 s2 k2
theorem ok__law_word_at (T : Env K mg) : FnOk P w K mg base CX0 3 (He.ga K "_law_word_at") T.fd__law_word_at ["text_in", "at"] spLawWordAt := by
  refine T.F__law_word_at.ok sc__law_word_at (fun vs H Q E h => ?_) (fun cdv A outer s H vs Q E hr h => ?_)
  · obtain ⟨cs, a, rfl, _⟩ := h
    rfl
  · have nd := sc__law_word_at.nd
    refine ⟨_, PSs.nox (pss_cons (ps_set (i := 2) nd rfl (Or.inl rfl) pe_str)
      (pss_cons (ps_set (i := 3) nd rfl (Or.inl rfl) pe_str)
      (pss_cons (ps_if (PW.pt (pw_or (pt_cmpR (oInW (K := K)) (pe_ix (ixW (K := K)) (pv 0) (pv 1) (fun _ _ => rfl)) (pv 2) (by rfl)) (pw_or1 (pt_cmpR (oInW (K := K)) (pe_ix (ixW (K := K)) (pv 0) (pv 1) (fun _ _ => rfl)) (pv 3) (by rfl))))) (pss_cons (ps_set (i := 4) nd rfl (Or.inl rfl) pe_str)
      (pss_cons (ps_if (pt_cmpR (oInW (K := K)) (pe_ix (ixW (K := K)) (pv 0) (pv 1) (fun _ _ => rfl)) (pv 2) (by rfl)) (pss_cons (ps_set (i := 5) nd rfl (Or.inl rfl) (pe_call (ok__law_run_end T) (hr.mono (by decide)) (by rfl) T.m__law_run_end T.F__law_run_end.kp T.b__law_run_end .nil pass0 (pa_cons (pv 0) (pa_cons (pv 1) (pa_cons (pv 2) pa_nil)))))
      (pss_cons (ps_set (i := 6) nd rfl (Or.inl rfl) (pe_op (oAddS (K := K)) (pe_op op_sub (pv 5) (pv 1)) pe_int))
      (pss_cons (ps_set (i := 4) nd rfl (Or.inl rfl) pe_str)
      (pss_one (ps_if (pt_cmpR (oInW (K := K)) (pe_slice (slW (K := K)) (pv 0) (po_some (pv 1)) (po_some (pv 5))) (pe_lstS (pa_cons pe_str (pa_cons pe_str (pa_cons pe_str (pa_cons pe_str (pa_cons pe_str (pa_cons pe_str (pa_cons pe_str (pa_cons pe_str (pa_cons pe_str (pa_cons pe_str pa_nil))))))))))) (by rfl)) (pss_one (ps_set (i := 4) nd rfl (Or.inl rfl) pe_str)) pss_nil))))) (pss_one (ps_asg (pe_call (ok__law_number_end T) hr (by rfl) T.m__law_number_end T.F__law_number_end.kp T.b__law_number_end .nil pass0 (pa_cons (pv 0) (pa_cons (pv 1) pa_nil))) (pgTup (K := K) (n := 2) rfl (pgs_cons (pg_name (i := 5) nd rfl (Or.inl rfl)) (pgs_cons (pg_name (i := 6) nd rfl (Or.inl rfl)) pgs_nil))))))
      (pss_cons (ps_if (PW.pt (pw_or (pt_cmpR op_gtM (pv 6) pe_int (nomark _)) (pw_or1 (PW.pt (pw_and (pt_cmpR (oNeW (K := K) hr.units) (pe_slice (slW (K := K)) (pv 0) (po_some (pv 5)) (po_some (pe_op (oAddS (K := K)) (pv 5) pe_int))) pe_str (nomark _)) (pw_and1 (pt_cmpR (oInW (K := K)) (pe_ix (ixW (K := K)) (pv 0) (pv 5) (fun _ _ => rfl)) (pe_op (oAddS (K := K)) (pv 2) (pv 3)) (by rfl)))))))) (pss_one (ps_ret pe_non)) pss_nil)
      (pss_one (ps_ret (pe_tupS (pa_cons (pv 4) (pa_cons (pe_slice (slW (K := K)) (pv 0) (po_some (pv 1)) (po_some (pv 5))) (pa_cons (pv 1) pa_nil))))))))) pss_nil)
      (pss_cons (ps_if (pt_cmpR (oInW (K := K)) (pe_slice (slW (K := K)) (pv 0) (po_some (pv 1)) (po_some (pe_op (oAddS (K := K)) (pv 1) pe_int))) (pe_lstS (pa_cons pe_str (pa_cons pe_str (pa_cons pe_str (pa_cons pe_str (pa_cons pe_str (pa_cons pe_str pa_nil))))))) (by rfl)) (pss_one (ps_ret (pe_tupS (pa_cons pe_str (pa_cons (pe_slice (slW (K := K)) (pv 0) (po_some (pv 1)) (po_some (pe_op (oAddS (K := K)) (pv 1) pe_int))) (pa_cons (pv 1) pa_nil)))))) pss_nil)
      (pss_cons (ps_if (pt_cmpR (oInW (K := K)) (pe_ix (ixW (K := K)) (pv 0) (pv 1) (fun _ _ => rfl)) pe_str (by rfl)) (pss_one (ps_ret (pe_tupS (pa_cons pe_str (pa_cons (pe_ix (ixW (K := K)) (pv 0) (pv 1) (fun _ _ => rfl)) (pa_cons (pv 1) pa_nil)))))) pss_nil)
      (pss_one (ps_ret pe_non))))))), ?_⟩
    obtain ⟨cs, a, rfl, ha, hl, hb, hg⟩ := h
    have hz : cs.length ≤ sizeLine := Nat.le_trans hl (by decide)
    have e := drop_cons ha
    generalize hr' : cs.drop a = r at e hb hg
    generalize cs[a] = c at e
    generalize cs.drop (a + 1) = t at e
    subst e
    rw [lets_lit, figs_lit]
    refine ⟨_, rfl, _, rfl, ixS hz hr' ⟨_, rfl, inS ?_⟩⟩
    by_cases hc : c ∈ lets
    · refine ⟨true, blT hc, _, rfl, _, rfl, ixS hz hr' ⟨_, rfl, inS ⟨true, blT hc, ?_⟩⟩⟩
      refine ⟨_, rfl, _, rfl, _, rfl, cs, a, lets, rfl, by omega, hl, ?_⟩
      rw [hr']
      refine ⟨_, rfl, _, rfl, _, _, rfl, rfl, ?_⟩
      refine ⟨_, rfl, _, rfl, _, rfl, _, rfl, _, rfl, slS_at (i := a) hz ?_⟩
      rw [hr', Nat.add_sub_cancel_left]
      refine ⟨(by show 10 ≤ sizeLine; decide), fun p H1 n1 s1 k1 => ?_⟩
      refine inT (.inl (SqL.of k1)) kept_lit ?_
      have ed : (c :: t).drop (runL lets (c :: t)) = cs.drop (a + runL lets (c :: t)) := by rw [← hr', List.drop_drop]
      have fin : ∀ so : Str, so = (if (c :: t).take (runL lets (c :: t)) ∈ kept then ("kept" : Str) else ("name" : Str)) → ¬ longL (c :: t) → ∀ p H', H1 p = none → Same H1 H' → H' p = some (.tup (woV (so, (c :: t).take (runL lets (c :: t)), a))) → Q (.ref p) H' := fun so hso hs p H' n2 s2 k2 =>
        hg _ _ (wa_let hc hs) p H' (Same.free s1 n2) (Same.trans s1 s2) (by rw [k2, hso])
      by_cases hk : (c :: t).take (runL lets (c :: t)) ∈ kept
      case' pos => refine ⟨true, blT hk, ?_⟩
      case' neg => refine ⟨false, blF hk, ?_⟩
      all_goals
        refine ⟨_, rfl, ?_⟩
        by_cases h1 : 12 < runL lets (c :: t)
        · exact ⟨true, blT (by first | omega | (dsimp only; omega)), hb (wa_letL hc (.inl h1)) _ s1⟩
        refine ⟨false, blF (by first | omega | (dsimp only; omega)), ?_⟩
        refine ⟨_, rfl, _, rfl, _, rfl, _, rfl, _, rfl, slS_at (i := a + runL lets (c :: t)) (j := a + runL lets (c :: t) + 1) hz ?_⟩
        rw [nil_lit, ← ed]
        refine neSc rfl ?_
        cases hx : (c :: t).drop (runL lets (c :: t)) with
        | nil =>
          rw [List.take_nil]
          refine ⟨false, blN rfl, ?_⟩
          refine ⟨_, rfl, _, rfl, _, rfl, _, rfl, _, rfl, _, rfl, slS_at (i := a) hz ?_⟩
          rw [hr', Nat.add_sub_cancel_left]
          refine ⟨_, rfl, (by show 3 ≤ sizeLine; decide), fun p2 H2 n2 s2 k2 => ?_⟩
          refine fin _ (by first | exact (if_pos hk).symm | exact (if_neg hk).symm) (fun z => ?_) p2 H2 n2 s2 k2
          rcases z with z | z
          · exact h1 z
          · rw [hx] at z
            cases z
        | cons x y =>
          rw [show a + runL lets (c :: t) + 1 - (a + runL lets (c :: t)) = 1 by omega]
          refine ⟨true, blNF (by rw [str_inj]; exact fun z => nomatch z), ?_⟩
          refine ⟨_, rfl, _, rfl, ixS hz (ed.symm.trans hx) ⟨_, rfl, _, rfl, by decide, ?_⟩⟩
          rw [toS_app]
          refine inS ?_
          by_cases h2 : x ∈ lets ++ figs
          · exact ⟨true, blT h2, hb (wa_letL hc (.inr (by rw [hx]; exact decide_eq_true h2))) _ s1⟩
          refine ⟨false, blF h2, ?_⟩
          refine ⟨_, rfl, _, rfl, _, rfl, _, rfl, _, rfl, _, rfl, slS_at (i := a) hz ?_⟩
          rw [hr', Nat.add_sub_cancel_left]
          refine ⟨_, rfl, (by show 3 ≤ sizeLine; decide), fun p2 H2 n2 s2 k2 => ?_⟩
          refine fin _ (by first | exact (if_pos hk).symm | exact (if_neg hk).symm) (fun z => ?_) p2 H2 n2 s2 k2
          rcases z with z | z
          · exact h1 z
          · rw [hx] at z
            exact h2 (of_decide_eq_true z)
    refine ⟨false, blF hc, _, rfl, _, rfl, ixS hz hr' ⟨_, rfl, inS ?_⟩⟩
    by_cases hf : c ∈ figs
    · refine ⟨true, blT hf, _, rfl, _, rfl, ixS hz hr' ⟨_, rfl, inS ⟨false, blF hc, ?_⟩⟩⟩
      refine ⟨_, rfl, _, rfl, cs, a, c, t, rfl, hr', hf, hl, fun p H1 n1 s1 k1 => ?_⟩
      refine ⟨p, _, rfl, .inl (.inl k1), rfl, _, _, rfl, _, _, rfl, rfl, ?_⟩
      have ed : (c :: t).drop (numb (c :: t)).2 = cs.drop (a + (numb (c :: t)).2) := by rw [← hr', List.drop_drop]
      have fin : ¬ longF (c :: t) → ∀ p H', H1 p = none → Same H1 H' → H' p = some (.tup (woV (("number" : Str), (c :: t).take (numb (c :: t)).2, a))) → Q (.ref p) H' := fun hs p H' n2 s2 k2 =>
        hg _ _ (wa_fig hc hf hs) p H' (Same.free s1 n2) (Same.trans s1 s2) k2
      refine ⟨_, rfl, ?_⟩
      by_cases h1 : 18 < (numb (c :: t)).1
      · exact ⟨true, blT (by omega), hb (wa_figL hc hf (.inl h1)) _ s1⟩
      refine ⟨false, blF (by omega), ?_⟩
      refine ⟨_, rfl, _, rfl, _, rfl, _, rfl, _, rfl, slS_at (i := a + (numb (c :: t)).2) (j := a + (numb (c :: t)).2 + 1) hz ?_⟩
      rw [nil_lit, ← ed]
      refine neSc rfl ?_
      cases hx : (c :: t).drop (numb (c :: t)).2 with
      | nil =>
        rw [List.take_nil]
        refine ⟨false, blN rfl, ?_⟩
        refine ⟨_, rfl, _, rfl, _, rfl, _, rfl, _, rfl, _, rfl, slS_at (i := a) hz ?_⟩
        rw [hr', Nat.add_sub_cancel_left]
        refine ⟨_, rfl, (by show 3 ≤ sizeLine; decide), fun p2 H2 n2 s2 k2 => ?_⟩
        refine fin (fun z => ?_) p2 H2 n2 s2 k2
        rcases z with z | z
        · exact h1 z
        · rw [hx] at z
          cases z
      | cons x y =>
        rw [show a + (numb (c :: t)).2 + 1 - (a + (numb (c :: t)).2) = 1 by omega]
        refine ⟨true, blNF (by rw [str_inj]; exact fun z => nomatch z), ?_⟩
        refine ⟨_, rfl, _, rfl, ixS hz (ed.symm.trans hx) ⟨_, rfl, _, rfl, by decide, ?_⟩⟩
        rw [toS_app]
        refine inS ?_
        by_cases h2 : x ∈ lets ++ figs
        · exact ⟨true, blT h2, hb (wa_figL hc hf (.inr (by rw [hx]; exact decide_eq_true h2))) _ s1⟩
        refine ⟨false, blF h2, ?_⟩
        refine ⟨_, rfl, _, rfl, _, rfl, _, rfl, _, rfl, _, rfl, slS_at (i := a) hz ?_⟩
        rw [hr', Nat.add_sub_cancel_left]
        refine ⟨_, rfl, (by show 3 ≤ sizeLine; decide), fun p2 H2 n2 s2 k2 => ?_⟩
        refine fin (fun z => ?_) p2 H2 n2 s2 k2
        rcases z with z | z
        · exact h1 z
        · rw [hx] at z
          exact h2 (of_decide_eq_true z)
    refine ⟨false, blF hf, ?_⟩
    refine ⟨_, rfl, _, rfl, _, rfl, _, rfl, _, rfl, slS_at (i := a) (j := a + 2) hz ?_⟩
    rw [hr', show a + 2 - a = 2 by omega]
    refine ⟨(by show 6 ≤ sizeLine; decide), fun p H1 n1 s1 k1 => ?_⟩
    refine inT (.inl (SqL.of k1)) dbls_lit ?_
    by_cases h2 : (c :: t).take 2 ∈ dbls
    · refine ⟨true, blT h2, ?_⟩
      refine ⟨_, rfl, _, rfl, _, rfl, _, rfl, _, rfl, slS_at (i := a) (j := a + 2) hz ?_⟩
      rw [hr', show a + 2 - a = 2 by omega]
      exact ⟨_, rfl, (by show 3 ≤ sizeLine; decide), fun p2 H2 n2 s2 k2 => hg _ _ (wa_dbl hc hf h2) p2 H2 (Same.free s1 n2) (Same.trans s1 s2) k2⟩
    refine ⟨false, blF h2, ?_⟩
    refine ⟨_, rfl, _, rfl, ixS hz hr' ?_⟩
    rw [sings_lit]
    refine inS ?_
    by_cases h1 : c ∈ sings
    · refine ⟨true, blT h1, ?_⟩
      refine ⟨_, rfl, _, rfl, ixS hz hr' ?_⟩
      exact ⟨_, rfl, (by show 3 ≤ sizeLine; decide), fun p2 H2 n2 s2 k2 => hg _ _ (wa_sing hc hf h2 h1) p2 H2 (Same.free s1 n2) (Same.trans s1 s2) k2⟩
    · exact ⟨false, blF h1, hb (wa_none hc hf h2 h1) _ s1⟩
end
end P01

set_option Elab.async false
set_option linter.all false
set_option maxRecDepth 100000
set_option maxHeartbeats 4000000
namespace P01
open PySem L2 LK WD
abbrev ten : List Str := ["NoText", "NoTree", "NoPath", "NoNaming", "NoLetters", "NoCount", "NoTurning", "NoMap", "NoLine", "TooMany"]
theorem only_map : ∀ d ∈ ten, (List.range 10).filterMap (fun k => if decide (d = ten.getD k "") = true then some (V.str (ten.getD k "")) else none) = [V.str d] := by decide +kernel
theorem map_at {α : Type} {f : Str → α} {l : List Str} {i : Nat} {v : α} (h : (l.map f)[i]? = some v) : v = f (l.getD i "") := by
  rw [List.getElem?_map] at h
  obtain ⟨x, hx, rfl⟩ := Option.map_eq_some_iff.mp h
  rw [List.getD_eq_getElem?_getD, hx]
  rfl
theorem shaped_one : ∀ d ∈ ten, PySem.SeqAt.shaped (.list [.str d]) = true := by decide +kernel
def sp_only (K : PySem.W.Frag) : Sp := fun vs H Q _ => ∃ (a : Addr) (d : Str), vs = [.ref a, .str d] ∧ d ∈ ten ∧ Err H a (He.ga K d) ∧ ∀ H', Same H H' → Q (.bl true) H'
section
variable {P : Program} {w : World} {K : PySem.W.Frag} {mg : Str → Option Value} {base : Heap}
theorem ok__law_only (T : Env K mg) : FnOk P w K mg base CX0 1 (He.ga K "_law_only") T.fd__law_only ["caught", "name"] (sp_only K) := by
  refine T.F__law_only.ok sc__law_only (fun vs H Q E h => ?_) (fun cdv A outer s H vs Q E hr h => ?_)
  · obtain ⟨a, d, rfl, _⟩ := h
    rfl
  · have nd := sc__law_only.nd
    refine ⟨_, PSs.nox (pss_cons (ps_set (i := 2) nd rfl (Or.inl rfl) (pe_lstS (pa_cons pe_str (pa_cons pe_str (pa_cons pe_str (pa_cons pe_str (pa_cons pe_str (pa_cons pe_str (pa_cons pe_str (pa_cons pe_str (pa_cons pe_str pa_nil)))))))))))
      (pss_cons (ps_expr (peBm (K := K) PySem.F.plainAttrs_list PySem.F.slot_list_append PySem.F.type_list_append mt_appendS (pv 2) (pa_cons pe_str pa_nil)))
      (pss_cons (ps_set (i := 3) nd rfl (Or.inl rfl) (pe_lstS (pa_cons (pe_callB (cIsW (K := K)) (by rfl) T.z_isinstance (by decide +kernel) (pa_cons (pv 0) (pa_cons (pe_glob (v := .ref (He.ga K "NoText")) rfl T.m_NoText rfl) pa_nil))) (pa_cons (pe_callB (cIsW (K := K)) (by rfl) T.z_isinstance (by decide +kernel) (pa_cons (pv 0) (pa_cons (pe_glob (v := .ref (He.ga K "NoTree")) rfl T.m_NoTree rfl) pa_nil))) (pa_cons (pe_callB (cIsW (K := K)) (by rfl) T.z_isinstance (by decide +kernel) (pa_cons (pv 0) (pa_cons (pe_glob (v := .ref (He.ga K "NoPath")) rfl T.m_NoPath rfl) pa_nil))) pa_nil)))))
      (pss_cons (ps_set (i := 3) nd rfl (Or.inl rfl) (pe_op (oAddS (K := K)) (pv 3) (pe_lstS (pa_cons (pe_callB (cIsW (K := K)) (by rfl) T.z_isinstance (by decide +kernel) (pa_cons (pv 0) (pa_cons (pe_glob (v := .ref (He.ga K "NoNaming")) rfl T.m_NoNaming rfl) pa_nil))) (pa_cons (pe_callB (cIsW (K := K)) (by rfl) T.z_isinstance (by decide +kernel) (pa_cons (pv 0) (pa_cons (pe_glob (v := .ref (He.ga K "NoLetters")) rfl T.m_NoLetters rfl) pa_nil))) (pa_cons (pe_callB (cIsW (K := K)) (by rfl) T.z_isinstance (by decide +kernel) (pa_cons (pv 0) (pa_cons (pe_glob (v := .ref (He.ga K "NoCount")) rfl T.m_NoCount rfl) pa_nil))) pa_nil))))))
      (pss_cons (ps_set (i := 3) nd rfl (Or.inl rfl) (pe_op (oAddS (K := K)) (pv 3) (pe_lstS (pa_cons (pe_callB (cIsW (K := K)) (by rfl) T.z_isinstance (by decide +kernel) (pa_cons (pv 0) (pa_cons (pe_glob (v := .ref (He.ga K "NoTurning")) rfl T.m_NoTurning rfl) pa_nil))) (pa_cons (pe_callB (cIsW (K := K)) (by rfl) T.z_isinstance (by decide +kernel) (pa_cons (pv 0) (pa_cons (pe_glob (v := .ref (He.ga K "NoMap")) rfl T.m_NoMap rfl) pa_nil))) (pa_cons (pe_callB (cIsW (K := K)) (by rfl) T.z_isinstance (by decide +kernel) (pa_cons (pv 0) (pa_cons (pe_glob (v := .ref (He.ga K "NoLine")) rfl T.m_NoLine rfl) pa_nil))) pa_nil))))))
      (pss_cons (ps_expr (peBm (K := K) PySem.F.plainAttrs_list PySem.F.slot_list_append PySem.F.type_list_append mt_appendS (pv 3) (pa_cons (pe_callB (cIsW (K := K)) (by rfl) T.z_isinstance (by decide +kernel) (pa_cons (pv 0) (pa_cons (pe_glob (v := .ref (He.ga K "TooMany")) rfl T.m_TooMany rfl) pa_nil))) pa_nil)))
      (pss_cons (ps_if (pt_cmpR (oNeW (K := K) hr.units) (pe_lc (own := [("one", 4), ("here", 5)]) (g := _) rfl nd (pi_zip (by rfl) T.z_zip (pa_cons (pv 2) (pa_cons (pv 3) pa_nil))) (blkOk_by (own := [("one", 4), ("here", 5)]) (N := N__law_only) (sc := defScope s__law_only) (by decide +kernel)) (fun _ _ _ _ _ => (pgTup (K := K) (n := 2) rfl (pgs_cons (pg_name (i := 4) nd rfl (Or.inl rfl)) (pgs_cons (pg_name (i := 5) nd rfl (Or.inl rfl)) pgs_nil)))) (fun _ _ _ _ _ => (pts_one (ptT (K := K) (pv 5)))) (fun _ _ _ _ _ => (pv 4))) (pe_lstS (pa_cons (pv 1) pa_nil)) (nomark _)) (pss_one (ps_ret pe_bl)) pss_nil)
      (pss_cons (ps_if (PW.pt (pw_or (ptT (K := K) (pe_callB (cIsW (K := K)) (by rfl) T.z_isinstance (by decide +kernel) (pa_cons (pv 0) (pa_cons (pe_bltn (v := .ty "LookupError") (u := .type "LookupError") rfl T.z_LookupError (by decide +kernel) rfl) pa_nil)))) (pw_or1 (ptT (K := K) (pe_callB (cIsW (K := K)) (by rfl) T.z_isinstance (by decide +kernel) (pa_cons (pv 0) (pa_cons (pe_bltn (v := .ty "ArithmeticError") (u := .type "ArithmeticError") rfl T.z_ArithmeticError (by decide +kernel) rfl) pa_nil))))))) (pss_one (ps_ret pe_bl)) pss_nil)
      (pss_one (ps_ret (pe_and (pe_callB (cIsW (K := K)) (by rfl) T.z_isinstance (by decide +kernel) (pa_cons (pv 0) (pa_cons (pe_glob (v := .ref (He.ga K "LeanError")) rfl T.m_LeanError rfl) pa_nil))) (pe_one (pe_callB (cIsW (K := K)) (by rfl) T.z_isinstance (by decide +kernel) (pa_cons (pv 0) (pa_cons (pe_bltn (v := .ty "ValueError") (u := .type "ValueError") rfl T.z_ValueError (by decide +kernel) rfl) pa_nil))))))))))))))), ?_⟩
    obtain ⟨a, d, rfl, hd, he, h⟩ := h
    have ec := T.kinds.ec d hd
    have own := T.kinds.own d hd
    refine ⟨(by show 9 ≤ sizeLine; decide), fun q H1 nq s1 k1 => ?_⟩
    -- names.append('TooMany')
    refine ⟨_, rfl, .inl ⟨rfl, _, SqL.of k1⟩, q, _, _, rfl, rfl, k1, (by show 9 < sizeLine; decide), fun H2 k2 b2 => ?_⟩
    have s2 : Same H H2 := Same.but s1 nq b2
    have e2 := he.same s2
    -- some = [..]
    refine ⟨_, rfl, isErr e2 ec (.own _) (own "NoText" (by simp)) ⟨_, rfl, isErr e2 ec (.own _) (own "NoTree" (by simp)) ⟨_, rfl, isErr e2 ec (.own _) (own "NoPath" (by simp)) ⟨(by show 3 ≤ sizeLine; decide), fun q3 H3 n3 s3 k3 => ?_⟩⟩⟩⟩
    have e3 := e2.same s3
    refine ⟨_, rfl, ⟨_, rfl, isErr e3 ec (.own _) (own "NoNaming" (by simp)) ⟨_, rfl, isErr e3 ec (.own _) (own "NoLetters" (by simp)) ⟨_, rfl, isErr e3 ec (.own _) (own "NoCount" (by simp)) ⟨(by show 3 ≤ sizeLine; decide), fun q4 H4 n4 s4 k4 => ?_⟩⟩⟩⟩⟩
    refine .inl ⟨_, _, s4 _ _ k3, k4, (by show 6 ≤ sizeLine; decide), fun q5 H5 n5 s5 k5 => ?_⟩
    have e5 := (e3.same s4).same s5
    refine ⟨_, rfl, ⟨_, rfl, isErr e5 ec (.own _) (own "NoTurning" (by simp)) ⟨_, rfl, isErr e5 ec (.own _) (own "NoMap" (by simp)) ⟨_, rfl, isErr e5 ec (.own _) (own "NoLine" (by simp)) ⟨(by show 3 ≤ sizeLine; decide), fun q6 H6 n6 s6 k6 => ?_⟩⟩⟩⟩⟩
    refine .inl ⟨_, _, s6 _ _ k5, k6, (by show 9 ≤ sizeLine; decide), fun q7 H7 n7 s7 k7 => ?_⟩
    have e7 := (e5.same s6).same s7
    refine ⟨_, rfl, .inl ⟨rfl, _, SqL.of k7⟩, ?_⟩
    refine ⟨_, rfl, isErr e7 ec (.own _) (own "TooMany" (by simp)) ⟨q7, _, _, rfl, rfl, k7, (by show 9 < sizeLine; decide), fun H8 k8 b8 => ?_⟩⟩
    have t6 : Same H2 H6 := Same.trans (Same.trans (Same.trans s3 s4) s5) s6
    have t7 : Same H2 H7 := Same.trans t6 s7
    have s8 : Same H2 H8 := Same.but t7 (Same.free t6 n7) b8
    have e8 := e2.same s8
    have kq := s8 _ _ k2
    have t8 := Same.trans s2 s8
    -- the names told
    refine ⟨_, rfl, _, rfl, q, q7, _, _, rfl, SqL.of kq, SqL.of k8, fun D hD => ?_⟩
    refine lc_map (walk_zip (n := 10) rfl) (fun k => if decide (d = ten.getD k "") = true then some (V.str (ten.getD k "")) else none) hD (by decide) (fun H' s' => ⟨SqL.of (s' _ _ kq), SqL.of (s' _ _ k8)⟩) (fun i x H3 H4 hi s' y Ry Rn hy hn => ?_) (fun H' s' kD => ?_)
    · obtain ⟨T1, v1, v2, rfl, hT, rfl, g1, g2⟩ := y
      have w1 : v1 = .str (ten.getD i "") := map_at (f := V.str) (l := ten) g1
      have w2 : v2 = .bl (decide (d = ten.getD i "")) := map_at (f := fun c => V.bl (decide (d = c))) (l := ten) g2
      subst w1 w2
      refine ⟨_, _, rfl, sqT_new, rfl, _, _, rfl, _, _, rfl, rfl, rfl, ?_⟩
      refine ⟨_, rfl, decide (d = ten.getD i ""), rfl, ?_⟩
      by_cases hb : d = ten.getD i ""
      · rw [decide_eq_true hb] at hy ⊢
        exact ⟨_, rfl, hy _ _ (Same.new hT) rfl⟩
      · rw [decide_eq_false hb] at hn ⊢
        exact hn _ (Same.new hT) rfl
    · rw [only_map d hd] at kD
      have e9 := e8.same s'
      refine ⟨_, rfl, (by show 1 ≤ sizeLine; decide), fun p H9 np s9 k9 => neSame (.lst (SqL.of (s9 _ _ kD)) (dp_strs [d])) (.lst (SqL.of k9) (dp_strs [d])) (shaped_one d hd) ⟨false, rfl, ?_⟩⟩
      have e10 := e9.same s9
      refine ⟨_, rfl, isErr e10 ec (.ty _) (T.kinds.lo d hd) ⟨false, rfl, ?_⟩⟩
      refine ⟨_, rfl, isErr e10 ec (.ty _) (T.kinds.ar d hd) ⟨false, rfl, ?_⟩⟩
      refine ⟨_, rfl, isErr e10 ec (.own _) (T.kinds.top d hd) ⟨true, rfl, ?_⟩⟩
      exact ⟨_, rfl, isErr e10 ec (.ty _) (T.kinds.ve d hd) (h _ (Same.trans t8 (Same.trans s' s9)))⟩
end
section
variable {P : Program} {w : World} {K : PySem.W.Frag} {mg : Str → Option Value} {base : Heap}
theorem ok__law_words (T : Env K mg) : FnOk P w K mg base CX0 4 (He.ga K "_law_words") T.fd__law_words ["text_in"] (spLawWords K) := by
  refine T.F__law_words.ok sc__law_words (fun vs H Q E h => ?_) (fun cdv A outer s H vs Q E hr h => ?_)
  · obtain ⟨cs, rfl, _⟩ := h
    rfl
  · have nd := sc__law_words.nd
    refine ⟨_, PSs.nox (pss_cons (ps_set (i := 1) nd rfl (Or.inl rfl) (pe_lstS pa_nil))
      (pss_cons (ps_set (i := 2) nd rfl (Or.inl rfl) pe_int)
      (pss_cons (ps_while PassesOwn.never (pt_cmpR op_ltM (pv 2) (pe_callB (cLenW (K := K)) (by rfl) T.z_len (by decide +kernel) (pa_cons (pv 0) pa_nil)) (nomark _)) (pss_one (ps_if (pt_cmpR (oInW (K := K)) (pe_ix (ixW (K := K)) (pv 0) (pv 2) (fun _ _ => rfl)) pe_str (by rfl)) (pss_one (ps_set (i := 2) nd rfl (Or.inl rfl) (pe_op (oAddS (K := K)) (pv 2) pe_int))) (pss_cons (ps_set (i := 3) nd rfl (Or.inl rfl) (pe_call (ok__law_word_at T) hr (by rfl) T.m__law_word_at T.F__law_word_at.kp T.b__law_word_at .nil pass0 (pa_cons (pv 0) (pa_cons (pv 2) pa_nil))))
      (pss_cons (ps_if (pt_cmpR op_isN (pv 3) pe_non (nomark _)) (pss_one (ps_ret (pe_tupS (pa_cons (pv 1) (pa_cons (pv 2) pa_nil))))) pss_nil)
      (pss_cons (ps_expr (peBm (K := K) PySem.F.plainAttrs_list PySem.F.slot_list_append PySem.F.type_list_append mt_appendS (pv 1) (pa_cons (pv 3) pa_nil)))
      (pss_one (ps_set (i := 2) nd rfl (Or.inl rfl) (pe_op (oAddS (K := K)) (pv 2) (pe_callB (cLenW (K := K)) (by rfl) T.z_len (by decide +kernel) (pa_cons (pe_ix (ixW (K := K)) (pv 3) pe_int (fun _ _ => rfl)) pa_nil)))))))))))
      (pss_one (ps_ret (pe_tupS (pa_cons (pv 1) (pa_cons pe_non pa_nil)))))))), ?_⟩
    obtain ⟨cs, rfl, hl, hg⟩ := h
    have hz : cs.length ≤ sizeLine := Nat.le_trans hl (by decide)
    refine ⟨(by show 0 ≤ sizeLine; decide), fun p H1 n1 s1 k1 => ?_⟩
    refine ⟨fun m σ H2 => ∃ (a : Nat) (vs : List V) (done : List Wo) (x : Option V), m = cs.length - a ∧ σ = [some (.str (toS cs)), some (.ref p), some (.int a), x] ∧ Same H H2 ∧ H2 p = some (.lst vs) ∧ Tups K H2 vs done ∧
        (words cs).1 = done ++ (wordsAt cs a).1 ∧ (words cs).2 = (wordsAt cs a).2 ∧ done.length ≤ a ∧ a ≤ cs.length,
      ⟨_, 0, [], [], none, rfl, rfl, s1, k1, .nil, rfl, rfl, Nat.le_refl _, Nat.zero_le _⟩, ?_⟩
    rintro m σ H2 ⟨a, vs, done, x, rfl, rfl, e2, k2, tp, w1, w2, hd, ha⟩
    refine ⟨_, rfl, _, rfl, lenS hz ?_⟩
    by_cases hlt : a < cs.length
    · refine ⟨true, blT (by omega), ?_⟩
      have e := drop_cons hlt
      refine ⟨fun σ' H' => ∃ (a' : Nat) (vs : List V) (done : List Wo) (x : Option V), a < a' ∧ σ' = [some (.str (toS cs)), some (.ref p), some (.int a'), x] ∧ Same H H' ∧ H' p = some (.lst vs) ∧ Tups K H' vs done ∧
        (words cs).1 = done ++ (wordsAt cs a').1 ∧ (words cs).2 = (wordsAt cs a').2 ∧ done.length ≤ a' ∧ a' ≤ cs.length, ?_, ?_⟩
      · rintro σ' H' ⟨a', vs, done, x, h1, rfl, h2, h3, h4, h5, h6, h7, h8⟩
        exact ⟨cs.length - a', by omega, a', vs, done, x, rfl, rfl, h2, h3, h4, h5, h6, h7, h8⟩
      refine ⟨_, rfl, _, rfl, ixS hz e ?_⟩
      rw [blank_lit]
      refine inS ?_
      by_cases hbl : cs[a] ∈ [32, 10]
      · refine ⟨true, blT hbl, ?_⟩
        have z := wordsAt_blank e hbl
        rw [z] at w1 w2
        exact ⟨_, rfl, a + 1, vs, done, x, Nat.lt_succ_self a, rfl, e2, k2, tp, w1, w2, by omega, hlt⟩
      refine ⟨false, blF hbl, ?_⟩
      refine ⟨_, rfl, _, rfl, cs, a, rfl, hlt, hl, fun hn H3 s3 => ?_, fun sort n hs q H3 n3 s3 k3 => ?_⟩
      · rw [e] at hn
        have z := wordsAt_bad e hbl hn
        rw [z] at w1 w2
        rw [List.append_nil] at w1
        refine ⟨_, rfl, rfl, true, rfl, ?_⟩
        refine ⟨_, rfl, _, rfl, (by show 2 ≤ sizeLine; decide), fun q H4 n4 s4 k4 => ?_⟩
        have s14 := Same.trans e2 (Same.trans s3 s4)
        exact hg q p H4 vs s14 (by rw [w2]; exact .inl (.inl k4)) n1 (s4 _ _ (s3 _ _ k2)) (by rw [w1]; exact tp.same (Same.trans s3 s4))
      have k2' := s3 _ _ k2
      refine ⟨_, rfl, rfl, false, rfl, ?_⟩
      have hlen : vs.length = done.length := tp.len
      have hz2 : 100000 < sizeLine := by decide
      refine ⟨_, rfl, .inl ⟨rfl, _, SqL.of k2'⟩, _, rfl, p, _, _, rfl, rfl, k2', by omega, fun H5 k5 b5 => ?_⟩
      have z := wordsAt_word e hbl (by rw [← e]; exact hs)
      have hn := word_len hs
      have hw : ((cs.drop a).take n).length = n := by rw [List.length_take]; omega
      have hcl := hn.2
      rw [List.length_drop] at hcl
      have nq : q ≠ p := fun z => by rw [z, k2'] at k3; cases k3
      have k3' : SqT K H3 q (woV (sort, (cs.drop a).take n, a)) := .inl (.inl k3)
      have k35 : SqT K H5 q (woV (sort, (cs.drop a).take n, a)) := But.seqT b5 k2' k3'
      refine ⟨_, rfl, _, rfl, ixT k35 (v := .str (toS ((cs.drop a).take n))) rfl (lenS (by rw [hw]; omega) ?_)⟩
      rw [hw]
      rw [z] at w1 w2
      have t4 : Tups K H3 (vs ++ [.ref q]) (done ++ [(sort, (cs.drop a).take n, a)]) := (tp.same s3).app k3'
      refine ⟨a + n, vs ++ [.ref q], done ++ [(sort, (cs.drop a).take n, a)], _, by omega, rfl, ?_, k5, t4.but b5 k2', ?_, w2, ?_, by omega⟩
      · exact Same.but (Same.trans e2 s3) n1 b5
      · rw [w1, List.append_assoc, e]
        rfl
      · rw [List.length_append, List.length_singleton]
        omega
    · refine ⟨false, blF (by omega), ?_⟩
      have z := wordsAt_end (by omega : cs.length ≤ a)
      rw [z] at w1 w2
      rw [List.append_nil] at w1
      refine ⟨_, rfl, (by show 2 ≤ sizeLine; decide), fun q H4 n4 s4 k4 => ?_⟩
      exact hg q p H4 vs (Same.trans e2 s4) (by rw [w2]; exact .inl (.inl k4)) n1 (s4 _ _ k2) (by rw [w1]; exact tp.same s4)
end
end P01

set_option Elab.async false
set_option linter.all false
set_option maxRecDepth 100000
set_option maxHeartbeats 4000000
namespace P01
open PySem L2 LK WD
def spDrawn : Sp := fun vs H Q _ => ∃ (p : Addr) (c : Int), vs = [.ref p] ∧ H p = some (.lst [.int c]) ∧ ∀ cs c' H', Txt 300 cs → H' p = some (.lst [.int c']) → But p H H' → Q (.str (toS cs)) H'
def spBent : Sp := fun vs H Q _ => ∃ (p : Addr) (c : Int) (n : Nat) (cs : List Nat), vs = [.ref p, .str (toS cs)] ∧ H p = some (.lst [.int c]) ∧ Txt n cs ∧ n ≤ 1000 ∧ ∀ cs' c' H', Txt (n + 1) cs' → H' p = some (.lst [.int c']) → But p H H' → Q (.str (toS cs')) H'
def spGood : Sp := fun vs H Q _ => ∃ cs : List Nat, vs = [.str (toS cs)] ∧ Txt 1000 cs ∧ ∀ H', Same H H' → Q (.bl true) H'
def sp_law (K : PySem.W.Frag) : Sp := fun vs H Q _ => ∃ (a : Addr) (ns : List Int), vs = [.ref a] ∧ SqL K H a (ns.map V.int) ∧ ns.length ≤ 63 ∧ ∀ H', Q (.bl true) H'
def signs : List Nat := [97, 101, 48, 57, 32, 10, 60, 61, 38, 124, 33, 46, 59, 90, 35, 95]
theorem signs_lit : ("ae09 \n<=&|!.;Z#_" : Str) = toS signs := by decide +kernel
theorem a_lit : ("a" : Str) = toS [97] := by decide +kernel
theorem nl_lit : ("\n" : Str) = toS [10] := by decide +kernel
abbrev L47 : List V := (([.str "let", .str "if", .str "else", .str "fn", .str "out", .str "a", .str "b", .str "letter", .str "zz", .str "abcdefghijkl", .str "0", .str "7", .str "10", .str "12e3"] ++
  [.str "9e17", .str "123456789012345678", .str "+", .str "-", .str "*", .str "/", .str "~", .str "<", .str ">", .str "<=", .str ">=", .str "==", .str "!="]) ++ [.str "&&", .str "||", .str "!", .str "?"]) ++
  [.str ":", .str ".", .str ",", .str "=", .str "(", .str ")", .str "{", .str "}", .str "[", .str "]", .str ";", .str "return", .str "fail", .str "try", .str "catch", .str "while"]
theorem all47 : ∀ v ∈ L47, txtB 18 v = true := List.all_eq_true.mp (by decide +kernel : List.all L47 (txtB 18) = true)
section
variable {P : Program} {w : World} {K : PySem.W.Frag} {mg : Str → Option Value} {base : Heap}
theorem ok__law_drawn (T : Env K mg) : FnOk P w K mg base CX0 2 (He.ga K "_law_drawn") T.fd__law_drawn ["pile"] spDrawn := by
  refine T.F__law_drawn.ok sc__law_drawn (fun vs H Q E h => ?_) (fun cdv A outer s H vs Q E hr h => ?_)
  · obtain ⟨p, c, rfl, _⟩ := h
    rfl
  · have nd := sc__law_drawn.nd
    refine ⟨_, PSs.nox (pss_cons (ps_set (i := 1) nd rfl (Or.inl rfl) (pe_lstS (pa_cons pe_str (pa_cons pe_str (pa_cons pe_str (pa_cons pe_str (pa_cons pe_str (pa_cons pe_str (pa_cons pe_str (pa_cons pe_str (pa_cons pe_str (pa_cons pe_str (pa_cons pe_str (pa_cons pe_str (pa_cons pe_str (pa_cons pe_str pa_nil))))))))))))))))
      (pss_cons (ps_set (i := 1) nd rfl (Or.inl rfl) (pe_op (oAddS (K := K)) (pv 1) (pe_lstS (pa_cons pe_str (pa_cons pe_str (pa_cons pe_str (pa_cons pe_str (pa_cons pe_str (pa_cons pe_str (pa_cons pe_str (pa_cons pe_str (pa_cons pe_str (pa_cons pe_str (pa_cons pe_str (pa_cons pe_str (pa_cons pe_str pa_nil))))))))))))))))
      (pss_cons (ps_set (i := 1) nd rfl (Or.inl rfl) (pe_op (oAddS (K := K)) (pv 1) (pe_lstS (pa_cons pe_str (pa_cons pe_str (pa_cons pe_str (pa_cons pe_str pa_nil)))))))
      (pss_cons (ps_set (i := 1) nd rfl (Or.inl rfl) (pe_op (oAddS (K := K)) (pv 1) (pe_lstS (pa_cons pe_str (pa_cons pe_str (pa_cons pe_str (pa_cons pe_str (pa_cons pe_str (pa_cons pe_str (pa_cons pe_str (pa_cons pe_str (pa_cons pe_str (pa_cons pe_str (pa_cons pe_str (pa_cons pe_str (pa_cons pe_str (pa_cons pe_str (pa_cons pe_str (pa_cons pe_str pa_nil)))))))))))))))))))
      (pss_cons (ps_set (i := 2) nd rfl (Or.inl rfl) (pe_ix (ixW (K := K)) (pe_lstS (pa_cons pe_str (pa_cons pe_str (pa_cons pe_str pa_nil)))) (pe_call (ok__law_take T) hr (by rfl) T.m__law_take T.F__law_take.kp T.b__law_take .nil pass0 (pa_cons (pv 0) (pa_cons pe_int pa_nil))) (fun _ _ => rfl)))
      (pss_cons (ps_for PassesOwn.never rfl (pi_range1 (by rfl) T.z_range (pa_cons (pe_call (ok__law_take T) hr (by rfl) T.m__law_take T.F__law_take.kp T.b__law_take .nil pass0 (pa_cons (pv 0) (pa_cons pe_int pa_nil))) pa_nil)) (pg_name (i := 3) nd rfl (Or.inl rfl)) (pss_one (ps_set (i := 2) nd rfl (Or.inl rfl) (pe_op (oAddS (K := K)) (pe_op (oAddS (K := K)) (pv 2) (pe_ix (ixW (K := K)) (pv 1) (pe_call (ok__law_take T) hr (by rfl) T.m__law_take T.F__law_take.kp T.b__law_take .nil pass0 (pa_cons (pv 0) (pa_cons (pe_callB (cLenW (K := K)) (by rfl) T.z_len (by decide +kernel) (pa_cons (pv 1) pa_nil)) pa_nil))) (fun _ _ => rfl))) (pe_ix (ixW (K := K)) (pe_lstS (pa_cons pe_str (pa_cons pe_str (pa_cons pe_str (pa_cons pe_str (pa_cons pe_str (pa_cons pe_str pa_nil))))))) (pe_call (ok__law_take T) hr (by rfl) T.m__law_take T.F__law_take.kp T.b__law_take .nil pass0 (pa_cons (pv 0) (pa_cons pe_int pa_nil))) (fun _ _ => rfl))))))
      (pss_one (ps_ret (pv 2))))))))), ?_⟩
    obtain ⟨p, c, rfl, kp, h⟩ := h
    refine ⟨(by show 14 ≤ sizeLine; decide), fun q1 H1 n1 s1 k1 => ?_⟩
    refine ⟨_, rfl, (by show 13 ≤ sizeLine; decide), fun q2 H2 n2 s2 k2 => .inl ⟨_, _, s2 _ _ k1, k2, (by show 27 ≤ sizeLine; decide), fun q3 H3 n3 s3 k3 => ?_⟩⟩
    refine ⟨_, rfl, (by show 4 ≤ sizeLine; decide), fun q4 H4 n4 s4 k4 => .inl ⟨_, _, s4 _ _ k3, k4, (by show 31 ≤ sizeLine; decide), fun q5 H5 n5 s5 k5 => ?_⟩⟩
    refine ⟨_, rfl, (by show 16 ≤ sizeLine; decide), fun q6 H6 n6 s6 k6 => .inl ⟨_, _, s6 _ _ k5, k6, (by show 47 ≤ sizeLine; decide), fun q7 H7 n7 s7 k7 => ?_⟩⟩
    have e7 : Same H H7 := Same.trans s1 (Same.trans s2 (Same.trans s3 (Same.trans s4 (Same.trans s5 (Same.trans s6 s7)))))
    have k7' : H7 q7 = some (.lst L47) := k7
    have hall := all47
    have hlen : L47.length = 47 := rfl
    clear k7
    generalize L47 = L at k7' hall hlen
    have k7 := k7'
    have kp7 := e7 _ _ kp
    have nq7 : q7 ≠ p := fun z => by rw [z, kp7] at k7; cases k7; simp at hlen
    -- text_in
    refine ⟨(by show 3 ≤ sizeLine; decide), fun q8 H8 n8 s8 k8 => ⟨_, rfl, p, _, _, rfl, s8 _ _ kp7, ⟨by decide, by decide⟩, fun H9 k9 b9 => ?_⟩⟩
    have nq8 : q8 ≠ p := (ne_of_none kp7 n8).symm
    obtain ⟨v, hv, mv⟩ := atI_mem (xs := ([.str "", .str " ", .str "\n"] : List V)) (fmod_range (a := c) (b := 3) (by decide)).1 (fmod_range (a := c) (b := 3) (by decide)).2
    obtain ⟨t0, rfl, x0⟩ := txtB_ok (n := 1) (List.all_eq_true.mp (show List.all ([.str "", .str " ", .str "\n"] : List V) (txtB 1) = true by decide +kernel) v mv)
    refine ixL (SqL.of (b9 _ _ nq8 k8)) hv ?_
    have kq9 := b9 _ _ nq7 (s8 _ _ k7)
    have b09 : But p H H9 := But.trans (But.of (Same.trans e7 s8)) b9
    -- the turns
    refine ⟨_, rfl, p, _, _, rfl, k9, ⟨by decide, by decide⟩, fun H10 k10 b10 => ?_⟩
    have r12 := fmod_range (a := c.fdiv 3) (b := 12) (by decide)
    obtain ⟨m, hm, hm12⟩ : ∃ m : Nat, (c.fdiv 3).fmod 12 = m ∧ m < 12 := ⟨((c.fdiv 3).fmod 12).toNat, by omega, by omega⟩
    rw [hm]
    refine ⟨(m : Int), rfl, by omega, by omega, ?_⟩
    rw [Int.toNat_natCast]
    refine for_range (lo := 0) (n := m) (fun j σ H' => ∃ (cs : List Nat) (c' : Int) (x : Option V), σ = [some (.ref p), some (.ref q7), some (.str (toS cs)), x] ∧ Txt (1 + 20 * j) cs ∧ H' p = some (.lst [.int c']) ∧ H' q7 = some (.lst L) ∧ But p H H')
      ⟨t0, _, none, rfl, x0, k10, b10 _ _ nq7 kq9, But.trans b09 b10⟩ (fun j σ G hj hp => ?_) (fun σ G hp => ?_)
    · obtain ⟨cs, c', x, rfl, hx, kG, kq, bG⟩ := hp
      refine ⟨_, rfl, _, rfl, _, rfl, _, rfl, lenL (SqL.of kq) ⟨p, c', _, rfl, kG, ?_, fun G1 kG1 bG1 => ?_⟩⟩
      · rw [hlen]
        exact ⟨by decide, by decide⟩
      rw [hlen] at kG1 ⊢
      obtain ⟨v1, hv1, mv1⟩ := atI_mem (xs := L) (i := c'.fmod 47) (fmod_range (by decide)).1 (by rw [hlen]; exact (fmod_range (by decide)).2)
      obtain ⟨t1, rfl, x1⟩ := txtB_ok (hall v1 mv1)
      have kq1 := bG1 _ _ nq7 kq
      refine ixL (SqL.of kq1) hv1 ?_
      have hz : 100000 < sizeLine := by decide
      refine ⟨by rw [toS_len, toS_len]; have := hx.2; have := x1.2; omega, ?_⟩
      rw [toS_app]
      refine ⟨(by show 6 ≤ sizeLine; decide), fun q9 G2 n9 sG2 k9' => ⟨_, rfl, p, _, _, rfl, sG2 _ _ kG1, ⟨by decide, by decide⟩, fun G3 kG3 bG3 => ?_⟩⟩
      have nq9 : q9 ≠ p := (ne_of_none kG1 n9).symm
      obtain ⟨v2, hv2, mv2⟩ := atI_mem (xs := ([.str "", .str " ", .str "\n", .str " ", .str "", .str "  "] : List V)) (i := (c'.fdiv 47).fmod 6) (fmod_range (by decide)).1 (fmod_range (by decide)).2
      obtain ⟨t2, rfl, x2⟩ := txtB_ok (n := 2) (List.all_eq_true.mp (show List.all ([.str "", .str " ", .str "\n", .str " ", .str "", .str "  "] : List V) (txtB 2) = true by decide +kernel) v2 mv2)
      refine ixL (SqL.of (bG3 _ _ nq9 k9')) hv2 ?_
      have xx := (hx.app x1).app x2
      refine ⟨by rw [toS_len, toS_len]; have := (hx.app x1).2; have := x2.2; omega, ?_⟩
      rw [toS_app]
      exact ⟨_, _, _, rfl, xx.mono (by omega), kG3, bG3 _ _ nq7 (sG2 _ _ kq1), But.trans bG (But.trans bG1 (But.trans (But.of sG2) bG3))⟩
    · obtain ⟨cs, c', x, rfl, hx, kG, kq, bG⟩ := hp
      exact ⟨_, rfl, h cs c' G (hx.mono (by omega)) kG bG⟩
theorem ok__law_bent (T : Env K mg) : FnOk P w K mg base CX0 2 (He.ga K "_law_bent") T.fd__law_bent ["pile", "text_in"] spBent := by
  refine T.F__law_bent.ok sc__law_bent (fun vs H Q E h => ?_) (fun cdv A outer s H vs Q E hr h => ?_)
  · obtain ⟨p, c, n, cs, rfl, _⟩ := h
    rfl
  · have nd := sc__law_bent.nd
    refine ⟨_, PSs.nox (pss_cons (ps_set (i := 2) nd rfl (Or.inl rfl) (pe_op op_modN (pe_call (ok__law_take T) hr (by rfl) T.m__law_take T.F__law_take.kp T.b__law_take .nil pass0 (pa_cons (pv 0) (pa_cons pe_int pa_nil))) (pe_op (oAddS (K := K)) (pe_callB (cLenW (K := K)) (by rfl) T.z_len (by decide +kernel) (pa_cons (pv 1) pa_nil)) pe_int)))
      (pss_cons (ps_set (i := 3) nd rfl (Or.inl rfl) (pe_ix (ixW (K := K)) pe_str (pe_call (ok__law_take T) hr (by rfl) T.m__law_take T.F__law_take.kp T.b__law_take .nil pass0 (pa_cons (pv 0) (pa_cons pe_int pa_nil))) (fun _ _ => rfl)))
      (pss_cons (ps_set (i := 4) nd rfl (Or.inl rfl) (pe_call (ok__law_take T) hr (by rfl) T.m__law_take T.F__law_take.kp T.b__law_take .nil pass0 (pa_cons (pv 0) (pa_cons pe_int pa_nil))))
      (pss_cons (ps_if (pt_cmpR (oEqW (K := K) hr.units) (pv 4) pe_int (nomark _)) (pss_one (ps_ret (pe_op (oAddS (K := K)) (pe_op (oAddS (K := K)) (pe_slice (slW (K := K)) (pv 1) po_none (po_some (pv 2))) (pv 3)) (pe_slice (slW (K := K)) (pv 1) (po_some (pv 2)) po_none)))) pss_nil)
      (pss_cons (ps_if (pt_cmpR (oEqW (K := K) hr.units) (pv 4) pe_int (nomark _)) (pss_one (ps_ret (pe_op (oAddS (K := K)) (pe_slice (slW (K := K)) (pv 1) po_none (po_some (pv 2))) (pe_slice (slW (K := K)) (pv 1) (po_some (pe_op (oAddS (K := K)) (pv 2) pe_int)) po_none)))) pss_nil)
      (pss_one (ps_ret (pe_op (oAddS (K := K)) (pe_op (oAddS (K := K)) (pe_slice (slW (K := K)) (pv 1) po_none (po_some (pv 2))) (pv 3)) (pe_slice (slW (K := K)) (pv 1) (po_some (pe_op (oAddS (K := K)) (pv 2) pe_int)) po_none))))))))), ?_⟩
    obtain ⟨p, c, n, cs, rfl, kp, hx, hn, h⟩ := h
    have hz2 : 100000 < sizeLine := by decide
    have hlx := hx.2
    have hz : cs.length ≤ sizeLine := by omega
    refine ⟨_, rfl, p, _, _, rfl, kp, ⟨by decide, by decide⟩, fun H1 k1 b1 => ?_⟩
    refine ⟨_, rfl, lenS hz ⟨_, _, rfl, rfl, (by show ((cs.length : Nat) : Int) + 1 ≠ 0; omega), ?_⟩⟩
    have rs := fmod_range (a := c.fmod 60) (b := ((cs.length : Nat) : Int) + 1) (by omega)
    obtain ⟨i, hi, hil⟩ : ∃ i : Nat, (c.fmod 60).fmod (((cs.length : Nat) : Int) + 1) = i ∧ i ≤ cs.length := ⟨((c.fmod 60).fmod (((cs.length : Nat) : Int) + 1)).toNat, by omega, by omega⟩
    rw [show (fun i j : Int => V.int (i.fmod j)) (c.fmod 60) (((cs.length : Nat) : Int) + 1) = V.int (i : Nat) from congrArg V.int hi]
    refine ⟨_, rfl, p, _, _, rfl, k1, ⟨by decide, by decide⟩, fun H2 k2 b2 => ?_⟩
    have r16 := fmod_range (a := c.fdiv 60) (b := 16) (by decide)
    obtain ⟨g, hg, hg16⟩ : ∃ g : Nat, (c.fdiv 60).fmod 16 = g ∧ g < 16 := ⟨((c.fdiv 60).fmod 16).toNat, by omega, by omega⟩
    rw [hg, signs_lit]
    have hgl : g < signs.length := hg16
    refine ixS (by decide) (drop_cons hgl) ?_
    have hsg : signs[g] < 1114112 := (by decide : ∀ x ∈ signs, x < 1114112) _ (List.getElem_mem hgl)
    generalize signs[g] = sg at hsg ⊢
    have xs : Txt 1 [sg] := ⟨fun c hc => by rw [List.mem_singleton.mp hc]; exact hsg, Nat.le_refl _⟩
    refine ⟨_, rfl, p, _, _, rfl, k2, ⟨by decide, by decide⟩, fun H3 k3 b3 => ?_⟩
    have b03 : But p H H3 := But.trans b1 (But.trans b2 b3)
    have t1 : Txt i (cs.take i) := ⟨fun c hc => hx.1 c (List.mem_of_mem_take hc), by rw [List.length_take]; exact Nat.min_le_left ..⟩
    have t2 : Txt (n - i) (cs.drop i) := ⟨fun c hc => hx.1 c (List.mem_of_mem_drop hc), by rw [List.length_drop]; omega⟩
    have t3 : Txt (n - i) (cs.drop (i + 1)) := ⟨fun c hc => hx.1 c (List.mem_of_mem_drop hc), by rw [List.length_drop]; omega⟩
    have l1 := t1.2
    have l2 := t2.2
    have l3 := t3.2
    generalize ((c.fdiv 60).fdiv 16).fmod 3 = way
    refine ⟨_, rfl, eqSc rfl ?_⟩
    by_cases h0 : way = 0
    · refine ⟨true, blT (by rw [h0]), ?_⟩
      refine ⟨_, rfl, _, rfl, _, rfl, slS_to (j := i) hz ⟨_, rfl, ?_⟩⟩
      refine ⟨by rw [toS_len, toS_len]; have := xs.2; omega, ?_⟩
      rw [toS_app]
      refine ⟨_, rfl, _, rfl, _, rfl, slS_from (i := i) hz ?_⟩
      have tt := (t1.app xs).app t2
      refine ⟨by rw [toS_len, toS_len]; have := (t1.app xs).2; omega, ?_⟩
      rw [toS_app]
      exact h _ _ H3 (tt.mono (by omega)) k3 b03
    refine ⟨false, blF (fun z => h0 (V.int.inj z)), ?_⟩
    refine ⟨_, rfl, eqSc rfl ?_⟩
    by_cases h1 : way = 1
    · refine ⟨true, blT (by rw [h1]), ?_⟩
      refine ⟨_, rfl, _, rfl, _, rfl, slS_to (j := i) hz ?_⟩
      refine ⟨_, rfl, _, rfl, _, rfl, slS_from (i := i + 1) hz ?_⟩
      refine ⟨by rw [toS_len, toS_len]; omega, ?_⟩
      rw [toS_app]
      exact h _ _ H3 ((t1.app t3).mono (by omega)) k3 b03
    refine ⟨false, blF (fun z => h1 (V.int.inj z)), ?_⟩
    refine ⟨_, rfl, _, rfl, _, rfl, slS_to (j := i) hz ⟨_, rfl, ?_⟩⟩
    refine ⟨by rw [toS_len, toS_len]; have := xs.2; omega, ?_⟩
    rw [toS_app]
    refine ⟨_, rfl, _, rfl, _, rfl, slS_from (i := i + 1) hz ?_⟩
    have tt := (t1.app xs).app t3
    refine ⟨by rw [toS_len, toS_len]; have := (t1.app xs).2; omega, ?_⟩
    rw [toS_app]
    exact h _ _ H3 (tt.mono (by omega)) k3 b03
end
end P01

set_option Elab.async false
set_option linter.all false
set_option maxRecDepth 100000
set_option maxHeartbeats 4000000
namespace P01
open PySem L2 LK WD
section
variable {P : Program} {w : World} {K : PySem.W.Frag} {mg : Str → Option Value} {base : Heap}
theorem ok__law_good (T : Env K mg) : FnOk P w K mg base CX0 6 (He.ga K "_law_good") T.fd__law_good ["text_in"] spGood := by
  refine T.F__law_good.ok sc__law_good (fun vs H Q E h => ?_) (fun cdv A outer s H vs Q E hr h => ?_)
  · obtain ⟨cs, rfl, _⟩ := h
    rfl
  · have nd := sc__law_good.nd
    refine ⟨_, PSs.nox (pss_cons (ps_asg (pe_call (ok__law_words T) (hr.mono (by decide)) (by rfl) T.m__law_words T.F__law_words.kp T.b__law_words .nil pass0 (pa_cons (pv 0) pa_nil)) (pgTup (K := K) (n := 2) rfl (pgs_cons (pg_name (i := 4) nd rfl (Or.inl rfl)) (pgs_cons (pg_name (i := 5) nd rfl (Or.inl rfl)) pgs_nil))))
      (pss_cons (ps_set (i := 1) nd rfl (Or.inl rfl) pe_non)
      (pss_cons (ps_set (i := 2) nd rfl (Or.inl rfl) pe_non)
      (pss_cons (ps_try_asK (i := 3) (c := .ref (He.ga K "LeanError")) rfl rfl nd rfl rfl ⟨rfl, by decide, .inl T.m_LeanError⟩ takes_none (fun W pn xe tk po => (pss_one (ps_set (i := 1) nd rfl (Or.inl rfl) (pe_callS (ok_words T) hr (by rfl) T.m_words T.F_words.kp T.b_words (passAt tk) (pa_cons (pv 0) pa_nil))))) (fun a pn => (pss_one (ps_set (i := 2) nd rfl (Or.inl rfl) (pv 3)))))
      (pss_cons (ps_if (pt_cmpR op_notN (pv 5) pe_non (nomark _)) (pss_one (ps_ret (pe_and (pe_cmpR op_isN (pv 1) pe_non (nomark _)) (pe_and (pe_call (ok__law_only T) (hr.mono (by decide)) (by rfl) T.m__law_only T.F__law_only.kp T.b__law_only .nil pass0 (pa_cons (pv 2) (pa_cons pe_str pa_nil))) (pe_one (pe_cmpR (oEqW (K := K) hr.units) (pe_xfK (K := K) (pv 2)) (pv 5) (nomark _))))))) pss_nil)
      (pss_cons (ps_if (PW.pt (pw_or (pt_cmpR op_notN (pv 2) pe_non (nomark _)) (pw_or (pt_not (ptT (K := K) (pe_callB (cIsW (K := K)) (by rfl) T.z_isinstance (by decide +kernel) (pa_cons (pv 1) (pa_cons (pe_bltn (v := .ty "list") (u := .type "list") rfl T.z_list (by decide +kernel) rfl) pa_nil))))) (pw_or (pt_cmpR (oNeW (K := K) hr.units) (pv 1) (pv 4) (nomark _)) (pw_or1 (pt_cmpR (oNeW (K := K) hr.units) (pe_callK0 (ok_words T) hr (by rfl) T.m_words T.F_words.kp (T.kb_words_0_text) passF (pk_cons (pv 0) pk_nil)) (pv 4) (nomark _))))))) (pss_one (ps_ret pe_bl)) pss_nil)
      (pss_cons (ps_expr (peBm (K := K) PySem.F.plainAttrs_list PySem.F.slot_list_append PySem.F.type_list_append mt_appendS (pv 1) (pa_cons pe_int pa_nil)))
      (pss_one (ps_ret (pe_cmpR (oEqW (K := K) hr.units) (pe_call (ok_words T) hr (by rfl) T.m_words T.F_words.kp T.b_words .nil passF (pa_cons (pv 0) pa_nil)) (pv 4) (nomark _))))))))))), ?_⟩
    obtain ⟨cs, rfl, hx, h⟩ := h
    have hl : cs.length ≤ 100000 := Nat.le_trans hx.2 (by decide)
    have shp := shaped_words hx
    refine ⟨_, rfl, cs, rfl, hl, fun p q H1 vs s1 k1 nq k2 tp => ?_⟩
    refine ⟨p, _, rfl, k1, rfl, _, _, rfl, _, _, rfl, rfl, ?_⟩
    refine ⟨_, rfl, cs, rfl, hl, fun a ha d H2 s2 kd => ⟨true, T.ex_NoText_LeanError, fun _ e H3 ne s3 k3 => ?_, fun z => nomatch z⟩, fun hn g H2 vs2 ng s2 k3 tp2 => ?_⟩
    · -- refused
      rw [ha]
      have er : ErrAt H3 e (He.ga K "NoText") [("at", .int a)] := ⟨⟨d, false, k3, s3 _ _ kd⟩⟩
      refine ⟨_, rfl, ?_⟩
      refine ⟨_, rfl, rfl, true, rfl, ?_⟩
      refine ⟨_, rfl, rfl, true, rfl, ?_⟩
      refine ⟨_, rfl, e, "NoText", rfl, by simp, er.err, fun H4 s4 => ⟨true, rfl, ?_⟩⟩
      refine ⟨_, rfl, xf_at (er.same s4) (T.kinds.ec "NoText" (by simp)) T.na_NoText_at rfl ⟨_, rfl, eqSc rfl ?_⟩⟩
      rw [decide_eq_true (show V.int a = opt (some a) from rfl)]
      exact h _ (Same.trans s1 (Same.trans s2 (Same.trans s3 s4)))
    · -- told
      rw [hn]
      have bad : ∀ (E : XK) (H : Hp) (a : Nat), (words cs).2 = some a → errAt K E H a := fun E H a z => by rw [hn] at z; cases z
      have due2 := s2 _ _ k2
      have tpd := tp.same s2
      refine ⟨_, rfl, rfl, false, rfl, ?_⟩
      refine ⟨_, rfl, rfl, false, rfl, ?_⟩
      refine ⟨_, rfl, isTy (.base (.lst k3)) (kit_ty (by decide +kernel)) ⟨true, rfl, ?_⟩⟩
      refine ⟨_, rfl, _, rfl, neSame (.lst (SqL.of k3) tp2.dp) (.lst (SqL.of due2) tpd.dp) shp ⟨false, rfl, ?_⟩⟩
      refine ⟨_, rfl, cs, rfl, hl, bad _ _, fun _ g2 H3 vs3 ng2 s3 k4 tp3 => ?_⟩
      have due3 := s3 _ _ due2
      have tpd3 := tpd.same s3
      refine ⟨_, rfl, neSame (.lst (SqL.of k4) tp3.dp) (.lst (SqL.of due3) tpd3.dp) shp ⟨false, rfl, ?_⟩⟩
      have k3' := s3 _ _ k3
      have hlen := tp2.len
      have hw : (words cs).1.length ≤ cs.length := words_len cs
      have hz : 100000 < sizeLine := by decide
      refine ⟨_, rfl, .inl ⟨rfl, _, SqL.of k3'⟩, g, _, _, rfl, rfl, k3', by omega, fun H4 k5 b5 => ?_⟩
      have nqg : q ≠ g := ne_of_none (k2) ng
      have due4 := b5 _ _ nqg due3
      have tpd4 := tpd3.but b5 k3'
      have s14 : Same H1 H4 := Same.but (Same.trans s2 s3) ng b5
      refine ⟨_, rfl, cs, rfl, hl, bad _ _, fun _ g3 H5 vs5 ng3 s5 k6 tp5 => ?_⟩
      refine ⟨_, rfl, eqSame (.lst (SqL.of k6) tp5.dp) (.lst (SqL.of (s5 _ _ due4)) (tpd4.same s5).dp) shp ?_⟩
      exact h _ (Same.trans s1 (Same.trans s14 s5))
theorem ok_law (T : Env K mg) : FnOk P w K mg base CX0 7 (He.ga K "law") T.fd_law ["script"] (sp_law K) := by
  refine T.F_law.ok sc_law (fun vs H Q E h => ?_) (fun cdv A outer s H vs Q E hr h => ?_)
  · obtain ⟨a, ns, rfl, _⟩ := h
    rfl
  · have nd := sc_law.nd
    refine ⟨_, PSs.nox (pss_cons (ps_for PassesOwn.never rfl (pi_range1 (by rfl) T.z_range (pa_cons pe_int pa_nil)) (pg_name (i := 1) nd rfl (Or.inl rfl)) (pss_cons (ps_set (i := 2) nd rfl (Or.inl rfl) (pe_lstS (pa_cons (pe_call (ok__law_cell T) (hr.mono (by decide)) (by rfl) T.m__law_cell T.F__law_cell.kp T.b__law_cell .nil pass0 (pa_cons (pv 0) (pa_cons (pv 1) pa_nil))) pa_nil)))
      (pss_cons (ps_set (i := 3) nd rfl (Or.inl rfl) (pe_call (ok__law_drawn T) (hr.mono (by decide)) (by rfl) T.m__law_drawn T.F__law_drawn.kp T.b__law_drawn .nil pass0 (pa_cons (pv 2) pa_nil)))
      (pss_cons (ps_if (pt_not (ptT (K := K) (pe_call (ok__law_good T) hr (by rfl) T.m__law_good T.F__law_good.kp T.b__law_good .nil pass0 (pa_cons (pv 3) pa_nil)))) (pss_one (ps_ret pe_bl)) pss_nil)
      (pss_one (ps_for PassesOwn.never rfl (pi_range1 (by rfl) T.z_range (pa_cons pe_int pa_nil)) (pg_name (i := 4) nd rfl (Or.inl rfl)) (pss_cons (ps_set (i := 3) nd rfl (Or.inl rfl) (pe_call (ok__law_bent T) (hr.mono (by decide)) (by rfl) T.m__law_bent T.F__law_bent.kp T.b__law_bent .nil pass0 (pa_cons (pv 2) (pa_cons (pv 3) pa_nil))))
      (pss_one (ps_if (pt_not (ptT (K := K) (pe_call (ok__law_good T) hr (by rfl) T.m__law_good T.F__law_good.kp T.b__law_good .nil pass0 (pa_cons (pv 3) pa_nil)))) (pss_one (ps_ret pe_bl)) pss_nil)))))))))
      (pss_one (ps_ret (pe_and (pe_cmpR (oEqW (K := K) hr.units) (pe_call (ok_words T) (hr.mono (by decide)) (by rfl) T.m_words T.F_words.kp T.b_words .nil passF (pa_cons pe_str pa_nil)) (pe_lstS pa_nil) (nomark _)) (pe_and (pe_cmpR (oEqW (K := K) hr.units) (pe_call (ok_words T) (hr.mono (by decide)) (by rfl) T.m_words T.F_words.kp T.b_words .nil passF (pa_cons pe_str pa_nil)) (pe_lstS pa_nil) (nomark _)) (pe_one (pe_cmpR (oEqW (K := K) hr.units) (pe_call (ok_words T) (hr.mono (by decide)) (by rfl) T.m_words T.F_words.kp T.b_words .nil passF (pa_cons pe_str pa_nil)) (pe_lstS (pa_cons (pe_tupS (pa_cons pe_str (pa_cons pe_str (pa_cons pe_int pa_nil)))) pa_nil)) (nomark _)))))))), ?_⟩
    obtain ⟨a, ns, rfl, hs, hns, h⟩ := h
    refine ⟨4, rfl, by decide, by decide, for_range (lo := 0) (n := 4) (fun i σ H' => ∃ x1 x2 x3 x4, σ = [some (.ref a), x1, x2, x3, x4] ∧ Same H H') ⟨_, _, _, _, rfl, L2.Same.refl _⟩ (fun i σ F0 hi hp => ?_) (fun σ F0 hp => ?_)⟩
    · obtain ⟨x1, x2, x3, x4, rfl, e⟩ := hp
      refine ⟨_, rfl, _, rfl, a, ns, i, by rw [Int.zero_add]; rfl, e.seq hs, hns, by omega, (by show 1 ≤ sizeLine; decide), fun p F1 np sp kp => ?_⟩
      generalize LK.cellOf ns i = c1 at kp
      refine ⟨_, rfl, p, c1, rfl, kp, fun cs c2 F2 x kp2 b2 => ?_⟩
      have t2 : Pile F0 F2 p c2 := (Pile.new np sp kp).ch kp2 b2
      refine ⟨_, rfl, cs, rfl, x.mono (by decide), fun F3 s3 => ⟨true, rfl, ?_⟩⟩
      have t3 := t2.go s3
      refine ⟨4, rfl, by decide, by decide, for_range (lo := 0) (n := 4) (fun j σ H' => ∃ (cs : List Nat) (c : Int) (y4 : Option V), σ = [some (.ref a), some (.int (0 + (i : Nat))), some (.ref p), some (.str (toS cs)), y4] ∧ Txt (300 + j) cs ∧ Pile F0 H' p c)
        ⟨cs, c2, _, rfl, x, t3⟩ (fun j σ G hj hp => ?_) (fun σ G hp => ?_)⟩
      · obtain ⟨cs, c, y4, rfl, x, t⟩ := hp
        refine ⟨_, rfl, _, rfl, p, c, 300 + j, cs, rfl, t.hp, x, by omega, fun cs' c' G1 x' kp' b' => ?_⟩
        refine ⟨_, rfl, cs', rfl, x'.mono (by omega), fun G2 s2 => ⟨true, rfl, ?_⟩⟩
        exact ⟨cs', c', _, rfl, x', (t.ch kp' b').go s2⟩
      · obtain ⟨cs, c, y4, rfl, x, t⟩ := hp
        exact ⟨_, _, _, _, rfl, Same.trans e t.s⟩
    · obtain ⟨x1, x2, x3, x4, rfl, e⟩ := hp
      rw [nil_lit, nl_lit, a_lit]
      have w0 : words [] = ([], none) := rfl
      have w1 : words [10] = ([], none) := rfl
      have w2 : words [97] = ([(("name" : Str), [97], 0)], none) := by decide +kernel
      refine ⟨[], rfl, by decide, fun _ z => (by rw [w0] at z; cases z), fun _ p1 H1 vs1 n1 s1 k1 tp1 => ?_⟩
      rw [w0] at tp1
      cases tp1
      refine ⟨(by show 0 ≤ sizeLine; decide), fun q1 H2 m1 t1 l1 => ?_⟩
      refine eqSame (d := .list []) (.lst (SqL.of (t1 _ _ k1)) .nil) (.lst (SqL.of l1) .nil) (by decide +kernel) ⟨true, rfl, ?_⟩
      refine ⟨[10], rfl, by decide, fun _ z => (by rw [w1] at z; cases z), fun _ p2 H3 vs2 n2 s2 k2 tp2 => ?_⟩
      rw [w1] at tp2
      cases tp2
      refine ⟨(by show 0 ≤ sizeLine; decide), fun q2 H4 m2 t2 l2 => ?_⟩
      refine eqSame (d := .list []) (.lst (SqL.of (t2 _ _ k2)) .nil) (.lst (SqL.of l2) .nil) (by decide +kernel) ⟨true, rfl, ?_⟩
      refine ⟨[97], rfl, by decide, fun _ z => (by rw [w2] at z; cases z), fun _ p3 H5 vs3 n3 s3 k3 tp3 => ?_⟩
      rw [w2] at tp3
      refine ⟨(by show 3 ≤ sizeLine; decide), fun q3 H6 m3 t3 l3 => ⟨(by show 1 ≤ sizeLine; decide), fun q4 H7 m4 t4 l4 => ?_⟩⟩
      have tw : SqT K H7 q3 [.str "name", .str (toS [97]), .int 0] := .inl (.inl (t4 _ _ l3))
      refine eqSame (d := .list [.tuple [.str "name", .str (toS [97]), .int 0]]) (.lst (SqL.of (t4 _ _ (t3 _ _ k3))) ((tp3.same (Same.trans t3 t4)).dp)) (.lst (SqL.of l4) (.cons (.tup tw (.cons (.str _) (.cons (.str _) (.cons (.int _) .nil)))) .nil)) (by decide +kernel) ?_
      exact h _
end
end P01

set_option Elab.async false
set_option linter.all false
set_option maxRecDepth 100000
set_option maxHeartbeats 4000000
namespace P01
open PySem L2 LK
theorem kb_of {K : PySem.W.Frag} {fd : FuncData} {f : Addr} (F : FunD K "words" "words" (defArgs s_words) (defBody s_words) (defScope s_words) [] [] f fd) : KBinds K fd ["text"] ["text"] (fun us ws => us ++ ws) (fun us ws => us ++ ws) := by
  obtain ⟨oc, od, dV, kV, doc, pm, an, cdv, ct, osl, rfl, lk, hcd, hD, hK⟩ := F.ex
  rcases hD with ⟨_, rfl⟩ | ⟨e, _⟩
  · refine ⟨fun s us ws _ hl => ?_, fun {vs us zs ws} r1 r2 => r1.append r2⟩
    rcases us with _ | ⟨a, _ | ⟨b, us⟩⟩
    · rcases ws with _ | ⟨a, _ | ⟨b, ws⟩⟩
      · simp at hl
      · exact .of_eq rfl
      · simp at hl
    · rcases ws with _ | ⟨b, ws⟩
      · exact .of_eq rfl
      · simp at hl
    · simp at hl
  · exact absurd rfl e
def d_NoText_init : He.DefD := ⟨("NoText", some "__init__"), "__init__", "NoText.__init__", defArgs s_NoText_init, defBody s_NoText_init, defScope s_NoText_init, [.int 0], []⟩
def d_run_end : He.DefD := ⟨("run_end", none), "run_end", "run_end", defArgs s_run_end, defBody s_run_end, defScope s_run_end, [], []⟩
def d_stands_by : He.DefD := ⟨("stands_by", none), "stands_by", "stands_by", defArgs s_stands_by, defBody s_stands_by, defScope s_stands_by, [], []⟩
def d_letters_end : He.DefD := ⟨("letters_end", none), "letters_end", "letters_end", defArgs s_letters_end, defBody s_letters_end, defScope s_letters_end, [], []⟩
def d_noughts_at : He.DefD := ⟨("noughts_at", none), "noughts_at", "noughts_at", defArgs s_noughts_at, defBody s_noughts_at, defScope s_noughts_at, [], []⟩
def d_figures_end : He.DefD := ⟨("figures_end", none), "figures_end", "figures_end", defArgs s_figures_end, defBody s_figures_end, defScope s_figures_end, [], []⟩
def d_word_at : He.DefD := ⟨("word_at", none), "word_at", "word_at", defArgs s_word_at, defBody s_word_at, defScope s_word_at, [], []⟩
def d_words : He.DefD := ⟨("words", none), "words", "words", defArgs s_words, defBody s_words, defScope s_words, [], []⟩
def d__law_mixed : He.DefD := ⟨("_law_mixed", none), "_law_mixed", "_law_mixed", defArgs s__law_mixed, defBody s__law_mixed, defScope s__law_mixed, [], []⟩
def d__law_cell : He.DefD := ⟨("_law_cell", none), "_law_cell", "_law_cell", defArgs s__law_cell, defBody s__law_cell, defScope s__law_cell, [], []⟩
def d__law_take : He.DefD := ⟨("_law_take", none), "_law_take", "_law_take", defArgs s__law_take, defBody s__law_take, defScope s__law_take, [], []⟩
def d__law_run_end : He.DefD := ⟨("_law_run_end", none), "_law_run_end", "_law_run_end", defArgs s__law_run_end, defBody s__law_run_end, defScope s__law_run_end, [], []⟩
def d__law_number_end : He.DefD := ⟨("_law_number_end", none), "_law_number_end", "_law_number_end", defArgs s__law_number_end, defBody s__law_number_end, defScope s__law_number_end, [], []⟩
def d__law_word_at : He.DefD := ⟨("_law_word_at", none), "_law_word_at", "_law_word_at", defArgs s__law_word_at, defBody s__law_word_at, defScope s__law_word_at, [], []⟩
def d__law_words : He.DefD := ⟨("_law_words", none), "_law_words", "_law_words", defArgs s__law_words, defBody s__law_words, defScope s__law_words, [], []⟩
def d__law_only : He.DefD := ⟨("_law_only", none), "_law_only", "_law_only", defArgs s__law_only, defBody s__law_only, defScope s__law_only, [], []⟩
def d__law_drawn : He.DefD := ⟨("_law_drawn", none), "_law_drawn", "_law_drawn", defArgs s__law_drawn, defBody s__law_drawn, defScope s__law_drawn, [], []⟩
def d__law_bent : He.DefD := ⟨("_law_bent", none), "_law_bent", "_law_bent", defArgs s__law_bent, defBody s__law_bent, defScope s__law_bent, [], []⟩
def d__law_good : He.DefD := ⟨("_law_good", none), "_law_good", "_law_good", defArgs s__law_good, defBody s__law_good, defScope s__law_good, [], []⟩
def d_law : He.DefD := ⟨("law", none), "law", "law", defArgs s_law, defBody s_law, defScope s_law, [], []⟩
def fn : List He.DefD := [d_NoText_init, d_run_end, d_stands_by, d_letters_end, d_noughts_at, d_figures_end, d_word_at, d_words, d__law_mixed, d__law_cell, d__law_take, d__law_run_end, d__law_number_end, d__law_word_at, d__law_words, d__law_only, d__law_drawn, d__law_bent, d__law_good, d_law]
def fa : List He.Fa := [.glo "run_end", .glo "stands_by", .glo "letters_end", .glo "noughts_at", .glo "figures_end", .glo "word_at", .glo "words", .glo "_law_mixed", .glo "_law_cell", .glo "_law_take", .glo "_law_run_end", .glo "_law_number_end", .glo "_law_word_at", .glo "_law_words", .glo "_law_only", .glo "_law_drawn", .glo "_law_bent", .glo "_law_good", .glo "law", .glo "LeanError", .glo "NoCount", .glo "NoLetters", .glo "NoLine", .glo "NoMap", .glo "NoNaming", .glo "NoPath", .glo "NoText", .glo "NoTree", .glo "NoTurning", .glo "TooMany", .free "ArithmeticError", .free "LookupError", .free "ValueError", .free "int", .free "isinstance", .free "len", .free "list", .free "min", .free "range", .free "zip", .glo "DOUBLE", .str "FIGURES" "0123456789", .glo "KEPT", .str "LETTERS" "abcdefghijklmnopqrstuvwxyz", .int "LONGEST" 12, .int "MOST_FIGURES" 18, .str "SINGLE" "+-*/~<>!?:.,=(){}[];"]
def tup_DOUBLE : List He.Dv := [.str "<=", .str ">=", .str "==", .str "!=", .str "&&", .str "||"]
def tup_KEPT : List He.Dv := [.str "let", .str "if", .str "else", .str "while", .str "return", .str "fail", .str "try", .str "catch", .str "out", .str "fn"]
def ck (K : PySem.W.Frag) : Bool := (fa.all fun f => f.ok K) && (He.tupB K "DOUBLE" tup_DOUBLE && (He.tupB K "KEPT" tup_KEPT && (PySem.W.keepIn K (.ref (He.ga K "NoText")) && (oexB K (He.ga K "NoText") && (inB K "NoText" && (He.eqO (PySem.W.findIn K (.ref (He.ga K "NoText")) "at") (some none) && (icB K (He.ga K "LeanError") && ((He.Fa.exm "NoText" "LeanError" true).ok K && (kindsB K ["NoText", "NoTree", "NoPath", "NoNaming", "NoLetters", "NoCount", "NoTurning", "NoMap", "NoLine", "TooMany"])))))))))
abbrev R : PySem.W.OpenRow := PySem.W.OpenLaw.row PySem.Challenge.rw_leanscript_k01_words_of_texts
abbrev hk : PySem.W.Hook := hookS 6 ck fn
def ob (s : PySem.W.SharedT) : He.AlD := obsSG 6 ck fn (HandSHeadRun.getT s)
theorem ob_eq (s : PySem.W.SharedT) : ob s = hk.obs s.abs := obsSG_eq (HandSHeadRun.getT_eq s)
def nm0 : List Str := ["LeanError", "NoText", "NoTree", "NoPath", "NoNaming", "NoLetters", "NoCount", "NoTurning", "NoMap", "NoLine", "TooMany", "LETTERS", "FIGURES", "KEPT", "DOUBLE", "SINGLE", "LONGEST", "MOST_FIGURES", "run_end", "stands_by", "letters_end", "noughts_at", "figures_end", "word_at", "words", "_law_mixed", "_law_cell", "_law_take", "_law_run_end", "_law_number_end"]
def nm1 : List Str := ["_law_word_at", "_law_words", "_law_only", "_law_drawn", "_law_bent", "_law_good"]
def nms : List Str := nm0 ++ nm1
set_option maxHeartbeats 0 in
theorem run (w : World) : HandSHeadRun.RunEq R (PySem.W.view R.prog [39]) hk ob 4000 nms w := by
  intro os
  kernel_rfl
theorem env_of {K : PySem.W.Frag} {h : Heap} {mg : Str → Option Value} (X : K.In h) (G : h.Ns mainGlobals mg) (c : SaysM ck fn K) : Nonempty (Env K mg) := by
  obtain ⟨cA, cD⟩ := He.ba (show ck K = true from c.both.1)
  obtain ⟨c0, cD⟩ := He.ba cD
  obtain ⟨c1, cD⟩ := He.ba cD
  obtain ⟨c2, cD⟩ := He.ba cD
  obtain ⟨c3, cD⟩ := He.ba cD
  obtain ⟨c4, cD⟩ := He.ba cD
  obtain ⟨c5, cD⟩ := He.ba cD
  obtain ⟨c6, cD⟩ := He.ba cD
  obtain ⟨c7, cD⟩ := He.ba cD
  have c8 := cD
  obtain ⟨fd_NoText_init, F_NoText_init⟩ := c.def_ 0 (d := d_NoText_init) rfl
  obtain ⟨fd_run_end, F_run_end⟩ := c.def_ 1 (d := d_run_end) rfl
  obtain ⟨fd_stands_by, F_stands_by⟩ := c.def_ 2 (d := d_stands_by) rfl
  obtain ⟨fd_letters_end, F_letters_end⟩ := c.def_ 3 (d := d_letters_end) rfl
  obtain ⟨fd_noughts_at, F_noughts_at⟩ := c.def_ 4 (d := d_noughts_at) rfl
  obtain ⟨fd_figures_end, F_figures_end⟩ := c.def_ 5 (d := d_figures_end) rfl
  obtain ⟨fd_word_at, F_word_at⟩ := c.def_ 6 (d := d_word_at) rfl
  obtain ⟨fd_words, F_words⟩ := c.def_ 7 (d := d_words) rfl
  obtain ⟨fd__law_mixed, F__law_mixed⟩ := c.def_ 8 (d := d__law_mixed) rfl
  obtain ⟨fd__law_cell, F__law_cell⟩ := c.def_ 9 (d := d__law_cell) rfl
  obtain ⟨fd__law_take, F__law_take⟩ := c.def_ 10 (d := d__law_take) rfl
  obtain ⟨fd__law_run_end, F__law_run_end⟩ := c.def_ 11 (d := d__law_run_end) rfl
  obtain ⟨fd__law_number_end, F__law_number_end⟩ := c.def_ 12 (d := d__law_number_end) rfl
  obtain ⟨fd__law_word_at, F__law_word_at⟩ := c.def_ 13 (d := d__law_word_at) rfl
  obtain ⟨fd__law_words, F__law_words⟩ := c.def_ 14 (d := d__law_words) rfl
  obtain ⟨fd__law_only, F__law_only⟩ := c.def_ 15 (d := d__law_only) rfl
  obtain ⟨fd__law_drawn, F__law_drawn⟩ := c.def_ 16 (d := d__law_drawn) rfl
  obtain ⟨fd__law_bent, F__law_bent⟩ := c.def_ 17 (d := d__law_bent) rfl
  obtain ⟨fd__law_good, F__law_good⟩ := c.def_ 18 (d := d__law_good) rfl
  obtain ⟨fd_law, F_law⟩ := c.def_ 19 (d := d_law) rfl
  obtain ⟨t_FIGURES, m_FIGURES⟩ := He.str_ok (x := "FIGURES") (z := "0123456789") X G (fa_at cA 41)
  obtain ⟨t_LETTERS, m_LETTERS⟩ := He.str_ok (x := "LETTERS") (z := "abcdefghijklmnopqrstuvwxyz") X G (fa_at cA 43)
  obtain ⟨t_LONGEST, m_LONGEST⟩ := He.int_ok (x := "LONGEST") (i := 12) X G (fa_at cA 44)
  obtain ⟨t_MOST_FIGURES, m_MOST_FIGURES⟩ := He.int_ok (x := "MOST_FIGURES") (i := 18) X G (fa_at cA 45)
  obtain ⟨t_SINGLE, m_SINGLE⟩ := He.str_ok (x := "SINGLE") (z := "+-*/~<>!?:.,=(){}[];") X G (fa_at cA 46)
  exact ⟨{
    m_LeanError := He.glo_ok X G (fa_at cA 19)
    m_NoCount := He.glo_ok X G (fa_at cA 20)
    m_NoLetters := He.glo_ok X G (fa_at cA 21)
    m_NoLine := He.glo_ok X G (fa_at cA 22)
    m_NoMap := He.glo_ok X G (fa_at cA 23)
    m_NoNaming := He.glo_ok X G (fa_at cA 24)
    m_NoPath := He.glo_ok X G (fa_at cA 25)
    m_NoText := He.glo_ok X G (fa_at cA 26)
    m_NoTree := He.glo_ok X G (fa_at cA 27)
    m_NoTurning := He.glo_ok X G (fa_at cA 28)
    m_TooMany := He.glo_ok X G (fa_at cA 29)
    k_NoText := c2
    o_NoText := oexB_ok c3
    i_NoText := (inB_ok c4).1
    t_NoText := (inB_ok c4).2
    na_NoText_at := He.eqO_ok c5
    kb_NoText_1 := kbn1 (dvs := [.int 0]) F_NoText_init 2 [] (fun us ds ws => (us.drop 0).take 1 ++ ((us.drop 1).take 1)) (List.cons_ne_nil _ _) (fun r1 r2 r3 => (((r1.drop 0).take 1).append ((r1.drop 1).take 1))) (fun _ _ _ _ _ _ _ us its ws l1 l2 l3 => match us, its, ws, l1, l2, l3 with | [_, _], [_], [], _, _, _ => ⟨_, rfl, rfl⟩)
    ic_LeanError := icB_ok c6
    ex_NoText_LeanError := He.exm_ok (b := true) c7
    kinds := kindsB_ok c8
    fd_NoText_init := fd_NoText_init, F_NoText_init := F_NoText_init
    fd_run_end := fd_run_end, F_run_end := F_run_end, m_run_end := He.glo_ok X G (fa_at cA 0)
    b_run_end := FunD.bindsN F_run_end fun _ _ _ _ _ _ us hl => match us, hl with | [_, _, _], _ => rfl
    fd_stands_by := fd_stands_by, F_stands_by := F_stands_by, m_stands_by := He.glo_ok X G (fa_at cA 1)
    b_stands_by := FunD.bindsN F_stands_by fun _ _ _ _ _ _ us hl => match us, hl with | [_, _], _ => rfl
    fd_letters_end := fd_letters_end, F_letters_end := F_letters_end, m_letters_end := He.glo_ok X G (fa_at cA 2)
    b_letters_end := FunD.bindsN F_letters_end fun _ _ _ _ _ _ us hl => match us, hl with | [_, _], _ => rfl
    fd_noughts_at := fd_noughts_at, F_noughts_at := F_noughts_at, m_noughts_at := He.glo_ok X G (fa_at cA 3)
    b_noughts_at := FunD.bindsN F_noughts_at fun _ _ _ _ _ _ us hl => match us, hl with | [_, _], _ => rfl
    fd_figures_end := fd_figures_end, F_figures_end := F_figures_end, m_figures_end := He.glo_ok X G (fa_at cA 4)
    b_figures_end := FunD.bindsN F_figures_end fun _ _ _ _ _ _ us hl => match us, hl with | [_, _], _ => rfl
    fd_word_at := fd_word_at, F_word_at := F_word_at, m_word_at := He.glo_ok X G (fa_at cA 5)
    b_word_at := FunD.bindsN F_word_at fun _ _ _ _ _ _ us hl => match us, hl with | [_, _], _ => rfl
    fd_words := fd_words, F_words := F_words, m_words := He.glo_ok X G (fa_at cA 6)
    b_words := FunD.bindsN F_words fun _ _ _ _ _ _ us hl => match us, hl with | [_], _ => rfl
    fd__law_mixed := fd__law_mixed, F__law_mixed := F__law_mixed, m__law_mixed := He.glo_ok X G (fa_at cA 7)
    b__law_mixed := FunD.bindsN F__law_mixed fun _ _ _ _ _ _ us hl => match us, hl with | [_, _], _ => rfl
    fd__law_cell := fd__law_cell, F__law_cell := F__law_cell, m__law_cell := He.glo_ok X G (fa_at cA 8)
    b__law_cell := FunD.bindsN F__law_cell fun _ _ _ _ _ _ us hl => match us, hl with | [_, _], _ => rfl
    fd__law_take := fd__law_take, F__law_take := F__law_take, m__law_take := He.glo_ok X G (fa_at cA 9)
    b__law_take := FunD.bindsN F__law_take fun _ _ _ _ _ _ us hl => match us, hl with | [_, _], _ => rfl
    fd__law_run_end := fd__law_run_end, F__law_run_end := F__law_run_end, m__law_run_end := He.glo_ok X G (fa_at cA 10)
    b__law_run_end := FunD.bindsN F__law_run_end fun _ _ _ _ _ _ us hl => match us, hl with | [_, _, _], _ => rfl
    fd__law_number_end := fd__law_number_end, F__law_number_end := F__law_number_end, m__law_number_end := He.glo_ok X G (fa_at cA 11)
    b__law_number_end := FunD.bindsN F__law_number_end fun _ _ _ _ _ _ us hl => match us, hl with | [_, _], _ => rfl
    fd__law_word_at := fd__law_word_at, F__law_word_at := F__law_word_at, m__law_word_at := He.glo_ok X G (fa_at cA 12)
    b__law_word_at := FunD.bindsN F__law_word_at fun _ _ _ _ _ _ us hl => match us, hl with | [_, _], _ => rfl
    fd__law_words := fd__law_words, F__law_words := F__law_words, m__law_words := He.glo_ok X G (fa_at cA 13)
    b__law_words := FunD.bindsN F__law_words fun _ _ _ _ _ _ us hl => match us, hl with | [_], _ => rfl
    fd__law_only := fd__law_only, F__law_only := F__law_only, m__law_only := He.glo_ok X G (fa_at cA 14)
    b__law_only := FunD.bindsN F__law_only fun _ _ _ _ _ _ us hl => match us, hl with | [_, _], _ => rfl
    fd__law_drawn := fd__law_drawn, F__law_drawn := F__law_drawn, m__law_drawn := He.glo_ok X G (fa_at cA 15)
    b__law_drawn := FunD.bindsN F__law_drawn fun _ _ _ _ _ _ us hl => match us, hl with | [_], _ => rfl
    fd__law_bent := fd__law_bent, F__law_bent := F__law_bent, m__law_bent := He.glo_ok X G (fa_at cA 16)
    b__law_bent := FunD.bindsN F__law_bent fun _ _ _ _ _ _ us hl => match us, hl with | [_, _], _ => rfl
    fd__law_good := fd__law_good, F__law_good := F__law_good, m__law_good := He.glo_ok X G (fa_at cA 17)
    b__law_good := FunD.bindsN F__law_good fun _ _ _ _ _ _ us hl => match us, hl with | [_], _ => rfl
    fd_law := fd_law, F_law := F_law, m_law := He.glo_ok X G (fa_at cA 18)
    b_law := FunD.bindsN F_law fun _ _ _ _ _ _ us hl => match us, hl with | [_], _ => rfl
    z_ArithmeticError := He.free_ok X G (fa_at cA 30)
    z_LookupError := He.free_ok X G (fa_at cA 31)
    z_ValueError := He.free_ok X G (fa_at cA 32)
    z_int := He.free_ok X G (fa_at cA 33)
    z_isinstance := He.free_ok X G (fa_at cA 34)
    z_len := He.free_ok X G (fa_at cA 35)
    z_list := He.free_ok X G (fa_at cA 36)
    z_min := He.free_ok X G (fa_at cA 37)
    z_range := He.free_ok X G (fa_at cA 38)
    z_zip := He.free_ok X G (fa_at cA 39)
    m_DOUBLE := He.glo_ok X G (fa_at cA 40), q_DOUBLE := tup_at c0
    t_FIGURES := t_FIGURES, m_FIGURES := m_FIGURES
    m_KEPT := He.glo_ok X G (fa_at cA 42), q_KEPT := tup_at c1
    t_LETTERS := t_LETTERS, m_LETTERS := m_LETTERS
    t_LONGEST := t_LONGEST, m_LONGEST := m_LONGEST
    t_MOST_FIGURES := t_MOST_FIGURES, m_MOST_FIGURES := m_MOST_FIGURES
    t_SINGLE := t_SINGLE, m_SINGLE := m_SINGLE
    kb_words_0_text := kb_of F_words
  }⟩

theorem noleave (H : Hp) (s : Shared) (e : Value) (s' : Shared) (h : CX0 [] H s (fun _ _ _ => False) e s') : False := h
theorem sp_start {K : PySem.W.Frag} (H : Hp) (a : Addr) (ns : List Int) (hn : ns.length ≤ 63) (_ : Only H) (hs : SqL K H a (ns.map V.int)) : sp_law K [.ref a] H (fun v _ => v = .bl true) fun _ _ _ => False :=
  ⟨a, ns, rfl, hs, hn, fun _ => rfl⟩
end P01
open PySem PySem.W PySem.Calls PyProof.Rows
set_option maxRecDepth 100000 in
set_option maxHeartbeats 0 in
theorem PySem.Challenge.cw_leanscript_k01_words_of_texts_holds : PySem.Challenge.rw_leanscript_k01_words_of_texts.Holds := by
  w_on; o_law
  refine HandSHeadRun.head_any (r := OpenLaw.row PySem.Challenge.rw_leanscript_k01_words_of_texts) (q := view (OpenLaw.row PySem.Challenge.rw_leanscript_k01_words_of_texts).prog [39]) (H := P01.hk) (ob := P01.ob) (M := 4000) (loose := P01.nms)
    (d := HandSHeadRun.topDef (OpenLaw.row PySem.Challenge.rw_leanscript_k01_words_of_texts).prog 39) (kwd := []) P01.ob_eq (by kernel_rfl) (fun s => by kernel_rfl) P01.run (by kernel_rfl) (by kernel_rfl) (by kernel_rfl) (by rfl)
    (by first | assumption | decide +kernel) (by decide +kernel) ⟨rfl, rfl, rfl, rfl, rfl, by decide +kernel⟩ ?hw ?hc
  case hw => w_witness2
  case hc =>
    refine L2.walk_ofE (l := PySem.Challenge.rw_leanscript_k01_words_of_texts) (n := 63) (k := 7) (x := "script") (CX := L2.CX0) rfl (by decide) (by kernel_rfl) ⟨rfl, by decide, by decide⟩ ?F P01.noleave
    intro w mg fa h Y G hmg0
    obtain ⟨K, KX, c⟩ := Y
    have hmg : mg ("law" : PySem.Str) = some (.ref fa) := by
      have e : (HandSHeadRun.topDef (OpenLaw.row PySem.Challenge.rw_leanscript_k01_words_of_texts).prog 39).name = ("law" : PySem.Str) := by kernel_rfl
      rw [← e]
      exact hmg0
    obtain ⟨T⟩ := P01.env_of KX G c
    have ef := hmg.symm.trans T.m_law
    cases ef
    have b := L2.FunD.bindsA (ps := ["script"]) T.F_law fun _ _ _ _ _ _ us hl => match us, hl with | [_], _ => rfl
    exact ⟨K, T.fd_law, P01.sp_law K, KX, fun s v => b s [v] rfl, P01.sp_start, fun base _ _ => P01.ok_law T⟩

#print axioms PySem.Challenge.cw_leanscript_k01_words_of_texts_holds
