import PyProof.Rows.All
import Wide.All
import OpenK.AllK
import Wide.FinOn
import HandS.Base
import HandS.Call
import HandS.List
import HandS.Comp
import HandS.Iter
import HandS.Text
import HandS.Ends
import HandS.Words
import HandS.WordsList
import HandS.WordsDict
import HandS.IsInst
import HandS.TupAny
import HandS.Wide
import HandS.SetKeys
import HandS.SetBool
import PyProof.ListStr
import HandS.Walk
import HandS.ExcInit
import HandS.Defaults
import HandS.ExcValue
import HandS.ExcIs
import HandS.ExcField
import HandS.Head0
import HandS.Head1
import HandS.Head2
import HandS.HeadEnd
import HandS.HeadHook1
import HandS.HeadHook2
import HandS.Zip
import HandS.Style
import HandS.ExcOwn
import HandS.Flow
import HandS.CallSlots
import HandS.Replace
import PyProof.StrBlock2
import HandS.TryOnly
import PyProof.ReprRoads
import PyProof.CallFns
import PySem.Challenge.RW_leanscript_k02_refused_words
set_option Elab.async false
set_option linter.all false
set_option maxRecDepth 100000
set_option maxHeartbeats 4000000
/-! rules of mine over the hand layer: operators by what the values are -/
namespace LK
open PySem PySem.Spec PyProof.Rows L2
section
variable {X : Cx}

/-! one operator, several kinds of values -/
def rAddM (K : PySem.W.Frag) : R2 := fun x y H Q => match x, y with
  | .int i, .int j => Q (.int (i + j)) H
  | .str a, .str b => a.length + b.length ≤ sizeLine ∧ Q (.str (a ++ b)) H
  | .ref a, .ref b => (∃ xs ys, H a = some (.lst xs) ∧ H b = some (.lst ys) ∧ xs.length + ys.length ≤ sizeLine ∧ ∀ p, H p = none → Q (.ref p) (upd H p (.lst (xs ++ ys)))) ∨
      rCatA K (.ref a) (.ref b) H Q
  | _, _ => False
theorem op_addM : OpR X (binaryOp .Add) (rAddM X.K) := by
  intro pins s σ H x y v u Q I rx ry h
  cases x <;> cases y <;> try exact (show False from h).elim
  · exact op_add pins s σ H _ _ v u Q I rx ry ⟨_, _, rfl, rfl, h⟩
  · exact op_add_str pins s σ H _ _ v u Q I rx ry ⟨_, _, rfl, rfl, h.1, h.2⟩
  · rcases h with ⟨xs, ys, h1, h2, h3, h4⟩ | h
    · exact op_cat pins s σ H _ _ v u Q I rx ry ⟨_, _, xs, ys, rfl, rfl, h1, h2, h3, h4⟩
    · exact op_catA pins s σ H _ _ v u Q I rx ry h
def rMulM (K : PySem.W.Frag) : R2 := fun x y H Q => match x, y with
  | .int i, .int j => (CMul i j ∨ CMulW i j) ∧ Q (.int (i * j)) H
  | .ref a, .int k => ∃ xs, H a = some (.lst xs) ∧ -(2 ^ 63) ≤ k ∧ k < 2 ^ 63 ∧ xs.length * k.toNat ≤ sizeLine ∧ ∀ p, H p = none → Q (.ref p) (upd H p (.lst (List.replicate k.toNat xs).flatten))
  | _, _ => False
theorem op_mulM : OpR X (binaryOp .Mult) (rMulM X.K) := by
  intro pins s σ H x y v u Q I rx ry h
  cases x <;> cases y <;> try exact (show False from h).elim
  · rcases h with ⟨h | h, q⟩
    · exact op_mul pins s σ H _ _ v u Q I rx ry ⟨_, _, rfl, rfl, h, q⟩
    · exact op_mulW pins s σ H _ _ v u Q I rx ry ⟨_, _, rfl, rfl, h, q⟩
  · obtain ⟨xs, h1, h2⟩ := h
    exact op_rep pins s σ H _ _ v u Q I rx ry ⟨_, _, xs, rfl, rfl, h1, h2⟩
def rCmpM (pi : Int → Int → Bool) (ps : Str → Str → Bool) : R2 := fun x y H Q => match x, y with
  | .int i, .int j => Q (.bl (pi i j)) H
  | .str i, .str j => Q (.bl (ps i j)) H
  | _, _ => False
theorem op_ltM : OpR X (compareOp .Lt) (rCmpM (fun i j => decide (i < j)) fun i j => decide (i.cps.toList < j.cps.toList)) := by
  intro pins s σ H x y v u Q I rx ry h
  cases x <;> cases y <;> try exact (show False from h).elim
  · exact op_lt pins s σ H _ _ v u Q I rx ry ⟨_, _, rfl, rfl, h⟩
  · exact op_lt_str pins s σ H _ _ v u Q I rx ry ⟨_, _, rfl, rfl, h⟩
theorem op_leM : OpR X (compareOp .LtE) (rCmpM (fun i j => decide (i ≤ j)) fun i j => !decide (j.cps.toList < i.cps.toList)) := by
  intro pins s σ H x y v u Q I rx ry h
  cases x <;> cases y <;> try exact (show False from h).elim
  · exact op_le pins s σ H _ _ v u Q I rx ry ⟨_, _, rfl, rfl, h⟩
  · exact op_le_str pins s σ H _ _ v u Q I rx ry ⟨_, _, rfl, rfl, h⟩
theorem op_gtM : OpR X (compareOp .Gt) (rCmpM (fun i j => decide (j < i)) fun i j => decide (j.cps.toList < i.cps.toList)) := by
  intro pins s σ H x y v u Q I rx ry h
  cases x <;> cases y <;> try exact (show False from h).elim
  · exact op_gt pins s σ H _ _ v u Q I rx ry ⟨_, _, rfl, rfl, h⟩
  · exact op_gt_str pins s σ H _ _ v u Q I rx ry ⟨_, _, rfl, rfl, h⟩
theorem op_geM : OpR X (compareOp .GtE) (rCmpM (fun i j => decide (j ≤ i)) fun i j => !decide (i.cps.toList < j.cps.toList)) := by
  intro pins s σ H x y v u Q I rx ry h
  cases x <;> cases y <;> try exact (show False from h).elim
  · exact op_ge pins s σ H _ _ v u Q I rx ry ⟨_, _, rfl, rfl, h⟩
  · exact op_ge_str pins s σ H _ _ v u Q I rx ry ⟨_, _, rfl, rfl, h⟩
theorem op_eqM (hu : X.A.units + 64 < cLine) : OpR X (compareOp .Eq) (fun x y H Q => rEq x y H Q ∨ rEqD X.K x y H Q) := op_eq.or (op_eqD hu)
theorem op_neM (hu : X.A.units + 64 < cLine) : OpR X (compareOp .NotEq) (fun x y H Q => rNe x y H Q ∨ rNeD X.K x y H Q) := op_ne.or (op_neD hu)
/-- x in a text, in a list or tuple of flat things -/
def rInM (K : PySem.W.Frag) (neg : Bool) : R2 := fun x y H Q => match y with
  | .str z => ∃ a, x = .str a ∧ Q (.bl (if neg then !(!(Builtin.Str.occurrences z a 0 z.length 1).isEmpty) else !(Builtin.Str.occurrences z a 0 z.length 1).isEmpty)) H
  | .ref _ => rIn K neg x y H Q
  | _ => False
theorem op_inM : OpR X (compareOp .In) (rInM X.K false) := by
  intro pins s σ H x y v u Q I rx ry h
  cases y <;> try exact (show False from h).elim
  · obtain ⟨a, rfl, q⟩ := h
    exact op_in_str pins s σ H _ _ v u Q I rx ry ⟨_, _, rfl, rfl, q⟩
  · exact op_in_seq pins s σ H _ _ v u Q I rx ry h
theorem op_ninM : OpR X (compareOp .NotIn) (rInM X.K true) := by
  intro pins s σ H x y v u Q I rx ry h
  cases y <;> try exact (show False from h).elim
  · obtain ⟨a, rfl, q⟩ := h
    exact op_notin_str pins s σ H _ _ v u Q I rx ry ⟨_, _, rfl, rfl, q⟩
  · exact op_notIn_seq pins s σ H _ _ v u Q I rx ry h
theorem ix_M : IxR X (rIx X.K) := ix_seq
def rSlM (K : PySem.W.Frag) : V → Option Int → Option Int → Hp → VK → Prop := fun x lo hi H Q => rSlL K x lo hi H Q ∨ rSlA K x lo hi H Q ∨ rSlS x lo hi H Q
theorem sl_M : SlR X (rSlM X.K) := sl_list.or (sl_tupA.or sl_str)
theorem set_M : PSet X rSetL := set_list
/-- list(x): of a list, a tuple, a text -/
def rListM (K : PySem.W.Frag) : List V → Hp → VK → Prop := fun xs H Q => (∃ p ys, xs = [.ref p] ∧ (SqL K H p ys ∨ SqT K H p ys) ∧ ∀ l, H l = none → Q (.ref l) (upd H l (.lst ys))) ∨
  ∃ z : Str, xs = [.str z] ∧ z.length ≤ sizeLine ∧ ∀ l, H l = none → Q (.ref l) (upd H l (.lst (z.cps.toList.map fun c => V.str ⟨#[c]⟩)))
end
end LK

set_option Elab.async false
set_option linter.all false
set_option maxRecDepth 100000
set_option maxHeartbeats 4000000
/-! a set comprehension of ints and texts; its length; list(text) -/
namespace LK
open PySem PySem.Spec PyProof.Rows L2
section
variable {X : Cx}
/-- a set's new state behind one key more -/
abbrev SetK' (P : Program) (w : World) (D : Addr) (S : Key → Bool) (n : Nat) (k : Key) : HO :=
  SetK P w D (fun j => S j || decide (j = k)) (if S k = true then n else n + 1)
/-- {elt for target in iter if ..}: D the new set -/
def tScK (P : Program) (w : World) (wi : TI) (g : TG) (tt : TT) (te : TE) (vs : List Nat) : TE := fun σ H Q => wi σ H fun J H1 => ∀ D, H1 D = none →
  ∃ W : Nat → Nat → Hp → Prop, (∃ m, W 0 m (upd H1 D (SetK P w D (fun _ => false) 0))) ∧ ∀ i m H, W i m H →
    (J.stop i H ∧ Q (.ref D) H) ∨ (J.go i H ∧ ∃ Nx : Hp → Prop, (∀ H', Nx H' → ∃ m', m' < m ∧ W (i + 1) m' H') ∧
      ∀ x H', J.yld i H x H' → g x (wipe σ vs) H' fun σ2 H2 => wipe σ2 vs = wipe σ vs ∧ tt σ2 H2 fun b H3 => if b = true
        then te σ2 H3 fun y H4 => ∃ (k : Key) (S : Key → Bool) (n : Nat), y = kV k ∧ H4 D = some (SetK P w D S n) ∧ n + 1 < scanBound ∧ Nx (upd H4 D (SetK' P w D S n k))
        else Nx H3)
theorem addK_ok {pins : List (Addr × Obj)} {σ : L2.St} {H : Hp} {s : Shared} {E : Value → Shared → Prop} {D : Addr} {S : Key → Bool} {n : Nat} {k : Key} {v : Value} {Q : Value → Shared → Prop}
    (I : Inv X pins σ H s) (r : RelV (kV k) v) (hD : H D = some (SetK X.prog X.w D S n)) (room : n + 1 < scanBound) (h : ∀ s', Inv X pins σ (upd H D (SetK' X.prog X.w D S n k)) s' → Q .none s') :
    wpAny (model X.prog X.w) X.A (call (.builtin "set.add") [.ref D, v]) Q E s :=
  call_set_add (kV_is r) (key_scan r) (setK_get I hD) room fun h' sb fresh => by
    obtain ⟨o, es, ep, t, ho, more⟩ := fresh
    exact h _ (I.write (e := D) (t' := s.toks + 1) (by rw [hD]; trivial) (.inl rfl) (fun b u hb hu => (sb.2 b hb).trans hu) ⟨o, ho⟩ (setK_new ⟨o, es, ep, t, ho, more⟩))
theorem setK_empty (P : Program) (w : World) (h : Heap) : (h.push { cls := .type "set", dict := none, data := .set #[] 0 (.fresh 0 0 (!w.params.followText "set-order")) }).SetOf (mixKind P w) h.objs.size (fun _ => false) 0 :=
  ⟨_, #[], 0, _, Heap.get?_push_size _ rfl, ⟨rfl, rfl, rfl⟩, rfl, (fun e he => by simp at he), (fun k => by simp), (by decide), (by rfl), rfl⟩
theorem pe_scK {elt tg iter : Expr} {ifs : List Expr} {scope : Scope} {own : List (Str × Nat)} {pos : Pos} {wi : TI} {g : TG} {tt : TT} {te : TE}
    (hc : X.calm = true) (hN : X.N.Nodup) (hi : PI X tg iter wi) (ok : BlkOk X.N X.env.scope scope own)
    (hg : ∀ (s : Shared) (H : Hp) (C : Addr) (cl : List (Str × Addr)) (fp : List Addr), PG (X.blk s H scope (compEnvC scope cl C X.env) fp) tg g)
    (ht : ∀ (s : Shared) (H : Hp) (C : Addr) (cl : List (Str × Addr)) (fp : List Addr), PTs (X.blk s H scope (compEnvC scope cl C X.env) fp) ifs tt)
    (he : ∀ (s : Shared) (H : Hp) (C : Addr) (cl : List (Str × Addr)) (fp : List Addr), PE (X.blk s H scope (compEnvC scope cl C X.env) fp) elt te)
    (hs : ∀ x, foldedSetIterable iter X.env x = pure x := by intro _; rfl) : PE X (.SetComp elt [⟨tg, iter, ifs, 0⟩] scope pos) (tScK X.prog X.w wi g tt te (own.map (·.2))) := by
  refine ⟨fun pins s σ H Q I h => ?_⟩
  rw [PpSet.eval_SetComp]
  have cells : ∀ y ∈ scope.names, y.2 = .free → ∃ c, X.env.cells.lookup y.1 = some c := fun y hy e => (ok.free y hy e).elim (fun k => I.ok.has _ (.inl k)) fun k => I.ok.has _ (.inr k)
  refine wpAny_comprehension_free (use := none) rfl hs (closure_ok cells) ok.kind (fun y hy e => by rw [ok.uniq y hy, e]) ?_
  refine thn (hi.run pins s σ H _ I h) fun xv s1 hx => thn hx fun itv s2 h2 => ?_
  obtain ⟨it, fp, tn, J, Ha, rfl, Ia, T, sta, fa, q⟩ := h2
  refine PpSet.newSet_ok (newEnv_comp ?_)
  obtain ⟨D, hD⟩ : ∃ D, D = s2.heap.objs.size := ⟨_, rfl⟩
  obtain ⟨W, ⟨m0, w0⟩, turn⟩ := q D (Ia.hok.fresh (Nat.le_of_eq hD.symm))
  rw [← hD]
  -- the set is laid
  obtain ⟨sb, hsb⟩ : ∃ sb : Shared, sb = { s2 with heap := s2.heap.push { cls := .type "set", dict := none, data := .set #[] 0 (.fresh 0 0 (!X.w.params.followText "set-order")) } } := ⟨_, rfl⟩
  obtain ⟨Hb, hHb⟩ : ∃ Hb : Hp, Hb = upd Ha D (SetK X.prog X.w D (fun _ => false) 0) := ⟨_, rfl⟩
  have hpb : sb.heap = s2.heap.push { cls := .type "set", dict := none, data := .set #[] 0 (.fresh 0 0 (!X.w.params.followText "set-order")) } := by rw [hsb]
  have kb : ∀ b o, s2.heap.get? b = some o → sb.heap.get? b = some o := fun b o e => by
    rw [hpb]; exact Heap.get?_push_of_some _ e
  have Ib : Inv X pins σ Hb sb := by
    rw [hsb, hHb]
    refine Ia.laid (t' := s2.toks) (fun b o e => Heap.get?_push_of_some _ e) (Nat.le_of_eq hD.symm) ?_
    rw [hD]
    exact setK_new (setK_empty X.prog X.w s2.heap)
  have fb : ∀ b ∈ fp, FpOk X pins Hb b ∧ b < sb.heap.objs.size := fun b hb => by
    obtain ⟨o, e, _⟩ := T.obj _ _ sta b hb
    have lt := Heap.lt_size e
    refine ⟨⟨?_, (fa b hb).2⟩, by rw [hpb, Heap.size_push]; exact Nat.lt_succ_of_lt lt⟩
    rw [hHb, upd_ne (by rw [hD]; exact Nat.ne_of_lt lt)]
    exact (fa b hb).1
  have stb : tn 0 sb.heap := T.keep _ _ _ sta fun b _ o e => kb b o e
  have Ic := block_start Ib ok hN fb
  have nb : ∀ b ∈ fp, Hb b = none := fun b hb => (fb b hb).1.1
  rw [← hHb] at w0
  rw [← hsb]
  show codeAny _ _ (.compStart (.SetComp elt [⟨tg, iter, ifs, 0⟩] scope pos) 0 (.ref it) (.ref D) (compEnvC scope (cellsFrom (sb.heap.objs.size + 1) scope.names (cloFrom X.env.cells scope.names [])) sb.heap.objs.size X.env)) (compPost (model X.prog X.w) X.A X.xe none _ (.ref D) sb.heap.objs.size) { sb with heap := pushCells (sb.heap.push { cls := .type "dict", data := .dict #[] }) scope.names }
  obtain ⟨ce, hce⟩ : ∃ ce, ce = compEnvC scope (cellsFrom (sb.heap.objs.size + 1) scope.names (cloFrom X.env.cells scope.names [])) sb.heap.objs.size X.env := ⟨_, rfl⟩
  have pg : PG (X.blk sb Hb scope ce fp) tg g := by rw [hce]; exact hg _ _ _ _ _
  have pt : PTs (X.blk sb Hb scope ce fp) ifs tt := by rw [hce]; exact ht _ _ _ _ _
  have pe : PE (X.blk sb Hb scope ce fp) elt te := by rw [hce]; exact he _ _ _ _ _
  have cL : ce.locals = sb.heap.objs.size := by rw [hce]; rfl
  rw [← hce] at Ic ⊢
  obtain ⟨sc, hsc⟩ : ∃ sc : Shared, sc = { sb with heap := pushCells (sb.heap.push { cls := .type "dict", data := .dict #[] }) scope.names } := ⟨_, rfl⟩
  rw [← hsc] at Ic ⊢
  have stc : tn 0 sc.heap := T.keep _ _ _ stb fun b _ o e => by
    rw [hsc]; exact pushCells_keeps _ _ _ _ (Heap.get?_push_of_some _ e)
  have stat : ∀ {σ' : L2.St} {H' : Hp} {s' : Shared}, Inv (X.blk sb Hb scope ce fp) [] σ' H' s' → (∀ b ∈ fp, H' b = none) → ∀ b ∈ fp, FpOk (X.blk sb Hb scope ce fp) [] H' b := fun {σ' H' s'} J' hn b hb =>
    ⟨hn b hb, (J'.ok.exf b hb).1, J'.ok.exfs b hb, .inl hb, fun x c e => (J'.ok.exf b hb).2 x c e, fun p hp => by cases hp⟩
  have loop : codeAny (model X.prog X.w) X.A (.compLoop (.SetComp elt [⟨tg, iter, ifs, 0⟩] scope pos) 0 (.ref it) (.ref D) ce) (compPost (model X.prog X.w) X.A X.xe none (EP X pins σ Q) (.ref D) sb.heap.objs.size) sc := by
    refine PpSet.compLoopS_any (fun n s' => ∃ i H', Inv (X.blk sb Hb scope ce fp) [] (wipe σ (own.map (·.2))) H' s' ∧ tn i s'.heap ∧ (∀ b ∈ fp, H' b = none) ∧ W i n H') ?_ m0 ⟨0, Hb, Ic, stc, nb, w0⟩
    rintro n s5 ⟨i, H5, I5, st5, n5, w5⟩
    rcases turn i n H5 w5 with ⟨halt, qq⟩ | ⟨go, Nx, hNx, step⟩
    · refine thnF (T.done (X.blk sb Hb scope ce fp) rfl rfl rfl hc i [] s5 _ H5 (fun _ _ => False) I5 (stat I5 n5) st5 halt) fun r s6 hr6 => ?_
      obtain ⟨rfl, I6⟩ := hr6
      have I7 : Inv X pins σ H5 s6 := Ib.call' (ch := fp) I6.os I6.base I6.hok I6.bare fun b hb => by
        obtain ⟨⟨_, f2, f3, f4, f5, f6⟩, _⟩ := fb b hb
        exact ⟨f4, f2, f5, f6⟩
      have nC : H5 sb.heap.objs.size = none := by
        have z : H5 ce.locals = none := I6.free
        rwa [cL] at z
      obtain ⟨mm, hmm, _⟩ := I6.loc
      have hmm : s6.heap.Ns ce.locals mm := hmm
      rw [cL] at hmm
      obtain ⟨f0, f1, f2, f3, f4, f5⟩ := Ib.fpOk (Nat.le_refl _) nC
      exact ⟨mm, hmm, fun h'' keep => ⟨.ref D, H5, I7.turned (t' := s6.toks) (fun b o hb e => (keep.2 b hb).trans e) f0 f1 f3 f4 f5, rfl, qq⟩⟩
    · refine thnF (T.item (X.blk sb Hb scope ce fp) rfl rfl rfl hc i [] s5 _ H5 (fun _ _ => False) I5 (stat I5 n5) st5 go) fun r s6 h6 => ?_
      obtain ⟨u, rfl, h6⟩ := h6
      refine thnF h6 fun _ s7 h7 => ?_
      obtain ⟨x, H7, I7, r7, y7, st7, n7⟩ := h7
      refine thnF (pg.run _ s7 _ H7 x u _ (I7.pinned (stat I7 n7) (T.obj _ _ st7)) r7 (step x H7 y7)) fun _ s8 h8 => ?_
      obtain ⟨σ8, H8, I8, hw8, q8⟩ := h8
      refine thnF (pt.run _ s8 σ8 H8 _ I8 q8) fun b s9 h9 => ?_
      obtain ⟨H9, I9, q9⟩ := h9
      have back : ∀ {s' : Shared} {H' : Hp}, Inv (X.blk sb Hb scope ce fp) ([] ++ pinsAt fp s7.heap) σ8 H' s' → Nx H' →
          ∃ m, m < n ∧ ∃ i H', Inv (X.blk sb Hb scope ce fp) [] (wipe σ (own.map (·.2))) H' s' ∧ tn i s'.heap ∧ (∀ b ∈ fp, H' b = none) ∧ W i m H' := fun {s' H'} J' nx => by
        obtain ⟨m', hm, w'⟩ := hNx H' nx
        have still : ∀ b ∈ fp, ∀ o, s7.heap.get? b = some o → s'.heap.get? b = some o ∧ H' b = none := fun b hb o e => by
          have z := J'.pin (b, o) (List.mem_append_right _ (List.mem_append_right _ (mem_pinsAt hb e)))
          exact ⟨z.1, z.2.1⟩
        refine ⟨m', hm, i + 1, H', (J'.unpinned (pins := [])).weak (by rw [← hw8, wipe_length]) (fun j v e => ?_), T.keep _ _ _ st7 fun b hb o e => (still b hb o e).1, fun b hb => ?_, w'⟩
        · rw [← hw8] at e
          exact (wipe_some e).1
        · obtain ⟨o, e, _⟩ := T.obj _ _ st7 b hb
          exact (still b hb o e).2
      cases b with
      | false => exact back I9 q9
      | true =>
        refine thnF (pe.run _ s9 σ8 H9 _ I9 q9) fun z s10 h10 => ?_
        obtain ⟨yv, H10, I10, r10, key, S0, n0, rfl, hD10, hz10, nx⟩ := h10
        exact addK_ok (X := X.blk sb Hb scope ce fp) I10 r10 hD10 hz10 fun s11 I11 => back I11 nx
  exact PpSet.codeAny_compStart_set loop (T.self X.A 0 _ _ _ stc loop)
/-- len of a set of keys -/
def rLenK (P : Program) (w : World) : List V → Hp → VK → Prop := fun xs H Q => ∃ (a : Addr) (S : Key → Bool) (n : Nat), xs = [.ref a] ∧ H a = some (SetK P w a S n) ∧ Q (.int n) H
theorem call_lenK : CallR X (.builtin "len") (rLenK X.prog X.w) := by
  intro pins s σ H xs us Q I r h
  obtain ⟨a, S, n, rfl, ha, q⟩ := h
  obtain ⟨u, rfl, rx⟩ := vals1 r
  cases rx
  obtain ⟨o, es, ep, t, ho, hex, hd, _, _, hb, hf, hn⟩ := setK_get I ha
  have hb' : es.size < 4096 := hb
  exact call_len_set ho hex hd hf (by omega) ⟨.int n, H, I.tok _, ⟨_, by rw [← hn]⟩, q⟩
theorem signs_vals {z : Str} {acc : Array Value} (h : ItemsOf (SignAt z) acc z.cps.size) : Vals (z.cps.toList.map fun c => V.str ⟨#[c]⟩) acc.toList := by
  obtain ⟨hs, hp⟩ := h
  have key : ∀ (l : List Nat) (us : List Value), l.length = us.length → (∀ (j : Nat) (u : Value), us[j]? = some u → ∃ (c : Nat) (t : Tok), l[j]? = some c ∧ u = Value.str ⟨#[c]⟩ t) → Vals (l.map fun c => V.str ⟨#[c]⟩) us := by
    intro l
    induction l with
    | nil =>
      intro us hl _
      cases us with
      | nil => exact .nil
      | cons _ _ => simp at hl
    | cons c l ih =>
      intro us hl hu
      cases us with
      | nil => simp at hl
      | cons u us =>
        obtain ⟨c', t, e1, e2⟩ := hu 0 u rfl
        have e1' : c = c' := by simpa using e1
        subst e1'
        exact .cons ⟨t, e2⟩ (ih us (by simpa using hl) fun j v e => by simpa using hu (j + 1) v (by simpa using e))
  refine key _ _ (by simp [hs]) fun j u e => ?_
  obtain ⟨c, t, e1, e2⟩ := hp j u (by simpa using e)
  exact ⟨c, t, by simpa using e1, e2⟩
theorem call_listM (hc : X.calm = true) : CallR X (.type "list") (rListM X.K) := by
  intro pins s σ H xs us Q I r h
  rcases h with ⟨p, ys, rfl, hq, q⟩ | ⟨z, rfl, hz, q⟩
  · exact call_list_of pins s σ H _ us Q I r ⟨p, ys, rfl, hq, q⟩
  · obtain ⟨u, rfl, t, rfl⟩ := vals1 r
    have hlen : z.cps.size ≤ sizeLine := hz
    refine call_list_str (I.ok.hd hc) z t (fun h' tk acc c' keep hget items => ?_) hlen
    have rv := signs_vals items
    refine ⟨.ref s.heap.objs.size, _, I.laid (t' := tk) (o := .lst (z.cps.toList.map fun c => V.str ⟨#[c]⟩)) keep (Nat.le_refl _) ⟨?_, acc.toList, c', rv, ?_⟩, rfl, q _ (I.hok.fresh (Nat.le_refl _))⟩
    · rw [List.length_map, Array.length_toList]; exact hlen
    · exact hget
end
end LK

set_option Elab.async false
set_option linter.all false
set_option maxRecDepth 100000
set_option maxHeartbeats 4000000
/-! pure walks: what a comprehension makes where its turns leave what stands -/
namespace LK
open PySem PySem.Spec PyProof.Rows L2
theorem Same.new {H : Hp} {p : Addr} {o : HO} (h : H p = none) : Same H (upd H p o) := fun b u e => by
  rw [upd_ne (ne_of_none e h)]
  exact e
theorem Same.mut {H H' : Hp} {p : Addr} {o : HO} (e : Same H H') (h : H p = none) : Same H (upd H' p o) := fun b u hb => by
  rw [upd_ne (ne_of_none hb h)]
  exact e b u hb
theorem Same.seqT {K : PySem.W.Frag} {H H' : Hp} {a : Addr} {xs : List V} (e : Same H H') (h : SqT K H a xs) : SqT K H' a xs := by
  rcases h with (h | ⟨o, h⟩) | h
  · exact .inl (.inl (e _ _ h))
  · exact .inl (.inr ⟨o, e _ _ h⟩)
  · exact .inr h
mutual
theorem dp_same {K : PySem.W.Frag} {H H' : Hp} (e : Same H H') : ∀ {v : V} {d : PyData}, Dp K H v d → Dp K H' v d
  | _, _, .non => .non
  | _, _, .bl b => .bl b
  | _, _, .int i => .int i
  | _, _, .str x => .str x
  | _, _, .lst h r => .lst (e.seq h) (dpAll_same e r)
  | _, _, .tup h r => .tup (Same.seqT e h) (dpAll_same e r)
theorem dpAll_same {K : PySem.W.Frag} {H H' : Hp} (e : Same H H') : ∀ {vs : List V} {ds : List PyData}, DpAll K H vs ds → DpAll K H' vs ds
  | _, _, .nil => .nil
  | _, _, .cons a r => .cons (dp_same e a) (dpAll_same e r)
end
/-- texts as data -/
theorem dp_strs {K : PySem.W.Frag} {H : Hp} : ∀ (l : List Str), DpAll K H (l.map V.str) (l.map PyData.str)
  | [] => .nil
  | x :: l => .cons (.str x) (dp_strs l)
theorem dp_ints {K : PySem.W.Frag} {H : Hp} : ∀ (l : List Int), DpAll K H (l.map V.int) (l.map PyData.int)
  | [] => .nil
  | x :: l => .cons (.int x) (dp_ints l)

section
variable {J : It} {n : Nat} {G : Hp → Prop} {Y : Nat → Hp → V → Hp → Prop}
/-- a comprehension whose turns only lay new things: f i is what turn i gives, or none; the turn is shown for any wish -/
theorem lc_map (w : Walk J n G Y) {g : TG} {tt : TT} {te : TE} {vs : List Nat} {σ : L2.St} {H1 : Hp} {D : Addr} {Qd : Hp → Prop} (f : Nat → Option V)
    (hD : H1 D = none) (hn : n ≤ sizeLine) (hm : ∀ H, Same H1 H → G H)
    (hs : ∀ i x H H', i < n → Same H1 H → Y i H x H' → ∀ (Ry : V → Hp → Prop) (Rn : Hp → Prop), (∀ y H4, Same H H4 → f i = some y → Ry y H4) → (∀ H3, Same H H3 → f i = none → Rn H3) →
      g x (wipe σ vs) H' fun σ2 H2 => wipe σ2 vs = wipe σ vs ∧ tt σ2 H2 fun b H3 => if b = true then te σ2 H3 Ry else Rn H3)
    (hd : ∀ H, Same H1 H → H D = some (.lst ((List.range n).filterMap f)) → Qd H) :
    ∃ W : Nat → Nat → Hp → Prop, (∃ m, W 0 m (upd H1 D (.lst []))) ∧ ∀ i m H, W i m H →
      (J.stop i H ∧ Qd H) ∨ (J.go i H ∧ ∃ Nx : Hp → Prop, (∀ H', Nx H' → ∃ m', m' < m ∧ W (i + 1) m' H') ∧ ∀ x H', J.yld i H x H' → g x (wipe σ vs) H' fun σ2 H2 => wipe σ2 vs = wipe σ vs ∧ tt σ2 H2 fun b H3 =>
        if b = true then te σ2 H3 fun y H4 => ∃ acc, H4 D = some (.lst acc) ∧ acc.length < sizeLine ∧ Nx (upd H4 D (.lst (acc ++ [y]))) else Nx H3) := by
  refine lc_it w (fun i H => i ≤ n ∧ Same H1 H ∧ H D = some (.lst ((List.range i).filterMap f))) ⟨Nat.zero_le _, Same.new hD, upd_same⟩ (fun i H _ h => hm H h.2.1) (fun i x H H' hi h y => ?_) fun H h => hd H h.2.1 h.2.2
  obtain ⟨_, e, hDl⟩ := h
  have hr : List.range (i + 1) = List.range i ++ [i] := List.range_succ
  refine hs i x H H' hi e y _ _ (fun v H4 e4 ef => ?_) fun H3 e4 ef => ?_
  · refine ⟨_, e4 D _ hDl, ?_, hi, Same.mut (e.trans e4) hD, ?_⟩
    · have : ((List.range i).filterMap f).length ≤ (List.range i).length := List.length_filterMap_le ..
      rw [List.length_range] at this
      omega
    · rw [upd_same, hr, List.filterMap_append]
      simp [ef]
  · refine ⟨hi, e.trans e4, ?_⟩
    rw [e4 D _ hDl, hr, List.filterMap_append]
    simp [ef]
/-- all but D stands as it stood -/
def But (D : Addr) (H H' : Hp) : Prop := ∀ b o, b ≠ D → H b = some o → H' b = some o
theorem But.refl (D : Addr) (H : Hp) : But D H H := fun _ _ _ h => h
theorem But.same {D : Addr} {H H' H'' : Hp} (a : But D H H') (b : Same H' H'') : But D H H'' := fun c o n h => b c o (a c o n h)
theorem But.mut {D : Addr} {H H' : Hp} {o : HO} (a : But D H H') : But D H (upd H' D o) := fun c u n h => by
  rw [upd_ne n]
  exact a c u n h
/-- the inner walk of two clauses, at H4 -/
def Inner (H1 : Hp) (D : Addr) (fi : List V) (g1 : TG) (tt1 : TT) (te : TE) (vs1 : List Nat) (σ2 : L2.St) (J1 : It) (H4 : Hp) : Prop :=
  ∃ (n1 : Nat) (G1 : Hp → Prop) (Y1 : Nat → Hp → V → Hp → Prop) (f1 : Nat → Option V), Walk J1 n1 G1 Y1 ∧ (∀ H', Same H1 H' → But D H4 H' → G1 H') ∧ fi = (List.range n1).filterMap f1 ∧
    ∀ j x H5 H5', j < n1 → Same H1 H5 → But D H4 H5 → Y1 j H5 x H5' → ∀ (Ry : V → Hp → Prop) (Rn : Hp → Prop), (∀ y H8, Same H5 H8 → f1 j = some y → Ry y H8) → (∀ H7, Same H5 H7 → f1 j = none → Rn H7) →
      g1 x (wipe σ2 vs1) H5' fun σ3 H6 => wipe σ3 vs1 = wipe σ2 vs1 ∧ tt1 σ3 H6 fun b H7 => if b = true then te σ3 H7 Ry else Rn H7
/-- two clauses: f i is the list that turn i of the outer walk gives -/
theorem lc2_map (w : Walk J n G Y) {g g1 : TG} {tt tt1 : TT} {wi1 : TI} {te : TE} {vs vs1 : List Nat} {σ : L2.St} {H1 : Hp} {D : Addr} {Qd : Hp → Prop} (f : Nat → List V)
    (hD : H1 D = none) (hm : ∀ H, Same H1 H → G H) (hf : ((List.range n).flatMap f).length ≤ sizeLine)
    (hs : ∀ i x H H', i < n → Same H1 H → Y i H x H' → ∀ (RI : L2.St → It → Hp → Prop) (Rn : Hp → Prop), (∀ σ2 J1 H4, Same H H4 → Inner H1 D (f i) g1 tt1 te vs1 σ2 J1 H4 → RI σ2 J1 H4) → (∀ H3, Same H H3 → f i = [] → Rn H3) →
      g x (wipe σ vs) H' fun σ2 H2 => wipe σ2 vs = wipe σ vs ∧ tt σ2 H2 fun b H3 => if b = true then wi1 σ2 H3 (RI σ2) else Rn H3)
    (hd : ∀ H, Same H1 H → H D = some (.lst ((List.range n).flatMap f)) → Qd H) :
    ∃ W : Nat → Nat → Hp → Prop, (∃ m, W 0 m (upd H1 D (.lst []))) ∧ ∀ i m H, W i m H →
      (J.stop i H ∧ Qd H) ∨ (J.go i H ∧ ∃ Nx : Hp → Prop, (∀ H', Nx H' → ∃ m', m' < m ∧ W (i + 1) m' H') ∧ ∀ x H', J.yld i H x H' → g x (wipe σ vs) H' fun σ2 H2 => wipe σ2 vs = wipe σ vs ∧ tt σ2 H2 fun b H3 =>
        if b = true then wi1 σ2 H3 fun J1 H4 => ∃ W1 : Nat → Nat → Hp → Prop, (∃ m, W1 0 m H4) ∧ ∀ j k H, W1 j k H →
          (J1.stop j H ∧ Nx H) ∨ (J1.go j H ∧ ∃ Nx1 : Hp → Prop, (∀ H', Nx1 H' → ∃ k', k' < k ∧ W1 (j + 1) k' H') ∧ ∀ x H', J1.yld j H x H' → g1 x (wipe σ2 vs1) H' fun σ3 H5 => wipe σ3 vs1 = wipe σ2 vs1 ∧ tt1 σ3 H5 fun b H6 =>
            if b = true then te σ3 H6 fun y H7 => ∃ acc, H7 D = some (.lst acc) ∧ acc.length < sizeLine ∧ Nx1 (upd H7 D (.lst (acc ++ [y]))) else Nx1 H6)
        else Nx H3) := by
  have sz : ∀ i, i < n → ((List.range i).flatMap f).length + (f i).length ≤ sizeLine := fun i hi => by
    refine Nat.le_trans ?_ hf
    have h1 : List.range n = List.range (i + 1) ++ (List.range (n - (i + 1))).map (fun k => (i + 1) + k) := by
      rw [← List.range_add]
      congr 1
      omega
    rw [h1, List.range_succ, List.flatMap_append, List.flatMap_append, List.length_append, List.length_append, List.flatMap_singleton]
    omega
  refine ⟨fun i m H => m = n - i ∧ i ≤ n ∧ Same H1 H ∧ H D = some (.lst ((List.range i).flatMap f)), ⟨n, by simp, Nat.zero_le _, Same.new hD, upd_same⟩, ?_⟩
  rintro i m H ⟨rfl, hi, e, hDl⟩
  by_cases hlt : i < n
  · have hr : List.range (i + 1) = List.range i ++ [i] := List.range_succ
    refine .inr ⟨w.goes i H hlt (hm H e), fun H' => Same H1 H' ∧ H' D = some (.lst ((List.range (i + 1)).flatMap f)), fun H' p => ⟨n - (i + 1), by omega, rfl, hlt, p⟩, fun x H' y => ?_⟩
    refine hs i x H H' hlt e (w.yields i H x H' hlt (hm H e) y) (fun σ2 J1 H4 => ∃ W1 : Nat → Nat → Hp → Prop, (∃ m, W1 0 m H4) ∧ ∀ j k H, W1 j k H →
          (J1.stop j H ∧ (Same H1 H ∧ H D = some (.lst ((List.range (i + 1)).flatMap f)))) ∨ (J1.go j H ∧ ∃ Nx1 : Hp → Prop, (∀ H', Nx1 H' → ∃ k', k' < k ∧ W1 (j + 1) k' H') ∧ ∀ x H', J1.yld j H x H' → g1 x (wipe σ2 vs1) H' fun σ3 H5 => wipe σ3 vs1 = wipe σ2 vs1 ∧ tt1 σ3 H5 fun b H6 =>
            if b = true then te σ3 H6 fun y H7 => ∃ acc, H7 D = some (.lst acc) ∧ acc.length < sizeLine ∧ Nx1 (upd H7 D (.lst (acc ++ [y]))) else Nx1 H6)) _ (fun σ2 J1 H4 e4 inn => ?_) fun H3 e3 ef => ?_
    · obtain ⟨n1, G1, Y1, f1, w1, hm1, ef, hs1⟩ := inn
      have hD4 : H4 D = some (.lst ((List.range i).flatMap f)) := e4 D _ hDl
      have hz := sz i hlt
      rw [ef] at hz
      refine ⟨fun j k H => k = n1 - j ∧ j ≤ n1 ∧ But D H4 H ∧ Same H1 H ∧ H D = some (.lst ((List.range i).flatMap f ++ (List.range j).filterMap f1)),
        ⟨n1, by simp, Nat.zero_le _, But.refl _ _, e.trans e4, by simpa using hD4⟩, ?_⟩
      rintro j k H5 ⟨rfl, hj, b5, s5, d5⟩
      by_cases hjl : j < n1
      · have hr1 : List.range (j + 1) = List.range j ++ [j] := List.range_succ
        refine .inr ⟨w1.goes j H5 hjl (hm1 H5 s5 b5), fun H' => But D H4 H' ∧ Same H1 H' ∧ H' D = some (.lst ((List.range i).flatMap f ++ (List.range (j + 1)).filterMap f1)), fun H' p => ⟨n1 - (j + 1), by omega, rfl, hjl, p⟩, fun x1 H5' y1 => ?_⟩
        refine hs1 j x1 H5 H5' hjl s5 b5 (w1.yields j H5 x1 H5' hjl (hm1 H5 s5 b5) y1) _ _ (fun v H8 e8 e9 => ?_) fun H7 e7 e8 => ?_
        · refine ⟨_, e8 D _ d5, ?_, (b5.same e8).mut, Same.mut (s5.trans e8) hD, ?_⟩
          · have h1 : ((List.range j).filterMap f1 ++ [v]).length ≤ ((List.range n1).filterMap f1).length := by
              have h2 : List.range n1 = List.range (j + 1) ++ (List.range (n1 - (j + 1))).map (fun k => (j + 1) + k) := by
                rw [← List.range_add]
                congr 1
                omega
              rw [h2, hr1, List.filterMap_append, List.filterMap_append, List.length_append, List.length_append, List.length_append]
              simp [e9]
            rw [List.length_append] at h1 ⊢
            have h3 : [v].length = 1 := rfl
            omega
          · rw [upd_same, hr1, List.filterMap_append]
            simp [e9]
        · refine ⟨b5.same e7, s5.trans e7, ?_⟩
          rw [e7 D _ d5, hr1, List.filterMap_append]
          simp [e8]
      · have en : j = n1 := by omega
        subst en
        refine .inl ⟨w1.stops H5 (hm1 H5 s5 b5), s5, ?_⟩
        rw [d5, hr, List.flatMap_append, List.flatMap_singleton, ef]
    · refine ⟨e.trans e3, ?_⟩
      rw [e3 D _ hDl, hr, List.flatMap_append, List.flatMap_singleton, ef, List.append_nil]
  · have en : i = n := by omega
    subst en
    exact .inl ⟨w.stops H (hm H e), hd H e hDl⟩
/-- a comprehension of a set of keys; f i: the key of turn i, unlike ones give its size -/
theorem sc_map {P : Program} {wd : World} (w : Walk J n G Y) {g : TG} {tt : TT} {te : TE} {vs : List Nat} {σ : L2.St} {H1 : Hp} {D : Addr} {Qd : Hp → Prop} (f : Nat → Key)
    (hD : H1 D = none) (hn : n + 1 < scanBound) (hm : ∀ H, Same H1 H → G H) (hu : ∀ i j, i < n → j < i → f j ≠ f i)
    (hs : ∀ i x H H', i < n → Same H1 H → Y i H x H' → ∀ (Ry : V → Hp → Prop) (Rn : Hp → Prop), (∀ H4, Same H H4 → Ry (kV (f i)) H4) →
      g x (wipe σ vs) H' fun σ2 H2 => wipe σ2 vs = wipe σ vs ∧ tt σ2 H2 fun b H3 => if b = true then te σ2 H3 Ry else Rn H3)
    (hd : ∀ H S, Same H1 H → H D = some (SetK P wd D S n) → Qd H) :
    ∃ W : Nat → Nat → Hp → Prop, (∃ m, W 0 m (upd H1 D (SetK P wd D (fun _ => false) 0))) ∧ ∀ i m H, W i m H →
      (J.stop i H ∧ Qd H) ∨ (J.go i H ∧ ∃ Nx : Hp → Prop, (∀ H', Nx H' → ∃ m', m' < m ∧ W (i + 1) m' H') ∧ ∀ x H', J.yld i H x H' → g x (wipe σ vs) H' fun σ2 H2 => wipe σ2 vs = wipe σ vs ∧ tt σ2 H2 fun b H3 =>
        if b = true then te σ2 H3 fun y H4 => ∃ (k : Key) (S : Key → Bool) (n : Nat), y = kV k ∧ H4 D = some (SetK P wd D S n) ∧ n + 1 < scanBound ∧ Nx (upd H4 D (SetK' P wd D S n k)) else Nx H3) := by
  refine ⟨fun i m H => m = n - i ∧ i ≤ n ∧ Same H1 H ∧ H D = some (SetK P wd D (fun k => decide (∃ j, j < i ∧ f j = k)) i), ⟨n, by simp, Nat.zero_le _, Same.new hD, ?_⟩, ?_⟩
  · rw [upd_same]
    simp
  rintro i m H ⟨rfl, hi, e, hDl⟩
  by_cases hlt : i < n
  · refine .inr ⟨w.goes i H hlt (hm H e), fun H' => Same H1 H' ∧ H' D = some (SetK P wd D (fun k => decide (∃ j, j < i + 1 ∧ f j = k)) (i + 1)), fun H' p => ⟨n - (i + 1), by omega, rfl, hlt, p⟩, fun x H' y => ?_⟩
    refine hs i x H H' hlt e (w.yields i H x H' hlt (hm H e) y) _ _ fun H4 e4 => ?_
    refine ⟨f i, _, i, rfl, e4 D _ hDl, by omega, Same.mut (e.trans e4) hD, ?_⟩
    rw [upd_same]
    have hno : ¬ ∃ j, j < i ∧ f j = f i := fun ⟨j, hj, ej⟩ => hu i j hlt hj ej
    unfold SetK'
    rw [if_neg (by simpa using hno)]
    congr 2
    funext k
    rw [Bool.eq_iff_iff, Bool.or_eq_true, decide_eq_true_eq, decide_eq_true_eq, decide_eq_true_eq]
    constructor
    · rintro (⟨j, hj, ej⟩ | rfl)
      · exact ⟨j, by omega, ej⟩
      · exact ⟨i, by omega, rfl⟩
    · rintro ⟨j, hj, ej⟩
      by_cases hji : j = i
      · subst hji
        exact .inr ej.symm
      · exact .inl ⟨j, by omega, ej⟩
  · have en : i = n := by omega
    subst en
    exact .inl ⟨w.stops H (hm H e), hd H _ e hDl⟩
end
/-! ranges that read a list -/
theorem range_getD {α : Type} (d : α) (xs : List α) : (List.range xs.length).map (fun i => xs.getD i d) = xs := by
  refine List.ext_getElem (by simp) fun i h1 h2 => ?_
  simp [List.getD_eq_getElem?_getD, h2]
theorem range_fm {α β : Type} (d : α) (xs : List α) (f : α → Option β) : (List.range xs.length).filterMap (fun i => f (xs.getD i d)) = xs.filterMap f := by
  conv => rhs; rw [← range_getD d xs]
  rw [List.filterMap_map]
  rfl
theorem range_flat {α β : Type} (d : α) (xs : List α) (f : α → List β) : (List.range xs.length).flatMap (fun i => f (xs.getD i d)) = xs.flatMap f := by
  conv => rhs; rw [← range_getD d xs]
  rw [List.flatMap_map]
theorem getD_of {α : Type} {d x : α} {xs : List α} {i : Nat} (h : xs[i]? = some x) : xs.getD i d = x := by
  rw [List.getD_eq_getElem?_getD, h]
  rfl
theorem vals_rev : ∀ {vs : List V} {us : List Value}, Vals vs us → Vals vs.reverse us.reverse
  | _, _, .nil => .nil
  | _, _, .cons r t => by
    rw [List.reverse_cons, List.reverse_cons]
    exact (vals_rev t).append (.cons r .nil)
theorem erase_map {α β : Type} (f : α → β) : ∀ (l : List α) (i : Nat), (l.map f).eraseIdx i = (l.eraseIdx i).map f
  | [], _ => rfl
  | _ :: _, 0 => rfl
  | a :: l, i + 1 => by
    show f a :: (l.map f).eraseIdx i = f a :: (l.eraseIdx i).map f
    rw [erase_map f l i]
theorem erase_perm {α : Type} : ∀ (l : List α) (i : Nat) (h : i < l.length), (l[i] :: l.eraseIdx i).Perm l
  | a :: l, 0, _ => List.Perm.refl _
  | a :: l, i + 1, h => by
    have ih := erase_perm l i (by simpa using h)
    exact (List.Perm.swap ..).trans (List.Perm.cons a ih)
theorem sum_ones : ∀ n : Nat, (List.replicate n 1).sum = n
  | 0 => rfl
  | n + 1 => by rw [List.replicate_succ, List.sum_cons, sum_ones n, Nat.add_comm]
/-- texts put together with nothing between -/
theorem join_nosep (ys : List Str) : (Txt.join (Str.ofString "") ys).cps.toList = ys.flatMap fun y => y.cps.toList := by
  have e0 : (Str.ofString "").cps = #[] := by decide +kernel
  have key : ∀ (l : List Str) (acc : Array Nat), (l.foldl (fun acc p => acc ++ (Str.ofString "").cps ++ p.cps) acc).toList = acc.toList ++ l.flatMap fun y => y.cps.toList := by
    intro l
    induction l with
    | nil => intro acc; simp
    | cons y l ih =>
      intro acc
      rw [List.foldl_cons, ih, e0]
      simp
  cases ys with
  | nil => rfl
  | cons y l =>
    show (l.foldl (fun acc p => acc ++ (Str.ofString "").cps ++ p.cps) y.cps).toList = _
    rw [key, List.flatMap_cons]
theorem at4 {a b c d : V} {i : Int} (h0 : 0 ≤ i) (h1 : i < 4) : ∃ v, atI [a, b, c, d] i = some v ∧ (v = a ∨ v = b ∨ v = c ∨ v = d) := by
  rcases (by omega : i = 0 ∨ i = 1 ∨ i = 2 ∨ i = 3) with rfl | rfl | rfl | rfl
  · exact ⟨a, rfl, .inl rfl⟩
  · exact ⟨b, rfl, .inr (.inl rfl)⟩
  · exact ⟨c, rfl, .inr (.inr (.inl rfl))⟩
  · exact ⟨d, rfl, .inr (.inr (.inr rfl))⟩
/-! what is walked, by what the value is -/
def iAny (K : PySem.W.Frag) (te : TE) : TI := fun σ H R => te σ H fun x H1 => match x with
  | .ref a => ((∃ xs, SqL K H1 a xs) ∧ R (Itl K a) H1) ∨ ((∃ xs, SqT K H1 a xs) ∧ R (Itt K a) H1)
  | .str z => R (Its z) H1
  | _ => False
section
variable {X : Cx} {tg e : Expr} {te : TE}
theorem pi_any (he : PE X e te) : PI X tg e (iAny X.K te) := by
  refine ⟨fun pins s σ H R I h => ?_⟩
  refine thn (he.run pins s σ H _ I h) fun v s1 hv => ?_
  obtain ⟨x, H1, I1, r1, q1⟩ := hv
  cases x with
  | ref a =>
    cases r1
    rcases q1 with ⟨⟨xs, hq⟩, q⟩ | ⟨⟨xs, hq⟩, q⟩
    · obtain ⟨its, rv, pl, _⟩ := I1.list hq
      exact wpAny_pyIter_list pl.isList (pi_one (tk := s1.toks) I1 _ (turn_list a _) ⟨_, Heap.get?_push_size _ rfl, rfl, rfl⟩ q)
    · obtain ⟨its, rv, pl, _⟩ := I1.tuple hq
      exact wpAny_pyIter_tuple (show s1.heap.IsTuple a its.toArray from pl) (pi_one (tk := s1.toks) I1 _ (turn_tuple a _) ⟨_, Heap.get?_push_size _ rfl, rfl, rfl⟩ q)
  | str z =>
    obtain ⟨t, rfl⟩ := r1
    cases ha : z.cps.all (· < 128)
    · exact wpAny_pyIter_wide ha (pi_one (tk := s1.toks) I1 _ (turn_str _ z t "str_iterator" (.inr rfl)) ⟨_, Heap.get?_push_size _ rfl, rfl, rfl⟩ q1)
    · exact wpAny_pyIter_ascii ha (pi_one (tk := s1.toks) I1 _ (turn_str _ z t "str_ascii_iterator" (.inl rfl)) ⟨_, Heap.get?_push_size _ rfl, rfl, rfl⟩ q1)
  | _ => exact (show False from q1).elim
/-- f(k = v, ..), no positional value -/
theorem pe_callK0 {CX : CXT} {k : Nat} {f : Addr} {fd : FuncData} {ps ks : List Str} {sp : Sp} {E : XK} {x : Str} {p pos : Pos} {kws : List Keyword} {tk : TA} {g : List Value → List Value → List Value} {gV : List V → List V → List V}
    (F : FnOk X.prog X.w X.K X.mg X.base CX k f fd ps sp) (hr : Room k X.A) (hg : Gl X x) (hm : X.mg x = some (.ref f)) (hk : PySem.W.keepIn X.K (.ref f) = true) (hb : KBinds X.K fd ps ks g gV) (hx : Passes CX X E)
    (hkw : PK X kws tk) (hall : (backToKw pos (keywordEach kws X.env)).all (·.1.isSome) = true := by rfl) (hks : (backToKw pos (keywordEach kws X.env)).filterMap (·.1) = ks := by rfl)
    (hdb : (x == ("__debug__" : Str)) = false := by decide) (hpl : ((backTo pos (starEach [] X.env)).any (·.1) || (backToKw pos (keywordEach kws X.env)).any (·.1.isNone)) = false := by rfl) :
    PE X (.Call (.Name x p) [] kws pos) (tCallK sp gV E tNil tk) := by
  refine ⟨fun pins s σ H Q I h => wpAny_Call_Name_kw (ld_glob I hg hm ?_ hdb)⟩
  refine PySem.W.callWith_KW0 (h₀ := X.base) I.ok.mod.kin hk hall (thn (hkw.run pos pins s σ H _ I h) fun ws s2 hz => ?_) hpl
  obtain ⟨zs, H2, I2, rz, q2⟩ := hz
  refine ⟨I2.kIn, ?_⟩
  rw [hks]
  exact run_fnk F hr hb hx I2 .nil rz q2
end
/-! the same rules with the written part as a letter of its own (a comprehension's block has the same) -/
section
variable {X : Cx} {K : PySem.W.Frag} {tg e : Expr} {te ta : TE}
theorem oAdd (hK : X.K = K := by rfl) : OpR X (binaryOp .Add) (rAddM K) := hK ▸ op_addM
theorem oMul (hK : X.K = K := by rfl) : OpR X (binaryOp .Mult) (rMulM K) := hK ▸ op_mulM
def rEqM (K : PySem.W.Frag) : R2 := fun x y H Q => rEq x y H Q ∨ rEqD K x y H Q
def rNeM (K : PySem.W.Frag) : R2 := fun x y H Q => rNe x y H Q ∨ rNeD K x y H Q
theorem oEq (hu : X.A.units + 64 < cLine) (hK : X.K = K := by rfl) : OpR X (compareOp .Eq) (rEqM K) := hK ▸ op_eqM hu
theorem oNe (hu : X.A.units + 64 < cLine) (hK : X.K = K := by rfl) : OpR X (compareOp .NotEq) (rNeM K) := hK ▸ op_neM hu
theorem oIn (hK : X.K = K := by rfl) : OpR X (compareOp .In) (rInM K false) := hK ▸ op_inM
theorem oNin (hK : X.K = K := by rfl) : OpR X (compareOp .NotIn) (rInM K true) := hK ▸ op_ninM
theorem ixM (hK : X.K = K := by rfl) : IxR X (rIx K) := hK ▸ ix_seq
theorem slM (hK : X.K = K := by rfl) : SlR X (rSlM K) := hK ▸ sl_M
def rLen (K : PySem.W.Frag) : List V → Hp → VK → Prop := fun xs H Q => ∃ x n, xs = [x] ∧ LenV K x H n ∧ Q (.int n) H
theorem cLen (hK : X.K = K := by rfl) : CallR X (.builtin "len") (rLen K) := hK ▸ call_len
theorem cIsi (hK : X.K = K := by rfl) : CallR X (.builtin "isinstance") (rIsi K) := hK ▸ call_isi
theorem cList (hc : X.calm = true) (hK : X.K = K := by rfl) : CallR X (.type "list") (rListM K) := hK ▸ call_listM hc
def rTupOf (K : PySem.W.Frag) : List V → Hp → VK → Prop := fun xs H Q => ∃ p ys, xs = [.ref p] ∧ ((SqL K H p ys ∧ ∀ l, H l = none → Q (.ref l) (upd H l (.tup ys))) ∨ (SqT K H p ys ∧ Q (.ref p) H))
theorem cTup (hK : X.K = K := by rfl) : CallR X (.type "tuple") (rTupOf K) := hK ▸ call_tuple_of
theorem cAll (hc : X.calm = true) (hK : X.K = K := by rfl) : CallR X (.builtin "all") (rAll K) := hK ▸ cr_all hc
theorem cAny (hc : X.calm = true) (hK : X.K = K := by rfl) : CallR X (.builtin "any") (rAny K) := hK ▸ cr_any hc
def rInt : List V → Hp → VK → Prop := fun xs H Q => (∃ i, xs = [.int i] ∧ Q (.int i) H) ∨ ∃ k, xs = [.bl k] ∧ Q (.int (if k then 1 else 0)) H
theorem cInt : CallR X (.type "int") rInt := call_int1
def rMax2 : List V → Hp → VK → Prop := fun xs H Q => ∃ i j, xs = [.int i, .int j] ∧ Q (.int (if j > i then j else i)) H
def rMin2 : List V → Hp → VK → Prop := fun xs H Q => ∃ i j, xs = [.int i, .int j] ∧ Q (.int (if j < i then j else i)) H
theorem cMax (hc : X.calm = true) : CallR X (.builtin "max") rMax2 := call_max2 hc
theorem cMin (hc : X.calm = true) : CallR X (.builtin "min") rMin2 := call_min2 hc
theorem piAny (he : PE X e te) (hK : X.K = K := by rfl) : PI X tg e (iAny K te) := hK ▸ pi_any he
def tTru (K : PySem.W.Frag) (ta : TE) : TT := fun σ H Q => ta σ H fun x H' => ∃ k, TruV K x H' k ∧ Q k H'
theorem ptT (ha : PE X e ta) (he : ∀ whole, isTrue e X.env whole = (do let v ← whole; standAt e.pos; holding [v] (truthy v)) := by intro _; rfl) (hK : X.K = K := by rfl) : PT X e (tTru K ta) := hK ▸ pt_truth ha he
def rJoin (K : PySem.W.Frag) : V → List V → Hp → VK → Prop := fun x xs H Q => ∃ a p, ∃ ys : List Str, x = .str a ∧ xs = [.ref p] ∧ (SqL K H p (ys.map V.str) ∨ SqT K H p (ys.map V.str)) ∧
  (ys.map (·.length)).sum + ys.length * a.length ≤ 16777216 ∧ Q (.str (Txt.join a ys)) H
theorem peJoin {o : Expr} {to : TE} {apos pos : Pos} (ho : PE X o to) (he : PE X e te) (hs : starEach [e] X.env = [(false, eval e X.env)] := by rfl) (hbase : attributeBase o "join" X.env (eval o X.env) = eval o X.env := by rfl)
    (hline : (apos.endLine == pos.line) = true := by rfl) (hK : X.K = K := by rfl) : PE X (.Call (.Attribute o "join" apos) [e] [] pos) (tM1 (rJoin K) to te) := by
  subst hK
  exact pe_join ho he hs hbase hline
section
variable {o e : Expr} {es : List Expr} {to : TE} {t : TA} {name : Str} {apos cpos : Pos} {T id : String} {r : V → List V → Hp → VK → Prop}
theorem peBm0 (pa : PlainAttrs T) (slot : Slot T name id) (hty : typeOf (.builtin id) = pure (.type "method_descriptor")) (hm : MtR X id r) (ho : PE X o to)
    (h1 : attributeBase o name X.env (eval o X.env) = eval o X.env := by rfl) (h2 : (apos.endLine == cpos.line) = true := by rfl) (hK : X.K = K := by rfl) : PE X (.Call (.Attribute o name apos) [] [] cpos) (tBM0 K T r to) := by
  subst hK
  exact pe_bm0 pa slot hty hm ho h1 h2
theorem peBm (pa : PlainAttrs T) (slot : Slot T name id) (hty : typeOf (.builtin id) = pure (.type "method_descriptor")) (hm : MtR X id r) (ho : PE X o to) (ha : PA X (e :: es) t)
    (h1 : attributeBase o name X.env (eval o X.env) = eval o X.env := by rfl)
    (h2 : ((backTo cpos (starEach (e :: es) X.env)).all (fun x => !x.1) && (backToKw cpos (keywordEach [] X.env)).all (fun x => x.1.isSome) && decide ((e :: es).length + ([] : List Keyword).length + (if ([] : List Keyword).isEmpty then 0 else 1) < 30)) = true := by rfl)
    (h3 : (apos.endLine == cpos.line) = true := by rfl) (h4 : starEach (e :: es) X.env = (false, eval e X.env) :: starEach es X.env := by rfl) (h5 : (backTo cpos (starEach es X.env)).any (·.1) = false := by rfl) (hK : X.K = K := by rfl) :
    PE X (.Call (.Attribute o name apos) (e :: es) [] cpos) (tBM K T r to t) := by
  subst hK
  exact pe_bm pa slot hty hm ho ha h1 h2 h3 h4 h5
end
end
end LK

set_option Elab.async false
set_option linter.all false
set_option maxRecDepth 100000
set_option maxHeartbeats 4000000
/-! the helpers that all laws bear: mixed, cell, take: their readings, once -/
namespace LK
open PySem PySem.Spec PyProof.Rows L2
theorem blT {p : Prop} [Decidable p] (h : p) : V.bl (decide p) = V.bl true := by rw [decide_eq_true h]
theorem blF {p : Prop} [Decidable p] (h : ¬ p) : V.bl (decide p) = V.bl false := by rw [decide_eq_false h]
theorem blN {p : Prop} [Decidable p] (h : p) : V.bl (!decide p) = V.bl false := by rw [decide_eq_true h]; rfl
theorem blNF {p : Prop} [Decidable p] (h : ¬ p) : V.bl (!decide p) = V.bl true := by rw [decide_eq_false h]; rfl
/-- one sign in a text -/
theorem sign_in (z : Str) (c : Nat) : (!(Builtin.Str.occurrences z (⟨#[c]⟩ : Str) 0 z.length 1).isEmpty) = decide (c ∈ z.cps.toList) := PySem.StrLaws.found_one z c
abbrev rMd : R2 := rI (fun _ j => j ≠ 0) fun i j => .int (i.fmod j)
abbrev rDv : R2 := rI CDivN fun i j => .int (i.fdiv j)
abbrev rSb : R2 := rI0 fun i j => .int (i - j)
abbrev rPw : R2 := rI CPow fun i j => .int (i ^ j.toNat)
def mixed (cell k : Int) : Int :=
  let m := (cell.fmod 2147483647 * 48271 + k * 69621 + 1048583).fmod 2147483629
  let m := (m * m).fmod 2147483587
  (m * (m + 2)).fmod 2147483579
def t_mixed (K : PySem.W.Frag) : TS :=
  tSeq (tAsg (tOp rMd (tOp (rAddM K) (tOp (rAddM K) (tOp (rMulM K) (tOp rMd (tVar 0) (tC (.int 2147483647))) (tC (.int 48271))) (tOp (rMulM K) (tVar 1) (tC (.int 69621)))) (tC (.int 1048583))) (tC (.int 2147483629))) (gName 2))
  (tSeq (tAsg (tOp rMd (tOp (rMulM K) (tVar 2) (tVar 2)) (tC (.int 2147483587))) (gName 2))
  (tRet (tOp rMd (tOp (rMulM K) (tVar 2) (tOp (rAddM K) (tVar 2) (tC (.int 2)))) (tC (.int 2147483579)))))
theorem fmod_range {a b : Int} (hb : 0 < b) : 0 ≤ a.fmod b ∧ a.fmod b < b := by
  rw [Int.fmod_eq_emod_of_nonneg a (by omega)]
  exact ⟨Int.emod_nonneg a (by omega), Int.emod_lt_of_pos a hb⟩
theorem mixed_range (c k : Int) : 0 ≤ mixed c k ∧ mixed c k < 2147483579 := fmod_range (by decide)
theorem mixed_run {K : PySem.W.Frag} {c k : Int} {H : Hp} {D : Ends} (h : D.rt (.int (mixed c k)) H) : t_mixed K D [some (.int c), some (.int k), none] H := by
  have e1 := fmod_range (a := c.fmod 2147483647 * 48271 + k * 69621 + 1048583) (b := 2147483629) (by decide)
  have e2 := fmod_range (a := (c.fmod 2147483647 * 48271 + k * 69621 + 1048583).fmod 2147483629 * (c.fmod 2147483647 * 48271 + k * 69621 + 1048583).fmod 2147483629) (b := 2147483587) (by decide)
  refine ⟨_, rfl, _, _, rfl, rfl, Int.ne_of_gt (by decide), .inl (.inr ⟨by decide, by decide⟩), _, rfl, .inl (.inr ⟨by decide, by decide⟩), _, _, rfl, rfl, Int.ne_of_gt (by decide), ?_⟩
  refine ⟨_, rfl, _, rfl, .inl (.inl ⟨by omega, by omega⟩), _, _, rfl, rfl, Int.ne_of_gt (by decide), ?_⟩
  exact ⟨_, rfl, _, rfl, .inl (.inl ⟨by omega, by omega⟩), _, _, rfl, rfl, Int.ne_of_gt (by decide), h⟩
/-- what the cell k of a script is worth, a pile of digits -/
def cellAt (ns : List Int) (k : Nat) : Int := ns.getD k 0
def mixUp (c k : Int) (j : Nat) (found : Int) : Int := found * 2147483579 + mixed c (7 * k + 100 * j + j * j)
def mixTo (c k : Int) : Nat → Int
  | 0 => 0
  | n + 1 => mixUp c k n (mixTo c k n)
def cellOf (ns : List Int) (k : Nat) : Int :=
  if 1000000000000000000 ≤ cellAt ns k then (cellAt ns k - 1000000000000000000).fmod (10 ^ 60 * 10 ^ 60 * 10 ^ 60 * 10 ^ 60) else mixTo (cellAt ns k) k 24
def spMixed : Sp := fun vs H Q _ => ∃ c k : Int, vs = [.int c, .int k] ∧ Q (.int (mixed c k)) H
def spCell' (K : PySem.W.Frag) : Sp := fun vs H Q _ => ∃ (a : Addr) (ns : List Int) (k : Nat), vs = [.ref a, .int k] ∧ SqL K H a (ns.map V.int) ∧ ns.length ≤ 63 ∧ k ≤ 1000 ∧ Q (.int (cellOf ns k)) H
def t_cell2 (K : PySem.W.Frag) : TS :=
(tSeq (tIfS (tTest (tOp (rCmpM (fun i j => decide (j ≤ i)) fun i j => !decide (i.cps.toList < j.cps.toList)) (tVar 2) (tOp rPw (tC (.int 10)) (tC (.int 18)))))
      (tRet (tOp rMd (tOp rSb (tVar 2) (tOp rPw (tC (.int 10)) (tC (.int 18))))
        (tOp (rMulM K) (tOp (rMulM K) (tOp (rMulM K) (tOp rPw (tC (.int 10)) (tC (.int 60))) (tOp rPw (tC (.int 10)) (tC (.int 60)))) (tOp rPw (tC (.int 10)) (tC (.int 60)))) (tOp rPw (tC (.int 10)) (tC (.int 60))))))
      tNext)
  (tSeq (tAsg (tC (.int 0)) (gName 3))
  (tSeq (tFor (iRng1 (tCons (tC (.int 24)) tNil)) (gName 4)
      (tAsg (tOp (rAddM K) (tOp (rMulM K) (tVar 3) (tC (.int 2147483579)))
        (tCall spMixed [] E0 (tCons (tVar 2) (tCons (tOp (rAddM K) (tOp (rAddM K) (tOp (rMulM K) (tC (.int 7)) (tVar 1)) (tOp (rMulM K) (tC (.int 100)) (tVar 4))) (tOp (rMulM K) (tVar 4) (tVar 4))) tNil)))) (gName 3)))
    (tRet (tVar 3)))))
def t_cell (K : PySem.W.Frag) : TS :=
  tSeq (tAsg (tC (.int 0)) (gName 2))
  (tSeq (tIfS (tTest (tOp (rCmpM (fun i j => decide (i < j)) fun i j => decide (i.cps.toList < j.cps.toList)) (tVar 1) (tCB (LK.rLen K) (tCons (tVar 0) tNil)))) (tAsg (tOp (rIx K) (tVar 0) (tVar 1)) (gName 2)) tNext)
  (t_cell2 K))
theorem pw60 : CPow 10 60 := ⟨by decide, by decide, by decide⟩
theorem pw18 : CPow 10 18 := ⟨by decide, by decide, by decide⟩
theorem w1 : CMulW ((10 : Int) ^ (60 : Int).toNat) ((10 : Int) ^ (60 : Int).toNat) := wide_mul (a := 200) (b := 200) (by decide) (by decide) (by decide) (by decide) (by decide)
set_option exponentiation.threshold 4000 in
theorem w2 : CMulW ((10 : Int) ^ (60 : Int).toNat * (10 : Int) ^ (60 : Int).toNat) ((10 : Int) ^ (60 : Int).toNat) := wide_mul (a := 400) (b := 200) (by decide) (by decide) (by decide) (by decide) (by decide)
set_option exponentiation.threshold 4000 in
theorem w3 : CMulW ((10 : Int) ^ (60 : Int).toNat * (10 : Int) ^ (60 : Int).toNat * (10 : Int) ^ (60 : Int).toNat) ((10 : Int) ^ (60 : Int).toNat) := wide_mul (a := 600) (b := 200) (by decide) (by decide) (by decide) (by decide) (by decide)
theorem e18 : (10 : Int) ^ (18 : Int).toNat = 1000000000000000000 := by decide
theorem e60 : (10 : Int) ^ (60 : Int).toNat = 10 ^ 60 := rfl
theorem nz60 : (10 : Int) ^ (60 : Int).toNat * (10 : Int) ^ (60 : Int).toNat * (10 : Int) ^ (60 : Int).toNat * (10 : Int) ^ (60 : Int).toNat ≠ 0 := by decide
theorem at_of_list {ns : List Int} {k : Nat} (h : k < ns.length) : atI (ns.map V.int) (k : Int) = some (.int (cellAt ns k)) := by
  refine atI_nat ?_
  rw [List.getElem?_map, List.getElem?_eq_getElem h]
  show some (V.int ns[k]) = _
  rw [cellAt, List.getD_eq_getElem?_getD, List.getElem?_eq_getElem h]
  rfl
theorem mix_range (c k : Int) : ∀ n, 0 ≤ mixTo c k n
  | 0 => Int.le_refl 0
  | n + 1 => by
    have h1 := mix_range c k n
    have h2 := (mixed_range c (7 * k + 100 * n + n * n)).1
    have h3 : 0 ≤ mixTo c k n * 2147483579 := Int.mul_nonneg h1 (by decide)
    show 0 ≤ mixTo c k n * 2147483579 + _
    omega
theorem cell_run {K : PySem.W.Frag} {a : Addr} {ns : List Int} {k : Nat} {H : Hp} {D : Ends} (hs : SqL K H a (ns.map V.int)) (hn : ns.length ≤ 63) (hk : k ≤ 1000) (h : D.rt (.int (cellOf ns k)) H) :
    t_cell K D [some (.ref a), some (.int k), none, none, none] H := by
  -- behind the reading of the cell
  have rest : ∀ c : Int, c = cellAt ns k → t_cell2 K D [some (.ref a), some (.int k), some (.int c), none, none] H := by
    intro c hc
    refine ⟨_, rfl, _, _, rfl, rfl, pw18, _, rfl, ?_⟩
    rw [e18]
    refine ite2 (fun hge => ?_) fun hlt => ?_
    · have hge := of_decide_eq_true hge
      refine ⟨_, rfl, _, _, rfl, rfl, pw18, _, _, rfl, rfl, _, _, rfl, rfl, pw60, _, _, rfl, rfl, pw60, .inr w1, _, _, rfl, rfl, pw60, .inr w2, _, _, rfl, rfl, pw60, .inr w3, _, _, rfl, rfl, nz60, ?_⟩
      have e : cellOf ns k = (c - 10 ^ (18 : Int).toNat).fmod ((10 : Int) ^ (60 : Int).toNat * (10 : Int) ^ (60 : Int).toNat * (10 : Int) ^ (60 : Int).toNat * (10 : Int) ^ (60 : Int).toNat) := by
        unfold cellOf
        rw [← hc, if_pos hge, e18]
        rfl
      rw [e] at h
      exact h
    · have hlt : ¬ 1000000000000000000 ≤ c := fun z => hlt (decide_eq_true z)
      refine ⟨24, rfl, by decide, by decide, for_range (lo := 0) (n := 24) (fun i σ H' => H' = H ∧ ∃ j, σ = [some (.ref a), some (.int k), some (.int c), some (.int (mixTo c k i)), j]) ⟨rfl, none, rfl⟩ ?_ ?_⟩
      · rintro i σ H' hi ⟨rfl, j, rfl⟩
        refine ⟨_, rfl, .inl (.inr ⟨by decide, by decide⟩), _, rfl, _, rfl, .inl (.inl ⟨by decide, by decide⟩), _, rfl, .inl (.inl ⟨by decide, by decide⟩), _, rfl, _, rfl, .inl (.inl ⟨by omega, by omega⟩), c, _, rfl, ?_⟩
        refine ⟨rfl, some (.int (0 + i)), ?_⟩
        have e : mixTo c k (i + 1) = mixTo c k i * 2147483579 + mixed c (7 * k + 100 * (0 + i) + (0 + i) * (0 + i)) := by
          rw [Int.zero_add]
          rfl
        rw [e]
        rfl
      · rintro σ H' ⟨rfl, j, rfl⟩
        refine ⟨_, rfl, ?_⟩
        have e : cellOf ns k = mixTo c k 24 := by
          unfold cellOf
          rw [← hc, if_neg hlt]
        rw [e] at h
        exact h
  refine ⟨_, rfl, _, rfl, _, _, rfl, .inl ⟨_, hs, rfl⟩, _, rfl, ?_⟩
  refine ite2 (fun hge => ?_) fun hlt => ?_
  · have hge := of_decide_eq_true hge
    rw [List.length_map] at hge
    have hk : k < ns.length := by omega
    refine ⟨_, rfl, _, rfl, .inl ⟨_, _, _, _, rfl, rfl, hs, at_of_list hk, ?_⟩⟩
    exact rest _ rfl
  · have hlt : ¬ (k : Int) < ((ns.map V.int).length : Int) := fun z => hlt (decide_eq_true z)
    rw [List.length_map] at hlt
    refine rest 0 ?_
    unfold cellAt
    rw [List.getD_eq_getElem?_getD, List.getElem?_eq_none (by omega)]
    rfl
/-- the pile, a list of one number -/
def t_take (K : PySem.W.Frag) : TS :=
  tSeq (tAsg (tOp rMd (tOp (rIx K) (tVar 0) (tC (.int 0))) (tVar 1)) (gName 2))
  (tSeq (tAsg (tOp rDv (tOp (rIx K) (tVar 0) (tC (.int 0))) (tVar 1)) (gSub (tVar 0) (tC (.int 0)) rSetL))
  (tRet (tVar 2)))
def spTake : Sp := fun vs H Q _ => ∃ (p : Addr) (c m : Int), vs = [.ref p, .int m] ∧ H p = some (.lst [.int c]) ∧ (0 < m ∧ m < 1073741824) ∧ Q (.int (c.fmod m)) (upd H p (.lst [.int (c.fdiv m)]))
theorem take_run {K : PySem.W.Frag} {p : Addr} {c m : Int} {H : Hp} {D : Ends} (hp : H p = some (.lst [.int c])) (hm : 0 < m ∧ m < 1073741824) (h : D.rt (.int (c.fmod m)) (upd H p (.lst [.int (c.fdiv m)]))) :
    t_take K D [some (.ref p), some (.int m), none] H := by
  refine ⟨_, rfl, .inl ⟨_, _, _, _, rfl, rfl, SqL.of hp, rfl, _, rfl, _, _, rfl, rfl, Int.ne_of_gt hm.1, ?_⟩⟩
  refine ⟨_, rfl, .inl ⟨_, _, _, _, rfl, rfl, SqL.of hp, rfl, _, rfl, _, _, rfl, rfl, ⟨Int.ne_of_gt hm.1, by omega⟩, ?_⟩⟩
  refine ⟨_, rfl, _, _, _, 0, rfl, rfl, hp, rfl, ?_⟩
  exact ⟨_, rfl, h⟩
end LK

set_option Elab.async false
set_option linter.all false
set_option maxRecDepth 100000
set_option maxHeartbeats 4000000
/-! an own error class with its own __init__, called with keywords: the same steps as without -/
namespace LKX
open PySem PySem.W PySem.Calls PyProof.Rows
section
variable {prog : Program} {w : World} {M : Model} {Ar : Around} {Ex : Value → Shared → Prop} {Rs : Result → Shared → Prop} {hp : Heap} {gs : Array GenState} {dr : Drawn} {tk : Nat} {o : OsState}
variable {nm qn : Str} {C N : Addr} {bs bm bmB : List Value} {hdct : Bool} {sn : List Str} {sub : List Value} {ab : Bool} {col : Option Bool} {dd : Option Addr} {k0 k1 k2 k3 k5 : Option Value} {B newId initId : String}
theorem check_newK (F : ExcBaseFacts B newId initId bmB) (hT : ∀ X : String, bm.contains (.type X) = bmB.contains (.type X)) {rest : List Value} {kw : List (Str × Value)} {Q : Unit → Shared → Prop}
    (hC : hp.get? C = some (excClassObj nm qn C N bs bm hdct sn sub ab col dd k0 k1 k2 k3 k5 newId)) (hq : Q () ⟨hp, gs, dr, tk, o⟩) : wpAny M Ar (checkBuiltinCall newId ⟨.ref C :: rest, kw⟩) Q Ex ⟨hp, gs, dr, tk, o⟩ := by
  have hc1 : (Value.ref C :: bm).contains (.type B) = true := by rw [List.contains_cons, hT B, F.hasB]; exact Bool.or_true _
  have hs := F.noStar
  simp only [checkBuiltinCall, F.newSplit, F.newKind, F.newRow]
  repeat (first | refine wpAny_madeBy_exc hC ?_ | refine wpAny_staticBase_exc hC ?_ | (refine wpAny_isSubtype_exc hC ?_; rw [hc1]) | refine wpAny_loadPart_at hC ?_ | simp only [Bool.false_eq_true, bne_self_eq_false, if_false] | wp_step)
  exact hq
theorem newK (F : ExcBaseFacts B newId initId bmB) (hT : ∀ X : String, bm.contains (.type X) = bmB.contains (.type X)) {rest : List Value} {kw : List (Str × Value)}
    (hC : hp.get? C = some (excClassObj nm qn C N bs bm hdct sn sub ab col dd k0 k1 k2 k3 k5 newId))
    (hq : Rs (.ok (.ret (.ref (hp.objs.size + 1)))) ⟨(hp.push { cls := .type "tuple", data := .seq rest.toArray }).push
      { cls := .ref C, data := .fields #[.ref hp.objs.size, .none, .none, .none, .bool false, .none] }, gs, dr, tk, o⟩) (hl : rest.length ≤ sizeLine) :
    codeAny (model prog w) Ar (.builtin newId ⟨.ref C :: rest, kw⟩) Rs ⟨hp, gs, dr, tk, o⟩ := by
  have he := F.ends
  have hc1 : (Value.ref C :: bm).contains (.type B) = true := by rw [List.contains_cons, hT B, F.hasB]; exact Bool.or_true _
  have hc2 : (Value.ref C :: bm).contains (.type "AttributeError") = false := by rw [List.contains_cons, hT "AttributeError", F.noAttr] <;> rfl
  have hc3 : (Value.ref C :: bm).contains (.type "NameError") = false := by rw [List.contains_cons, hT "NameError", F.noName] <;> rfl
  refine codeAny_builtinAt F.entry ?_
  unfold Builtin.«BaseException.__new__»
  refine PySem.wpAt_bind ?_
  show PySem.wpAt _ _ _ (stack >>= _) _ _ _
  refine PySem.wpAt_bind (PySem.wpAt_stack fun p below => PySem.wpAt_of_wpAny ?_)
  wp_walk
  refine PySem.wpAt_of_wpAny ?_
  rw [F.owner]
  repeat (first | with_reducible refine wpAny_loadPart_at hC ?_ | with_reducible refine wpAny_madeHere_exc F.canon hC ?_ | (with_reducible refine wpAny_isSubtype_exc hC ?_; first | rw [hc1] | rw [hc2] | rw [hc3]) | wp_step)
  show Rs _ _
  rw [Heap.size_push]
  exact hq
theorem type_callK (F : ExcBaseFacts B newId initId bmB) (hT : ∀ X : String, bm.contains (.type X) = bmB.contains (.type X)) {rest : List Value} {kw : List (Str × Value)} {fI : Addr} {Q : Fin → Shared → Prop}
    (hC : hp.get? C = some (excClassObj nm qn C N bs bm hdct sn sub ab col dd k0 k1 k2 k3 k5 newId))
    (hi : W.Looks (model prog w) hp (typeLookup (.ref C) "__init__") (some (.ref fI))) (hb : ∀ self, W.Looks (model prog w) hp (bindSpecial (.ref fI) self) (.ref fI, [self])) (hl : rest.length ≤ sizeLine)
    (hq : codeAny (model prog w) Ar (.call (.ref fI) ⟨.ref (hp.objs.size + 1) :: rest, kw⟩)
      (fun r s' => match r with | .ok (.ret v) => v = .none ∧ Q (.done (.ret (.ref (hp.objs.size + 1)))) s' | .ok _ => False | .error e => Ex e s')
      ⟨(hp.push (W.kdv_tup rest)).push (HandSPX.excO C hp.objs.size), gs, dr, tk, o⟩) :
    wpAny (model prog w) Ar (Builtin.«type.__call__» ⟨.ref C :: rest, kw⟩) Q Ex ⟨hp, gs, dr, tk, o⟩ := by
  repeat (first | with_reducible refine wpAny_madeBy_exc hC ?_ | with_reducible refine wpAny_loadPart_at hC ?_ | wp_step)
  refine codeAny_call_builtin_code (Code.quiet_builtin _ F.quiet) (check_newK F hT hC ?_)
  refine newK F hT hC ?_ hl
  show wpAny _ _ _ _ _ _
  have kp : ∀ b u, hp.get? b = some u → ((hp.push (W.kdv_tup rest)).push (HandSPX.excO C hp.objs.size)).get? b = some u := fun b u e => Heap.get?_push_of_some _ (Heap.get?_push_of_some _ e)
  have hC2 := kp _ _ hC
  have hx : ((hp.push (W.kdv_tup rest)).push (HandSPX.excO C hp.objs.size)).get? (hp.objs.size + 1) = some (HandSPX.excO C hp.objs.size) := by heap_get
  have hcC : (Value.ref C :: bm).contains (.ref C) = true := by simp
  have i2 := hi.keeps kp
  have b2 := (hb (.ref (hp.objs.size + 1))).keeps kp
  unfold isInstance
  repeat (first | with_reducible refine wpAny_loadPart_at hx ?_ | (with_reducible refine wpAny_isSubtype_exc hC2 ?_; rw [hcC]) | wp_step)
  show wpAny _ _ (typeLookup (.ref C) _) _ _ _
  refine i2.at ?_
  refine wpAny_holding (wpAny_bind (b2.at ?_))
  refine wpAny_bind (wpAny_call (codeAny_mono hq fun r s' z => ?_))
  rcases r with e | (v | _ | _ | _) <;> first | exact z | exact z.elim | skip
  obtain ⟨rfl, z⟩ := z
  first
    | exact wpAny_pure (wpAny_pure z)
    | (wp_walk; exact z)
theorem check_callK {rest : List Value} {kw : List (Str × Value)} {Q : Unit → Shared → Prop} (hC : hp.get? C = some (excClassObj nm qn C N bs bm hdct sn sub ab col dd k0 k1 k2 k3 k5 newId))
    (hq : Q () ⟨hp, gs, dr, tk, o⟩) : wpAny M Ar (checkBuiltinCall "type.__call__" ⟨.ref C :: rest, kw⟩) Q Ex ⟨hp, gs, dr, tk, o⟩ := by
  have f1 := tc_sub
  have hTy : (⟨hp, gs, dr, tk, o⟩ : Shared).TypeIs (.ref C) "type" := ⟨_, hC, rfl⟩
  simp only [checkBuiltinCall, tc_split, tc_kind]
  repeat (any_goals (first | assumption | with_reducible refine wpAny_onRaise ?_ | with_reducible refine wpAny_loadPart_at hC ?_ | with_reducible refine wpAny_map ?_ | wp_step))
theorem callK (F : ExcBaseFacts B newId initId bmB) (hT : ∀ X : String, bm.contains (.type X) = bmB.contains (.type X)) {rest : List Value} {kw : List (Str × Value)} {fI : Addr}
    (hC : hp.get? C = some (excClassObj nm qn C N bs bm hdct sn sub ab col dd k0 k1 k2 k3 k5 newId))
    (hi : W.Looks (model prog w) hp (typeLookup (.ref C) "__init__") (some (.ref fI))) (hb : ∀ self, W.Looks (model prog w) hp (bindSpecial (.ref fI) self) (.ref fI, [self])) (hl : rest.length ≤ sizeLine)
    (hq : codeAny (model prog w) (Ar.under (.builtin "type.__call__" ⟨.ref C :: rest, kw⟩)) (.call (.ref fI) ⟨.ref (hp.objs.size + 1) :: rest, kw⟩) (W.InitBack (hp.objs.size + 1) Rs)
      ⟨(hp.push (W.kdv_tup rest)).push (HandSPX.excO C hp.objs.size), gs, dr, tk, o⟩) :
    codeAny (model prog w) Ar (.call (.ref C) ⟨rest, kw⟩) Rs ⟨hp, gs, dr, tk, o⟩ := by
  have f1 := tc_lookup
  have f2 := tc_bind (.ref C)
  have hTy : (⟨hp, gs, dr, tk, o⟩ : Shared).TypeIs (.ref C) "type" := ⟨_, hC, rfl⟩
  refine codeAny_of_tree ?_
  show wpAny _ _ (callAny (.ref C) _) _ _ _
  repeat (any_goals (first | assumption | with_reducible refine wpAny_loadPart_at hC ?_ | wp_step))
  refine ⟨rfl, ?_⟩
  refine codeAny_call_builtin_at (Code.quiet_builtin _ (by decide +kernel)) entry_typeCall (check_callK hC (type_callK F hT hC hi hb hl ?_))
  refine codeAny_mono hq fun r s' z => ?_
  rcases r with e | (v | _ | _ | _) <;> exact z
end
end LKX

set_option Elab.async false
set_option linter.all false
set_option maxRecDepth 100000
set_option maxHeartbeats 4000000
/-! errors of own classes, held as values: made, their fields, isinstance -/
namespace LK
open PySem PySem.Spec PyProof.Rows L2
/-- at a: an error of the class cls, its dict at d; fr: no frame has noted it yet -/
def exK (a : Addr) (cls : Value) (d : Option Addr) (fr : Bool) : HO := .ext fun h => ∃ (oe : Obj) (vs : Array Value), h.get? a = some oe ∧ oe.cls = cls ∧ oe.dict = d ∧ oe.data = .fields vs ∧ (fr = true → vs[1]? = some .none)
section
variable {P : Program} {w : World} {H : Hp} {h : Heap} {a : Addr} {cls : Value} {d : Option Addr} {fr : Bool}
theorem exK_ok {oe : Obj} {vs : Array Value} (e : h.get? a = some oe) (c : oe.cls = cls) (k : oe.dict = d) (f : oe.data = .fields vs) (g : fr = true → vs[1]? = some .none) : ObjOk P w H h a (exK a cls d fr) :=
  ⟨⟨oe, vs, e, c, k, f, g⟩, ⟨oe, e⟩, fun _ _ z k => let ⟨o, v, q, r⟩ := z; ⟨o, v, k o q, r⟩⟩
theorem exK_at (hok : HOk P w H h) (e : H a = some (exK a cls d fr)) : ∃ (oe : Obj) (vs : Array Value), h.get? a = some oe ∧ oe.cls = cls ∧ oe.dict = d ∧ oe.data = .fields vs ∧ (fr = true → vs[1]? = some .none) := (show ObjOk P w H h a (.ext _) from hok a _ e).1
end
/-- its dict stands, or it has none -/
def DictAt (H : Hp) (d : Option Addr) : Prop := d = none ∨ ∃ (x : Addr) (fs : List (Str × V)), d = some x ∧ H x = some (.xd fs)
theorem DictAt.same {H H' : Hp} {d : Option Addr} (k : DictAt H d) (e : Same H H') : DictAt H' d := by
  rcases k with k | ⟨x, fs, k, q⟩
  · exact .inl k
  · exact .inr ⟨x, fs, k, e _ _ q⟩
/-! ### calls with positional and keyword values -/
def CallKR (X : Cx) (f : Value) (ks : List Str) (r : List V → List V → Hp → VK → Prop) : Prop :=
  ∀ (pins : List (Addr × Obj)) (s : Shared) (σ : L2.St) (H : Hp) (xs : List V) (us : List Value) (zs : List V) (ws : List Value) (Q : VK), Inv X pins σ H s → Vals xs us → Vals zs ws → r xs zs H Q →
    wpAny (model X.prog X.w) X.A (call f us (ks.zip ws)) (EP X pins σ Q) X.xe s
def tGK (r : List V → List V → Hp → VK → Prop) (ta tk : TA) : TE := fun σ H Q => ta σ H fun xs H1 => tk σ H1 fun zs H2 => r xs zs H2 Q
section
variable {X : Cx} {ks : List Str} {f : Value} {x : Str} {p pos : Pos} {e : Expr} {es : List Expr} {kws : List Keyword} {t tk : TA} {r : List V → List V → Hp → VK → Prop}
theorem pe_gk (c : CallKR X f ks r) (hg : Gl X x) (hm : X.mg x = some f) (hk : PySem.W.keepIn X.K f = true) (ha : PA X (e :: es) t) (hkw : PK X kws tk)
    (hall : (backToKw pos (keywordEach kws X.env)).all (·.1.isSome) = true := by rfl) (hks : (backToKw pos (keywordEach kws X.env)).filterMap (·.1) = ks := by rfl) (hdb : (x == ("__debug__" : Str)) = false := by decide)
    (he : starEach (e :: es) X.env = (false, eval e X.env) :: starEach es X.env := by rfl) (hpl : ((backTo pos (starEach (e :: es) X.env)).any (·.1) || (backToKw pos (keywordEach kws X.env)).any (·.1.isNone)) = false := by rfl) :
    PE X (.Call (.Name x p) (e :: es) kws pos) (tGK r t tk) := by
  refine ⟨fun pins s σ H Q I h => wpAny_Call_Name_kw (ld_glob I hg hm ?_ hdb)⟩
  refine PySem.W.callWith_KW (h₀ := X.base) I.ok.mod.kin hk hall (thn (ha.run pos pins s σ H _ I h) fun us s1 hz => ?_) hpl he
  obtain ⟨vs, H1, I1, r1, q⟩ := hz
  refine thn (hkw.run pos pins s1 σ H1 _ I1 q) fun ws s2 hz => ?_
  obtain ⟨zs, H2, I2, rz, q2⟩ := hz
  refine ⟨I2.kIn, ?_⟩
  rw [hks]
  exact c pins s2 σ H2 vs us zs ws Q I2 r1 rz q2
theorem pe_gk0 (c : CallKR X f ks r) (hg : Gl X x) (hm : X.mg x = some f) (hk : PySem.W.keepIn X.K f = true) (hkw : PK X kws tk)
    (hall : (backToKw pos (keywordEach kws X.env)).all (·.1.isSome) = true := by rfl) (hks : (backToKw pos (keywordEach kws X.env)).filterMap (·.1) = ks := by rfl) (hdb : (x == ("__debug__" : Str)) = false := by decide)
    (hpl : ((backTo pos (starEach [] X.env)).any (·.1) || (backToKw pos (keywordEach kws X.env)).any (·.1.isNone)) = false := by rfl) :
    PE X (.Call (.Name x p) [] kws pos) (tGK r tNil tk) := by
  refine ⟨fun pins s σ H Q I h => wpAny_Call_Name_kw (ld_glob I hg hm ?_ hdb)⟩
  refine PySem.W.callWith_KW0 (h₀ := X.base) I.ok.mod.kin hk hall (thn (hkw.run pos pins s σ H _ I h) fun ws s2 hz => ?_) hpl
  obtain ⟨zs, H2, I2, rz, q2⟩ := hz
  refine ⟨I2.kIn, ?_⟩
  rw [hks]
  exact c pins s2 σ H2 [] [] zs ws Q I2 .nil rz q2
end
/-! ### C(..): no own __init__ -/
structure rMkN (C : Addr) (xs zs : List V) (H : Hp) (Q : VK) : Prop where
  out : zs = [] ∧ xs.length ≤ 1000 ∧ ∀ a, H a = none → Q (.ref a) (upd H a (exK a (.ref C) none true))
theorem ck_mkN {X : Cx} {C : Addr} {bmB : List Value} {B newId initId : String} (F : ExcBaseFacts B newId initId bmB) (q : PySem.W.excIn X.K C bmB newId = true) : CallKR X (.ref C) [] (rMkN C) := by
  intro pins s σ H xs us zs ws Q I r rz h
  obtain ⟨rfl, hl, q1⟩ := h.out
  obtain ⟨bm, N, nm, qn, bs, hdct, sn, sub, ab, col, dd, k0, k1, k2, k3, k5, mN, hC, hN, hni, T⟩ := exc_obj I.kIn q
  show wpAny _ _ (call (.ref C) us) _ _ _
  have hus : us.length ≤ sizeLine := by
    rw [← Paired.length r, sizeLine_eq]
    omega
  refine wpAny_call_exc_subT F T hC hN hni (fun h' a hm => ?_) hus
  have hn : H a = none := I.hok.gone hm.new
  obtain ⟨t, ht, _, _⟩ := hm.there
  exact ⟨.ref a, _, I.laidN hm.keeps hm.new hn (exK_ok ht rfl rfl rfl fun _ => rfl), rfl, q1 a hn⟩
/-! ### C(..): C's own __init__ keeps sp -/
section
variable {X : Cx} {CX : CXT} {C fI : Addr} {k n : Nat} {fd : FuncData} {ps ks : List Str} {sp : Sp} {g : List Value → List Value → List Value} {gV : List V → List V → List V}
/-- up to the end of __init__ -/
theorem mk_core {pins : List (Addr × Obj)} {σ : L2.St} {H1 : Hp} {s1 : Shared} {vs zs : List V} {us ws : List Value} {Qi : Addr → VK} {Post : Value → Shared → Prop} (T : OexC X.K C) (iC : PySem.W.findIn X.K (.ref C) "__init__" = some (some (.ref fI))) (tI : PySem.W.typeIn X.K (.ref fI) = some (.type "function"))
    (F1 : FnOk X.prog X.w X.K X.mg X.base CX k fI fd ps sp) (hr : Room (k + 1) X.A) (hb : KBn X.K fd ps (n + 1) ks g gV) (hx : Passes CX X (fun _ _ _ => False)) (I1 : Inv X pins σ H1 s1) (r1 : Vals vs us) (rz : Vals zs ws) (hn : vs.length = n) (hz : zs.length = ks.length) (hl : n ≤ 1000)
    (hq : ∀ a, H1 a = none → sp (gV (.ref a :: vs) zs) (upd H1 a (exo a C none)) (Qi a) fun _ _ _ => False)
    (fin : ∀ s2 u, s2.os = s1.os → (∀ b o, s1.heap.get? b = some o → s2.heap.get? b = some o) → Inv X pins σ (upd H1 (s1.heap.objs.size + 1) (exo (s1.heap.objs.size + 1) C none)) s2 →
      ∀ s', CE X.stack X.prog X.w (upd H1 (s1.heap.objs.size + 1) (exo (s1.heap.objs.size + 1) C none)) s2 (Qi (s1.heap.objs.size + 1)) u s' → u = .none ∧ Post (.ref (s1.heap.objs.size + 1)) s') :
    wpAny (model X.prog X.w) X.A (call (.ref C) us (ks.zip ws)) Post X.xe s1 := by
  obtain ⟨nm, q, N, bs, bm, sn, sub, ab, col, dd, k0, k1, k2, k3, k5, hC, hbm⟩ := T.cls
  obtain ⟨hp, gs, dr, tk, os⟩ := s1
  have hsz : hp.objs.size ≤ hp.objs.size + 1 := Nat.le_succ _
  have hnn : H1 (hp.objs.size + 1) = none := I1.hok.fresh hsz
  have hq' := hq (hp.objs.size + 1) hnn
  have kk : ∀ b o, hp.get? b = some o → ((hp.push (PySem.W.kdv_tup us)).push (PySem.HandSPX.excO C hp.objs.size)).get? b = some o := fun b o e => Heap.get?_push_of_some _ (Heap.get?_push_of_some _ e)
  have hget : ((hp.push (PySem.W.kdv_tup us)).push (PySem.HandSPX.excO C hp.objs.size)).get? (hp.objs.size + 1) = some (PySem.HandSPX.excO C hp.objs.size) := by heap_get
  have I2 : Inv X pins σ (upd H1 (hp.objs.size + 1) (exo (hp.objs.size + 1) C none)) ⟨(hp.push (PySem.W.kdv_tup us)).push (PySem.HandSPX.excO C hp.objs.size), gs, dr, tk, os⟩ :=
    I1.laid (t' := tk) (a := hp.objs.size + 1) (o := exo (hp.objs.size + 1) C none) (h' := (hp.push (PySem.W.kdv_tup us)).push (PySem.HandSPX.excO C hp.objs.size)) kk hsz (exo_ok hget)
  have r0 : Vals (V.ref (hp.objs.size + 1) :: vs) (Value.ref (hp.objs.size + 1) :: us) := .cons rfl r1
  have r2 := hb.rel r0 rz
  have hus : us.length ≤ sizeLine := by
    rw [← Paired.length r1, sizeLine_eq]
    omega
  have l1 : (Value.ref (hp.objs.size + 1) :: us).length = n + 1 := by rw [← Paired.length r0, List.length_cons, hn]
  have l2 : ws.length = ks.length := by rw [← Paired.length rz, hz]
  refine wpAny_call (LKX.callK PySem.F.excBase_ValueError (fun Y => PySem.HandSPX.refsVE_contains Y bm hbm) (I1.kIn _ _ hC) (PySem.W.looks_findIn I1.kIn iC) (fun self => PySem.W.bind_fn I1.kIn self tI) hus
    (codeAny_mono (F1.run _ X.stack _ _ ⟨Value.ref (hp.objs.size + 1) :: us, ks.zip ws⟩ _ _ _ (fun _ _ _ => False) (hr.make C us _) (I2.env0.make C us _) (hb.to _ (Value.ref (hp.objs.size + 1) :: us) ws I2.kIn l1 l2) r2 hq') fun r s' hq2 => ?_))
  cases r with
  | error er => exact hx pins σ _ _ er s' I2 hq2
  | ok fl =>
    cases fl with
    | ret u => exact fin ⟨(hp.push (PySem.W.kdv_tup us)).push (PySem.HandSPX.excO C hp.objs.size), gs, dr, tk, os⟩ u rfl kk I2 s' hq2
    | next => exact False.elim hq2
    | brk => exact False.elim hq2
    | cont => exact False.elim hq2
/-- the same sight: e tracked, of another description -/
theorem retag {pins : List (Addr × Obj)} {σ : L2.St} {H : Hp} {s : Shared} {a : Addr} {φ : Heap → Prop} {o : HO} (I : Inv X pins σ H s) (e : H a = some (.ext φ)) (ok : ObjOk X.prog X.w (upd H a o) s.heap a o) : Inv X pins σ (upd H a o) s := by
  obtain ⟨hp, gs, dr, tk, os⟩ := s
  exact I.write (t' := tk) (x := a) (e := a) (o := o) (by rw [e]; exact True.intro) (.inl rfl) (fun _ _ _ q => q) (objOk_get ok) ok
structure rMkO (C : Addr) (n : Nat) (ks : List Str) (sp : Sp) (gV : List V → List V → List V) (xs zs : List V) (H : Hp) (Q : VK) : Prop where
  out : xs.length = n ∧ zs.length = ks.length ∧ ∀ a, H a = none → sp (gV (.ref a :: xs) zs) (upd H a (exo a C none))
    (fun v H2 => v = .non ∧ ∃ (d : Addr) (fs : List (Str × V)), H2 a = some (exo a C (some d)) ∧ H2 d = some (exd d fs) ∧ Q (.ref a) (upd (upd H2 d (.xd fs)) a (exK a (.ref C) (some d) true))) (fun _ _ _ => False)
theorem ck_mkO (T : OexC X.K C) (iC : PySem.W.findIn X.K (.ref C) "__init__" = some (some (.ref fI))) (tI : PySem.W.typeIn X.K (.ref fI) = some (.type "function"))
    (F1 : FnOk X.prog X.w X.K X.mg X.base CX k fI fd ps sp) (hr : Room (k + 1) X.A) (hb : KBn X.K fd ps (n + 1) ks g gV) (hx : Passes CX X (fun _ _ _ => False)) (hl : n ≤ 1000 := by decide) : CallKR X (.ref C) ks (rMkO C n ks sp gV) := by
  intro pins s σ H xs us zs ws Q I r rz h
  obtain ⟨hn, hz, hq⟩ := h.out
  refine mk_core T iC tI F1 hr hb hx I r rz hn hz hl hq fun s2 u _ _ I2 s' hc => ?_
  obtain ⟨v, H2, J, rv, ev, d, fs, ea, ed, q⟩ := I2.after hc
  subst ev
  refine ⟨rv, ?_⟩
  obtain ⟨t0, hoe⟩ := exo_at J.hok ea
  obtain ⟨mA, hns, rel⟩ := exd_at J.hok ed
  have nda : s.heap.objs.size + 1 ≠ d := fun z => by
    obtain ⟨o, es, ep, e1, e2, _⟩ := hns
    rw [← z, hoe] at e1
    have z2 := Option.some.inj e1
    subst z2
    cases e2
  have J2 : Inv X pins σ (upd H2 d (.xd fs)) s' := retag J (show H2 d = some (HO.ext _) from ed) (show ObjOk X.prog X.w (upd H2 d (.xd fs)) s'.heap d (.xd fs) from ⟨mA, hns, rel⟩)
  have ea2 : upd H2 d (.xd fs) (s.heap.objs.size + 1) = some (exo (s.heap.objs.size + 1) C (some d)) := by rw [upd_ne nda]; exact ea
  exact ⟨.ref (s.heap.objs.size + 1), _, retag J2 (show _ = some (HO.ext _) from ea2) (exK_ok hoe rfl rfl rfl fun _ => rfl), rfl, q⟩
end
/-! ### D.__init__(self, ..) of an own class D that has none of its own -/
structure InitC (K : PySem.W.Frag) (D : Addr) : Prop where
  rd : PySem.W.readsIn K D (.type "type") = true
  ga : PySem.W.specialIn K (.ref D) "__getattribute__" = some (some (.builtin "type.__getattribute__"))
  fc : PySem.W.findCls K (.ref D) (.type "type") "__init__" = some (.val (.builtin "ValueError.__init__"))
theorem pe_cinit {X : Cx} {D : Addr} {x : Str} {e : Expr} {es : List Expr} {ta : TA} {p1 p2 pos : Pos} {pl : Sem Bool} (T : InitC X.K D) (hg : Gl X x) (hm : X.mg x = some (.ref D)) (ha : PA X (e :: es) ta) (hdb : (x == ("__debug__" : Str)) = false := by decide)
    (hc : eval (.Call (.Attribute (.Name x p1) "__init__" p2) (e :: es) [] pos) X.env = (do
      let ov ← eval (.Name x p1) X.env
      standAt p2.atName
      let (f, first) ← holding [ov] (getMethod ov "__init__" pl)
      callWith pos f first (backTo pos (starEach (e :: es) X.env)) (backToKw pos (keywordEach [] X.env))) := by rfl)
    (he : starEach (e :: es) X.env = (false, eval e X.env) :: starEach es X.env := by rfl) (hpl : (backTo pos (starEach es X.env)).any (·.1) = false := by rfl) :
    PE X (.Call (.Attribute (.Name x p1) "__init__" p2) (e :: es) [] pos) (tVeI X.K ta) := by
  refine ⟨fun pins s σ H Q I h => PySem.W.methodCall_KW (ld_glob I hg hm ?_ hdb) hc⟩
  refine PySem.W.method_cls I.kIn T.ga (PySem.W.cls_value I.kIn T.rd T.fc (by decide +kernel) ?_)
  show wpAny _ _ (callWith pos (Value.builtin "ValueError.__init__") [] (backTo pos (starEach (e :: es) X.env)) []) _ _ _
  refine PyProof.Rows.callWith_method1 (thn (ha.run pos pins _ σ H _ (I.tok _) h) fun us s1 hz => ?_) he hpl
  obtain ⟨vs, H1, I1, r1, a, C, ws, ev, hl, T1, ea, q⟩ := hz
  subst ev
  cases r1 with
  | @cons _ u0 _ ur ra rw' =>
    obtain rfl : u0 = Value.ref a := ra
    have hlen : ur.length ≤ sizeLine := by
      rw [← Paired.length rw', sizeLine_eq]
      omega
    exact oinit_ok T1 I1 ea hlen fun s' J => ⟨.non, H1, J, rfl, q⟩
/-! ### e.f -/
structure rXfK (K : PySem.W.Frag) (f : Str) (x : V) (H1 : Hp) (Q : VK) : Prop where
  out : ∃ (a C dd : Addr) (fr : Bool) (fs : List (Str × V)) (v : V), x = .ref a ∧ XfC K C ∧ PySem.W.findIn K (.ref C) f = some none ∧ H1 a = some (exK a (.ref C) (some dd) fr) ∧ H1 dd = some (.xd fs) ∧ fs.lookup f = some v ∧ Q v H1
def tXfK (K : PySem.W.Frag) (f : Str) (te : TE) : TE := fun σ H Q => te σ H fun x H1 => rXfK K f x H1 Q
theorem pe_xfK {X : Cx} {K : PySem.W.Frag} {e : Expr} {te : TE} {pos : Pos} {n : Str} (he : PE X e te) (hb : attributeBase e n X.env (eval e X.env) = eval e X.env := by rfl) (hK : X.K = K := by rfl) : PE X (.Attribute e n pos) (tXfK K n te) := by
  subst hK
  refine ⟨fun pins s σ H Q I h => attr_of hb (thn (he.run pins s σ H _ I h) fun u s1 hh => ?_)⟩
  obtain ⟨x, H1, I1, rx, hh⟩ := hh
  obtain ⟨a, C, dd, fr, fs, v, ex, T, hno, ea, ed, l, q⟩ := hh.out
  subst ex
  obtain rfl : u = Value.ref a := rx
  obtain ⟨oe, vs, ha, hcls, hdi, hfi, _⟩ := exK_at I1.hok ea
  have hx : ObjOk X.prog X.w H1 s1.heap dd (.xd fs) := I1.hok dd _ ed
  obtain ⟨mA, hns, hr⟩ := hx
  obtain ⟨od, ho, hl⟩ := lookIn_ns hns
  obtain ⟨u, hu, ru⟩ := RelO.some_of (v := v) (o := mA n) (by rw [← l]; exact hr n)
  have J : PySem.W.InstAt s1.heap a oe C (some od) := ⟨ha, hcls, by unfold PySem.W.notCls; rw [hfi] <;> rfl, by rw [hdi]; exact ho⟩
  exact HandSPX.exc_get I1.kIn J T.ga T.gg T.exC (PySem.W.findObj_own T.hdC hno rfl (by rw [hl, hu])) (handed_of ru) ⟨v, H1, I1.tok _, ru, q⟩
/-! ### isinstance of an error -/
end LK
namespace LKX
open PySem PySem.W PySem.Spec PySem.Calls PyProof.Rows
section
variable {prog : Program} {w : World} {Ar : Around} {Ex : Value → Shared → Prop} {s : Shared} {K : Frag} {x D : Addr} {ox : Obj} {od : Option Obj}
/-- e.__class__, whether e has a dict or none -/
theorem class_exc {Q : Option Value → Shared → Prop} (C : L2.ExcC K D) (X : K.In s.heap) (I : InstAt s.heap x ox D od) (h : Q (some (.ref D)) { s with toks := s.toks + 1 }) : wpAny (model prog w) Ar (getAttr? (.ref x) "__class__") Q Ex s := by
  have hsome : (clsIn K D).isSome = true := by
    obtain ⟨cd, e, _⟩ := any_some C.hd
    rw [e] <;> rfl
  have hf : findObj K D od "__class__" = some (.bind (.builtin "getset_descriptor.__get__") (.builtin "object.__class__")) := by
    cases od with
    | none => exact findObj_dataN hsome C.ha C.hn C.ht
    | some o => exact findObj_data hsome C.ha C.hn C.ht
  obtain ⟨hp, gs, dr, tk, o⟩ := s
  have L0 := I.type (M := model prog w)
  have LG := looks_findIn (M := model prog w) X C.hg
  have LA := looks_findIn (M := model prog w) X C.hk
  have LF := looks_find (M := model prog w) X I hf
  have isB : Looks (model prog w) hp (isInstance (.ref x) (.type "BaseException")) true := L0.andThen (looks_subIn X C.hs)
  have n1 : (Value.builtin "BaseException.__getattribute__" == Value.builtin "object.__getattribute__") = false := by decide +kernel
  have n2 : (onTheHeap (Value.ref D) && Value.builtin "BaseException.__getattribute__" == Value.builtin "object.__getattribute__") = false := by rw [n1] <;> rfl
  have n3 : (false && onTheHeap (Value.builtin "BaseException.__getattribute__")) = false := rfl
  unfold getAttr? getAttrBy? getAttrBy
  refine wpAny_bind (wpAny_mkText (wpAny_bind (wpAny_attempt (wpAny_holding (wpAny_bind (L0.at (wpAny_bind (LG.at ?_))))))))
  show wpAny _ _ (if (onTheHeap (Value.ref D) && Value.builtin "BaseException.__getattribute__" == Value.builtin "object.__getattribute__") = true then _ else _) _ _ _
  rw [n2, if_neg Bool.false_ne_true]
  unfold getAttrByItsOwn hookBefore
  refine wpAny_bind ?_
  rw [if_pos (show onTheHeap (Value.ref D) = true from rfl)]
  refine LA.at (wpAny_bind (wpAny_attempt (wpAny_holding ?_)))
  unfold callGetattribute
  rw [n3, if_neg Bool.false_ne_true]
  unfold boundAndCalled
  rw [PySem.F.excAttr_ValueError.ga.bind (.ref x)]
  refine wpAny_bind (wpAny_pure ?_)
  show wpAny _ _ (call (.builtin "BaseException.__getattribute__") [.ref x, .str "__class__" tk]) _ _ _
  refine wpAny_call (codeAny_call_builtin PySem.F.excAttr_ValueError.ga.plain PySem.F.entry_bexc_ga ?_)
  refine @check_slot (model prog w) _ _ ⟨hp, gs, dr, tk + 1, o⟩ "BaseException.__getattribute__" "BaseException" "__getattribute__" (.ref x) [.str "__class__" tk] [] _ (by decide +kernel) (by decide +kernel) isB (PySem.F.args_bexc_ga (.ref x) (.str "__class__" tk)) ?_
  unfold Builtin.«object.__getattribute__»
  refine wpAny_bind (wpAny_of_eq (a := ((Value.ref x : Value), [Value.str "__class__" tk])) (by first | rfl | (simp only [slotArgs]; rfl)) ?_)
  refine wpAny_bind (wpAny_pure (wpAny_bind (L0.at (wpAny_bind (LF.at ?_)))))
  show wpAny _ _ (holding [Value.builtin "object.__class__"] (call (.builtin "getset_descriptor.__get__") [.builtin "object.__class__", .ref x, .ref D]) >>= ret) _ _ _
  refine wpAny_bind (wpAny_holding (wpAny_call (class_get (s := ⟨hp, gs, dr, tk + 1, o⟩) (ox := ox) (od := od) X I C.hm ?_)))
  refine wpAny_pure ?_
  show wpAny _ _ (handedOut (.ref D)) _ _ _
  rw [handedOut_of (v := .ref D) rfl]
  first
    | exact wpAny_pure (wpAny_pure h)
    | exact wpAny_pure h
    | exact wpAny_pure (wpAny_bind (wpAny_pure (wpAny_pure h)))
theorem kitx_exc (C : L2.ExcC K D) : KitX K (.ref x) (.ref D) (fun h => InstAt h x ox D od) where
  ty := fun _ _ _ I => I.type
  it := fun _ _ X _ => by
    obtain ⟨cdD, hcD, _⟩ := any_some C.hd
    unfold clsIn at hcD
    split at hcD
    · rename_i _ _ _ _ ho
      intro _ _ _ _ k q
      unfold isType loadHead
      exact wpAny_bind (wpAny_loadPart (k _ _ (X _ _ ho)) (wpAny_pure q))
    · cases hcD
  ne := fun h tp dd its n sl X htp => by
    obtain ⟨cdD, hcD, _⟩ := any_some C.hd
    refine Bool.eq_false_iff.mpr fun q => ?_
    have e : D = tp := Value.ref.inj (beq_iff_eq.mp q)
    subst e
    unfold clsIn at hcD
    split at hcD
    · rename_i _ _ _ _ ho
      have z := (X _ _ ho).symm.trans htp
      cases z
    · cases hcD
  ca := fun X I k => class_exc C X I k
end
end LKX
namespace LK
open PySem PySem.Spec PyProof.Rows L2
/-- isinstance(x, c), x an error or another thing -/
def rIsx (K : PySem.W.Frag) : List V → Hp → VK → Prop := fun xs H Q => rIsi K xs H Q ∨ ∃ (a D : Addr) (c : V) (cv : Value) (d : Option Addr) (fr b : Bool), xs = [.ref a, c] ∧ ExcC K D ∧ H a = some (exK a (.ref D) d fr) ∧ DictAt H d ∧ ClsV c cv ∧ PySem.W.kitOne K (.ref D) cv = some b ∧ Q (.bl b) H
theorem cIsx {X : Cx} {K : PySem.W.Frag} (hK : X.K = K := by rfl) : CallR X (.builtin "isinstance") (rIsx K) := by
  subst hK
  intro pins s σ H xs us Q I r h
  rcases h with h | ⟨a, D, c, cv, d, fr, b, rfl, T, ea, kd, k, e, q⟩
  · exact call_isi pins s σ H xs us Q I r h
  obtain ⟨u1, u2, rfl, r1, r2⟩ := vals2 r
  obtain rfl : u1 = Value.ref a := r1
  have e2 := k.eq r2
  subst e2
  obtain ⟨oe, vs, ha, hcls, hdi, hfi, _⟩ := exK_at I.hok ea
  obtain ⟨od, J⟩ : ∃ od, PySem.W.InstAt s.heap a oe D od := by
    rcases kd with kd | ⟨x, fs, kd, ex⟩
    · exact ⟨none, ha, hcls, by unfold PySem.W.notCls; rw [hfi] <;> rfl, by rw [hdi, kd]; exact True.intro⟩
    · have hx : ObjOk X.prog X.w H s.heap x (.xd fs) := I.hok x _ ex
      obtain ⟨mA, hns, hr⟩ := hx
      obtain ⟨od, ho, _⟩ := lookIn_ns hns
      exact ⟨some od, ha, hcls, by unfold PySem.W.notCls; rw [hfi] <;> rfl, by rw [hdi, kd]; exact ho⟩
  exact PySem.W.kia_one (LKX.kitx_exc T) I.kIn J e (fun z => nomatch z) fun tk => ⟨.bl b, H, I.tok tk, rfl, q⟩
end LK

set_option Elab.async false
set_option linter.all false
set_option maxRecDepth 100000
set_option maxHeartbeats 4000000
/-! the head's facts: a test of mine beside the defs -/
namespace LK
open PySem PySem.Spec PyProof.Rows L2 He
def obsM (ck : PySem.W.Frag → Bool) (fn : List DefD) (K : PySem.W.Frag) : AlD := (ck K && fn.all fun d => d.ok K, fn.map fun d => fnW K d.at_)
def SaysM (ck : PySem.W.Frag → Bool) (fn : List DefD) (K : PySem.W.Frag) : Prop := obsM ck fn K = valD fn
def obsMG (n : Nat) (ck : PySem.W.Frag → Bool) (fn : List DefD) (g : Addr → Option Obj) : AlD := obsM ck fn (frG g (asD g n))
def hookM (n : Nat) (ck : PySem.W.Frag → Bool) (fn : List DefD) : PySem.W.Hook where
  α := AlD
  obs := fun s => obsMG n ck fn s.heap.get?
  val := fun _ => valD fn
  says := fun _ h => ∃ K : PySem.W.Frag, K.In h ∧ SaysM ck fn K
  of := fun _ _ e => ⟨_, frG_in, e⟩
  keeps := fun _ _ _ ⟨K, hK, c⟩ k => ⟨K, PySem.W.Frag.In.keeps hK k, c⟩
theorem obsMG_eq {n : Nat} {ck : PySem.W.Frag → Bool} {fn : List DefD} {g : Addr → Option Obj} {s : Shared} (h : ∀ a, g a = s.heap.get? a) : obsMG n ck fn g = (hookM n ck fn).obs s := by
  have e : g = s.heap.get? := funext h
  rw [e]
  rfl
section
variable {ck : PySem.W.Frag → Bool} {fn : List DefD} {K : PySem.W.Frag}
theorem SaysM.both (c : SaysM ck fn K) : ck K = true ∧ (fn.all fun d => d.ok K) = true :=
  ba (show (ck K && fn.all fun d => d.ok K) = true from congrArg (fun z : AlD => z.1) c)
theorem SaysM.def_ (c : SaysM ck fn K) (i : Nat) {d : DefD} (h : fn[i]? = some d := by rfl) : ∃ fd, FunD K d.name d.qual d.params d.body d.scope (d.dvs K) (d.kws K) (fAd K d.at_) fd := by
  have e : fn.map (fun d => fnW K d.at_) = fn.map DefD.val := congrArg (fun z : AlD => z.2) c
  have e2 : (fn.map fun d => fnW K d.at_)[i]? = (fn.map DefD.val)[i]? := by rw [e]
  rw [List.getElem?_map, List.getElem?_map, h] at e2
  exact DefD.funD (Option.some.inj e2) (List.all_eq_true.mp c.both.2 d (List.mem_of_getElem? h))
end
/-- facts by a list -/
theorem fa_at {fa : List Fa} {K : PySem.W.Frag} (c : (fa.all fun f => f.ok K) = true) (i : Nat) {f : Fa} (h : fa[i]? = some f := by rfl) : f.ok K = true :=
  List.all_eq_true.mp c f (List.mem_of_getElem? h)
/-- a tuple of texts at the module's name x -/
theorem tup_at {K : PySem.W.Frag} {x : Str} {vs : List Dv} {ws : List V} (h : tupB K x vs = true) (e : vs.map (Dv.v K) = ws := by rfl) (H : Hp) : SqT K H (ga K x) ws := e ▸ tupB_ok h H
end LK

set_option Elab.async false
set_option linter.all false
set_option maxRecDepth 100000
set_option maxHeartbeats 4000000
/-! readings that name the heap behind a step and say of it what counts: what is laid anew, what is changed -/
namespace LK
open PySem PySem.Spec PyProof.Rows L2
/-- a new thing is laid, all else stays -/
def NewO (H : Hp) (o : HO) (Q : VK) : Prop := ∀ p H2, H p = none → Same H H2 → H2 p = some o → Q (.ref p) H2
theorem NewO.up {H : Hp} {o : HO} {Q : VK} (h : NewO H o Q) (p : Addr) (hp : H p = none) : Q (.ref p) (upd H p o) := h p _ hp (Same.new hp) upd_same
/-- the thing at l is another one now, all else stays -/
def ChO (H : Hp) (l : Addr) (o : HO) (Q : Hp → Prop) : Prop := ∀ H2, H2 l = some o → But l H H2 → Q H2
theorem ChO.up {H : Hp} {l : Addr} {o : HO} {Q : Hp → Prop} (h : ChO H l o Q) : Q (upd H l o) := h _ upd_same (But.refl l H).mut
theorem Same.but {H H1 H2 : Hp} {l : Addr} (s : Same H H1) (hl : H l = none) (b : But l H1 H2) : Same H H2 := fun c u e => b c u (ne_of_none e hl) (s c u e)
theorem But.ne {H H2 : Hp} {l p : Addr} {o : HO} (b : But l H H2) (e : H p = some o) (n : p ≠ l) : H2 p = some o := b p o n e
theorem But.free {H H2 : Hp} {l p : Addr} (b : But l H H2) (n : H2 p = none) (hl : ∃ o, H2 l = some o) : H p = none := by
  cases e : H p with
  | none => rfl
  | some u =>
    by_cases hp : p = l
    · obtain ⟨o, ho⟩ := hl
      rw [hp, ho] at n
      cases n
    · rw [b p u hp e] at n
      cases n
section
variable {X : Cx} {K : PySem.W.Frag} {e : Expr} {es : List Expr} {te te' : TE} {t : TA} {pos : Pos}
theorem PE.imp (h : PE X e te) (i : ∀ σ H Q, te' σ H Q → te σ H Q) : PE X e te' := ⟨fun pins s σ H Q I q => h.run pins s σ H Q I (i σ H Q q)⟩
/-- with any weaker wish -/
def upA (t : TA) : TA := fun σ H P => ∃ P' : List V → Hp → Prop, t σ H P' ∧ ∀ xs H1, P' xs H1 → P xs H1
theorem paUp (h : PA X es t) : PA X es (upA t) := ⟨fun pos pins s σ H Q I q => by
  obtain ⟨P', q, i⟩ := q
  exact thn (h.run pos pins s σ H P' I q) fun us s1 ⟨xs, H1, I1, r, z⟩ => ⟨xs, H1, I1, r, i xs H1 z⟩⟩
def upE (t : TE) : TE := fun σ H P => ∃ P' : VK, t σ H P' ∧ ∀ x H1, P' x H1 → P x H1
theorem peUp (h : PE X e te) : PE X e (upE te) := ⟨fun pins s σ H Q I q => by
  obtain ⟨P', q, i⟩ := q
  exact thn (h.run pins s σ H P' I q) fun us s1 ⟨xs, H1, I1, r, z⟩ => ⟨xs, H1, I1, r, i xs H1 z⟩⟩
/-! ### displays -/
def tLstS (t : TA) : TE := fun σ H Q => t σ H fun xs H1 => xs.length ≤ sizeLine ∧ NewO H1 (.lst xs) Q
def tTupS (t : TA) : TE := fun σ H Q => t σ H fun xs H1 => xs.length ≤ sizeLine ∧ NewO H1 (.tup xs) Q
theorem pe_lstS (h : PA X es t) : PE X (.List es pos) (tLstS t) := PE.imp (pe_lst (paUp h)) fun _ _ _ q => ⟨_, q, fun _ _ z => ⟨z.1, z.2.up⟩⟩
theorem pe_tupS {k : Nat} (h : PA X es t) : PE X (.Tuple es k pos) (tTupS t) := PE.imp (pe_tup (paUp h)) fun _ _ _ q => ⟨_, q, fun _ _ z => ⟨z.1, z.2.up⟩⟩
/-! ### plus -/
def rAddS (K : PySem.W.Frag) : R2 := fun x y H Q => match x, y with
  | .int i, .int j => Q (.int (i + j)) H
  | .str a, .str b => a.length + b.length ≤ sizeLine ∧ Q (.str (a ++ b)) H
  | .ref a, .ref b => (∃ xs ys, H a = some (.lst xs) ∧ H b = some (.lst ys) ∧ xs.length + ys.length ≤ sizeLine ∧ NewO H (.lst (xs ++ ys)) Q) ∨
      ∃ xs ys, SqT K H a xs ∧ SqT K H b ys ∧ xs.length + ys.length ≤ sizeLine ∧ ∀ p H2, Same H H2 → SqT K H2 p (xs ++ ys) → Q (.ref p) H2
  | _, _ => False
theorem sqT_new {H : Hp} {p : Addr} {xs : List V} : SqT K (upd H p (.tup xs)) p xs := .inl (.inl upd_same)
theorem OpR.imp {f : Value → Value → Sem Value} {r r' : R2} (h : OpR X f r) (i : ∀ x y H Q, r' x y H Q → r x y H Q) : OpR X f r' := fun pins s σ H x y v u Q I rx ry q => h pins s σ H x y v u Q I rx ry (i x y H Q q)
theorem oAddS (hK : X.K = K := by rfl) : OpR X (binaryOp .Add) (rAddS K) := OpR.imp (oAdd hK) fun x y H Q q => by
  cases x <;> cases y <;> try exact q
  rcases q with ⟨xs, ys, h1, h2, h3, h4⟩ | ⟨xs, ys, h1, h2, h3, h4⟩
  · exact .inl ⟨xs, ys, h1, h2, h3, h4.up⟩
  · refine .inr ⟨_, _, xs, ys, rfl, rfl, h1, h2, h3, fun e => ?_, fun _ e => ?_, fun _ _ p hp => ?_⟩
    · subst e
      exact h4 _ _ (L2.Same.refl H) h2
    · subst e
      exact h4 _ _ (L2.Same.refl H) (by rw [List.append_nil]; exact h1)
    · exact h4 p _ (Same.new hp) sqT_new
/-! ### pieces -/
def rSlS' (K : PySem.W.Frag) : V → Option Int → Option Int → Hp → VK → Prop := fun x lo hi H Q => (∃ a xs, x = .ref a ∧ SqL K H a xs ∧ NewO H (.lst (cutV xs lo hi)) Q) ∨ (∃ a xs, x = .ref a ∧ SqT K H a xs ∧ ∀ p H2, Same H H2 → SqT K H2 p (cutV xs lo hi) → Q (.ref p) H2) ∨ rSlS x lo hi H Q
theorem cutV_whole {xs : List V} {lo hi : Option Int} (h : HT.sIx xs.length 0 lo = 0 ∧ HT.sIx xs.length xs.length hi = xs.length) : cutV xs lo hi = xs := by
  unfold cutV
  rw [h.1, h.2, List.drop_zero, Nat.sub_zero, List.take_length]
theorem SlR.imp {r r' : V → Option Int → Option Int → Hp → VK → Prop} (h : SlR X r) (i : ∀ x lo hi H Q, r' x lo hi H Q → r x lo hi H Q) : SlR X r' := fun pins s σ H x v vl vu lo hi sl Q I rx a b c q => h pins s σ H x v vl vu lo hi sl Q I rx a b c (i x lo hi H Q q)
theorem slS (hK : X.K = K := by rfl) : SlR X (rSlS' K) := SlR.imp (slM hK) fun x lo hi H Q q => by
  rcases q with ⟨a, xs, rfl, h1, h2⟩ | ⟨a, xs, rfl, h1, h2⟩ | q
  · exact .inl ⟨a, xs, rfl, h1, h2.up⟩
  · refine .inr (.inl ⟨a, xs, rfl, h1, fun w => ?_, fun _ p hp => h2 p _ (Same.new hp) sqT_new⟩)
    refine h2 a H (L2.Same.refl H) ?_
    rw [cutV_whole w]
    exact h1
  · exact .inr (.inr q)
/-! ### tuple(..), list(..) -/
theorem CallR.imp {f : Value} {r r' : List V → Hp → VK → Prop} (h : CallR X f r) (i : ∀ xs H Q, r' xs H Q → r xs H Q) : CallR X f r' := fun pins s σ H xs us Q I r q => h pins s σ H xs us Q I r (i xs H Q q)
def rTupS (K : PySem.W.Frag) : List V → Hp → VK → Prop := fun xs H Q => ∃ p ys, xs = [.ref p] ∧ (SqL K H p ys ∨ SqT K H p ys) ∧ ∀ l H2, Same H H2 → SqT K H2 l ys → Q (.ref l) H2
theorem cTupS (hK : X.K = K := by rfl) : CallR X (.type "tuple") (rTupS K) := CallR.imp (cTup hK) fun xs H Q q => by
  obtain ⟨p, ys, rfl, h1 | h1, h2⟩ := q
  · exact ⟨p, ys, rfl, .inl ⟨h1, fun l hl => h2 l _ (Same.new hl) sqT_new⟩⟩
  · exact ⟨p, ys, rfl, .inr ⟨h1, h2 p H (L2.Same.refl H) h1⟩⟩
def rListS (K : PySem.W.Frag) : List V → Hp → VK → Prop := fun xs H Q => (∃ p ys, xs = [.ref p] ∧ (SqL K H p ys ∨ SqT K H p ys) ∧ NewO H (.lst ys) Q) ∨ ∃ z : Str, xs = [.str z] ∧ z.length ≤ sizeLine ∧ NewO H (.lst (z.cps.toList.map fun c => V.str ⟨#[c]⟩)) Q
theorem cListS (hc : X.calm = true) (hK : X.K = K := by rfl) : CallR X (.type "list") (rListS K) := CallR.imp (cList hc hK) fun xs H Q q => by
  rcases q with ⟨p, ys, rfl, h1, h2⟩ | ⟨z, rfl, h1, h2⟩
  · exact .inl ⟨p, ys, rfl, h1, h2.up⟩
  · exact .inr ⟨z, rfl, h1, h2.up⟩
/-! ### methods that change a list -/
theorem MtR.imp {id : String} {r r' : V → List V → Hp → VK → Prop} (h : MtR X id r) (i : ∀ x xs H Q, r' x xs H Q → r x xs H Q) : MtR X id r' := fun pins s σ H x xs v us Q I rx rv q => h pins s σ H x xs v us Q I rx rv (i x xs H Q q)
def rAppendS : V → List V → Hp → VK → Prop := fun x vs H Q => ∃ l xs y, x = .ref l ∧ vs = [y] ∧ H l = some (.lst xs) ∧ xs.length < sizeLine ∧ ChO H l (.lst (xs ++ [y])) (Q .non)
theorem mt_appendS : MtR X "list.append" rAppendS := MtR.imp (r := rAppend) mt_append fun x vs H Q q => by
  obtain ⟨l, xs, y, h1, h2, h3, h4, h5⟩ := q
  exact ⟨l, xs, y, h1, h2, h3, h4, h5.up⟩
def rExtendS : V → List V → Hp → VK → Prop := fun x vs H Q => ∃ l b xs zs, x = .ref l ∧ vs = [.ref b] ∧ H l = some (.lst xs) ∧ H b = some (.lst zs) ∧ xs.length + zs.length ≤ sizeLine ∧ ChO H l (.lst (xs ++ zs)) (Q .non)
theorem mt_extendS : MtR X "list.extend" rExtendS := MtR.imp (r := rExtend) mt_extend fun x vs H Q q => by
  obtain ⟨l, b, xs, zs, h1, h2, h3, h4, h5, h6⟩ := q
  exact ⟨l, b, xs, zs, h1, h2, h3, h4, h5, h6.up⟩
def rPopS : V → List V → Hp → VK → Prop := fun x vs H Q => ∃ l xs y, x = .ref l ∧ vs = [] ∧ H l = some (.lst xs) ∧ xs[xs.length - 1]? = some y ∧ ChO H l (.lst xs.dropLast) (Q y)
theorem mt_popS : MtR X "list.pop" rPopS := MtR.imp (r := rPop) mt_pop fun x vs H Q q => by
  obtain ⟨l, xs, y, h1, h2, h3, h4, h5⟩ := q
  exact ⟨l, xs, y, h1, h2, h3, h4, h5.up⟩
end
/-- a digit off the pile -/
def spTakeS : Sp := fun vs H Q _ => ∃ (p : Addr) (c m : Int), vs = [.ref p, .int m] ∧ H p = some (.lst [.int c]) ∧ (0 < m ∧ m < 1073741824) ∧ ChO H p (.lst [.int (c.fdiv m)]) (Q (.int (c.fmod m)))
theorem take_runS {K : PySem.W.Frag} {p : Addr} {c m : Int} {H : Hp} {D : Ends} (hp : H p = some (.lst [.int c])) (hm : 0 < m ∧ m < 1073741824) (h : ChO H p (.lst [.int (c.fdiv m)]) (D.rt (.int (c.fmod m)))) :
    t_take K D [some (.ref p), some (.int m), none] H := take_run hp hm h.up
end LK
namespace LK
open PySem PySem.Spec PyProof.Rows L2
/-- a pile of digits at p, laid behind H1 -/
structure Pile (H1 H : Hp) (p : Addr) (c : Int) : Prop where
  s : Same H1 H
  hp : H p = some (.lst [.int c])
  pn : H1 p = none
theorem Pile.new {H1 H2 : Hp} {p : Addr} {c : Int} (n : H1 p = none) (s : Same H1 H2) (k : H2 p = some (.lst [.int c])) : Pile H1 H2 p c := ⟨s, k, n⟩
theorem Pile.ch {H1 H H2 : Hp} {p : Addr} {c c' : Int} (t : Pile H1 H p c) (k : H2 p = some (.lst [.int c'])) (b : But p H H2) : Pile H1 H2 p c' := ⟨Same.but t.s t.pn b, k, t.pn⟩
theorem Pile.go {H1 H H2 : Hp} {p : Addr} {c : Int} (t : Pile H1 H p c) (s : Same H H2) : Pile H1 H2 p c := ⟨Same.trans t.s s, s _ _ t.hp, t.pn⟩
/-- the item at a place within bounds -/
theorem atI_mem {xs : List V} {i : Int} (h0 : 0 ≤ i) (h1 : i < xs.length) : ∃ v, atI xs i = some v ∧ v ∈ xs := by
  obtain ⟨k, rfl⟩ : ∃ k : Nat, i = k := ⟨i.toNat, by omega⟩
  have hk : k < xs.length := by omega
  exact ⟨xs[k], atI_nat (List.getElem?_eq_getElem hk), List.getElem_mem hk⟩
end LK
namespace LK
open PySem PySem.Spec PyProof.Rows L2
theorem But.seqT {K : PySem.W.Frag} {H H2 : Hp} {p a : Addr} {xs ys : List V} (b : But p H H2) (hp : H p = some (.lst ys)) (k : SqT K H a xs) : SqT K H2 a xs := by
  rcases k with (k | ⟨o, k⟩) | k
  · exact .inl (.inl (b a _ (fun e => by rw [e, hp] at k; cases k) k))
  · exact .inl (.inr ⟨o, b a _ (fun e => by rw [e, hp] at k; cases k) k⟩)
  · exact .inr k
end LK
theorem LK.mget {α β : Type} {f : α → β} {l : List α} {i : Nat} {v : β} (h : (l.map f)[i]? = some v) : ∃ x, l[i]? = some x ∧ v = f x := by
  rw [List.getElem?_map] at h
  obtain ⟨x, h1, h2⟩ := Option.map_eq_some_iff.mp h
  exact ⟨x, h1, h2.symm⟩
namespace LK
open PySem PySem.Spec PyProof.Rows L2
def rIntS : List V → Hp → VK → Prop := fun xs H Q => rInt xs H Q ∨ ∃ a n, xs = [.str a] ∧ PySem.intText? a = some n ∧ a.length ≤ 640 ∧ Q (.int n) H
theorem cIntS {X : Cx} : CallR X (.type "int") rIntS := CallR.or cInt call_int_str
end LK
namespace LK
open PySem PySem.Spec PyProof.Rows L2
theorem But.trans {p : Addr} {H H1 H2 : Hp} (a : But p H H1) (b : But p H1 H2) : But p H H2 := fun c o n e => b c o n (a c o n e)
theorem But.of {p : Addr} {H H1 : Hp} (s : Same H H1) : But p H H1 := fun c o _ e => s c o e
end LK

set_option Elab.async false
set_option linter.all false
set_option maxRecDepth 100000
set_option maxHeartbeats 4000000
/-! errors: what the head tells of their classes; the law's own look at them -/
namespace LK
open PySem PySem.Spec PyProof.Rows L2 He
/-! ### the head's facts -/
def ecB (K : PySem.W.Frag) (D : Addr) : Bool :=
  eqO (PySem.W.findIn K (.ref D) "__getattribute__") (some (some (.builtin "BaseException.__getattribute__"))) && (eqO (PySem.W.findIn K (.ref D) "__getattr__") (some none) && (decide (PySem.W.subIn K (.ref D) (.type "BaseException") = some true) && (PySem.W.hasDictIn K D &&
    (eqO (PySem.W.findIn K (.ref D) "__class__") (some (some (.builtin "object.__class__"))) && (eqO (PySem.W.specialIn K (.builtin "object.__class__") "__get__") (some (some (.builtin "getset_descriptor.__get__"))) &&
      (decide (PySem.W.takesIn K (.builtin "object.__class__") = some true) && decide (PySem.W.mroIn K D (.type "object") = some true)))))))
theorem ecB_ok {K : PySem.W.Frag} {D : Addr} (h : ecB K D = true) : ExcC K D := by
  obtain ⟨h1, h⟩ := ba h
  obtain ⟨h2, h⟩ := ba h
  obtain ⟨h3, h⟩ := ba h
  obtain ⟨h4, h⟩ := ba h
  obtain ⟨h5, h⟩ := ba h
  obtain ⟨h6, h⟩ := ba h
  obtain ⟨h7, h8⟩ := ba h
  exact ⟨eqO_ok h1, eqO_ok h2, of_decide_eq_true h3, h4, eqO_ok h5, eqO_ok h6, of_decide_eq_true h7, of_decide_eq_true h8⟩
theorem ExcC.xf {K : PySem.W.Frag} {D : Addr} (c : ExcC K D) : XfC K D := ⟨c.hg, c.hk, c.hs, c.hd⟩
def ocB (K : PySem.W.Frag) (C : Addr) : Bool := match K.lookup C with
  | some ⟨.type t, _, .cls cd, sl⟩ => (match cd.mro, sl.toList with
    | .ref C' :: bm, [_, _, _, _, some (.builtin n), _] => decide (t = "type") && (decide (C' = C) && (decide (n = "ValueError.__new__") && (!cd.hasDel && (cd.hasDict && PySem.HandSPX.refsVE bm))))
    | _, _ => false)
  | _ => false
theorem ocB_ok {K : PySem.W.Frag} {C : Addr} (h : ocB K C = true) : ∃ nm q N bs bm sn sub ab col dd k0 k1 k2 k3 k5, K.lookup C = some (excClassObj nm q C N bs bm true sn sub ab col dd k0 k1 k2 k3 k5 "ValueError.__new__") ∧ PySem.HandSPX.refsVE bm = true := by
  unfold ocB at h
  split at h
  · rename_i t dd cd sl ho
    split at h
    · rename_i C' bm k0 k1 k2 k3 n k5 hm hs
      obtain ⟨h1, h⟩ := ba h
      obtain ⟨h2, h⟩ := ba h
      obtain ⟨h3, h⟩ := ba h
      obtain ⟨h4, h⟩ := ba h
      obtain ⟨h5, h6⟩ := ba h
      have e1 := of_decide_eq_true h1
      have e2 := of_decide_eq_true h2
      have e3 := of_decide_eq_true h3
      subst e1 e2 e3
      obtain ⟨nm, bs, mro, ns, qn, hd, sn, sub, ab, col, del⟩ := cd
      have e4 : del = false := by simpa using h4
      have e5 : hd = true := h5
      have e6 : mro = .ref C' :: bm := hm
      subst e4 e5 e6
      have e7 : sl = #[k0, k1, k2, k3, some (.builtin "ValueError.__new__"), k5] := by
        obtain ⟨l⟩ := sl
        simp only at hs
        rw [hs]
      subst e7
      exact ⟨nm, qn, ns, bs, bm, sn, sub, ab, col, dd, k0, k1, k2, k3, k5, ho, h6⟩
    · cases h
  · cases h
def oexB (K : PySem.W.Frag) (C : Addr) : Bool := ocB K C && (eqO (PySem.W.findIn K (.ref C) "__setattr__") (some (some (.builtin "object.__setattr__"))) && (decide (PySem.W.subIn K (.ref C) (.type "BaseException") = some true) &&
  (decide (PySem.W.typeIn K (.ref C) = some (.type "type")) && PySem.W.keepIn K (.ref C))))
theorem oexB_ok {K : PySem.W.Frag} {C : Addr} (h : oexB K C = true) : OexC K C := by
  obtain ⟨h1, h⟩ := ba h
  obtain ⟨h2, h⟩ := ba h
  obtain ⟨h3, h⟩ := ba h
  obtain ⟨h4, h5⟩ := ba h
  exact ⟨ocB_ok h1, eqO_ok h2, of_decide_eq_true h3, of_decide_eq_true h4, h5⟩
def icB (K : PySem.W.Frag) (D : Addr) : Bool := PySem.W.readsIn K D (.type "type") && (eqO (PySem.W.specialIn K (.ref D) "__getattribute__") (some (some (.builtin "type.__getattribute__"))) &&
  (match PySem.W.findCls K (.ref D) (.type "type") "__init__" with
    | some (.val v) => decide (v = .builtin "ValueError.__init__")
    | _ => false))
theorem icB_ok {K : PySem.W.Frag} {D : Addr} (h : icB K D = true) : InitC K D := by
  obtain ⟨h1, h⟩ := ba h
  obtain ⟨h2, h3⟩ := ba h
  refine ⟨h1, eqO_ok h2, ?_⟩
  split at h3
  · rename_i v e
    rw [e, of_decide_eq_true h3]
  · cases h3
/-- the __init__ of an own class: where it is found, a function -/
def inB (K : PySem.W.Frag) (x : Str) : Bool := eqO (PySem.W.findIn K (.ref (ga K x)) "__init__") (some (some (.ref (ma K (ga K x) "__init__")))) && decide (PySem.W.typeIn K (.ref (ma K (ga K x) "__init__")) = some (.type "function"))
theorem inB_ok {K : PySem.W.Frag} {x : Str} (h : inB K x = true) : PySem.W.findIn K (.ref (ga K x)) "__init__" = some (some (.ref (ma K (ga K x) "__init__"))) ∧ PySem.W.typeIn K (.ref (ma K (ga K x) "__init__")) = some (.type "function") := by
  obtain ⟨h1, h2⟩ := ba h
  exact ⟨eqO_ok h1, of_decide_eq_true h2⟩
/-- classes ds, each straight under LeanError, none under another -/
structure Kinds (K : PySem.W.Frag) (ds : List Str) : Prop where
  ec : ∀ d ∈ ds, ExcC K (ga K d)
  own : ∀ d ∈ ds, ∀ c ∈ ds, PySem.W.kitOne K (.ref (ga K d)) (.ref (ga K c)) = some (decide (d = c))
  top : ∀ d ∈ ds, PySem.W.kitOne K (.ref (ga K d)) (.ref (ga K "LeanError")) = some true
  ve : ∀ d ∈ ds, PySem.W.kitOne K (.ref (ga K d)) (.type "ValueError") = some true
  lo : ∀ d ∈ ds, PySem.W.kitOne K (.ref (ga K d)) (.type "LookupError") = some false
  ar : ∀ d ∈ ds, PySem.W.kitOne K (.ref (ga K d)) (.type "ArithmeticError") = some false
def kindsB (K : PySem.W.Frag) (ds : List Str) : Bool := ds.all fun d => ecB K (ga K d) && ((ds.all fun c => decide (PySem.W.kitOne K (.ref (ga K d)) (.ref (ga K c)) = some (decide (d = c)))) &&
  (decide (PySem.W.kitOne K (.ref (ga K d)) (.ref (ga K "LeanError")) = some true) && (decide (PySem.W.kitOne K (.ref (ga K d)) (.type "ValueError") = some true) &&
    (decide (PySem.W.kitOne K (.ref (ga K d)) (.type "LookupError") = some false) && decide (PySem.W.kitOne K (.ref (ga K d)) (.type "ArithmeticError") = some false)))))
theorem kindsB_ok {K : PySem.W.Frag} {ds : List Str} (h : kindsB K ds = true) : Kinds K ds := by
  have z := List.all_eq_true.mp h
  have y : ∀ d ∈ ds, ExcC K (ga K d) ∧ (∀ c ∈ ds, PySem.W.kitOne K (.ref (ga K d)) (.ref (ga K c)) = some (decide (d = c))) ∧ PySem.W.kitOne K (.ref (ga K d)) (.ref (ga K "LeanError")) = some true ∧ PySem.W.kitOne K (.ref (ga K d)) (.type "ValueError") = some true ∧
      PySem.W.kitOne K (.ref (ga K d)) (.type "LookupError") = some false ∧ PySem.W.kitOne K (.ref (ga K d)) (.type "ArithmeticError") = some false := fun d hd => by
    obtain ⟨h1, h⟩ := ba (z d hd)
    obtain ⟨h2, h⟩ := ba h
    obtain ⟨h3, h⟩ := ba h
    obtain ⟨h4, h⟩ := ba h
    obtain ⟨h5, h6⟩ := ba h
    exact ⟨ecB_ok h1, fun c hc => of_decide_eq_true (List.all_eq_true.mp h2 c hc), of_decide_eq_true h3, of_decide_eq_true h4, of_decide_eq_true h5, of_decide_eq_true h6⟩
  exact ⟨fun d hd => (y d hd).1, fun d hd => (y d hd).2.1, fun d hd => (y d hd).2.2.1, fun d hd => (y d hd).2.2.2.1, fun d hd => (y d hd).2.2.2.2.1, fun d hd => (y d hd).2.2.2.2.2⟩
/-! ### calls with keywords and defaults, no keyword-only parameters -/
theorem kbn1 {K : PySem.W.Frag} {x qual : Str} {params : Arguments} {body : List Stmt} {scope : Scope} {dvs : List V} {f : Addr} {fd : FuncData} {ps : List Str} (F : FunD K x qual params body scope dvs [] f fd) (n : Nat) (ks : List Str) (g : {α : Type} → List α → List α → List α → List α) (hd : dvs ≠ [])
    (hrel : ∀ {vs ds zs : List V} {us its ws : List Value}, Vals vs us → Vals ds its → Vals zs ws → Vals (g vs ds zs) (g us its ws))
    (h : ∀ (T : Addr) (kV doc pm : Value) (an : Option Addr) (cdv ct : Value) (us its ws : List Value), us.length = n → its.length = dvs.length → ws.length = ks.length →
      ∃ k, bindArgs (PySem.W.fnOf x qual params body scope (.ref T) kV doc pm an cdv ct) ⟨us, ks.zip ws⟩ = seqItems? (.ref T) >>= k ∧ k (some its.toArray) = pure (ps.zip (g us its ws))) :
    ∃ gv : List Value → List Value → List Value, KBn K fd ps n ks gv (fun vs zs => g vs dvs zs) := by
  obtain ⟨oc, od, dV, kV, doc, pm, an, cdv, ct, osl, rfl, lk, hcd, hD, hK⟩ := F.ex
  rcases hD with ⟨e, _⟩ | ⟨_, T, o, its, m, rfl, lT, oT, rT⟩
  · exact absurd e hd
  · refine ⟨fun us ws => g us its ws, ⟨fun s us ws X l1 l2 => ?_, fun r1 r2 => hrel r1 rT r2⟩⟩
    obtain ⟨k, e1, e2⟩ := h T kV doc pm an cdv ct us its ws l1 rT.length.symm l2
    refine BindsTo.of_looks fun M => ?_
    rw [e1]
    exact looks_items X lT oT (.of_pure e2)
/-! ### an __init__ that hands its values on to fields -/
def spInit (C : Addr) (names : List Str) : Sp := fun vs H Q _ => ∃ (a : Addr) (ws : List V), vs = .ref a :: ws ∧ ws.length = names.length ∧ H a = some (exo a C none) ∧
  ∀ dx H', H dx = none → dx ≠ a → H' a = some (exo a C (some dx)) → H' dx = some (exd dx (names.zip ws).reverse) → (∀ b, b ≠ a → b ≠ dx → H' b = H b) → Q .non H'
/-- an error with its fields -/
structure ErrAt (H : Hp) (a C : Addr) (fs : List (Str × V)) : Prop where
  ex : ∃ (d : Addr) (fr : Bool), H a = some (exK a (.ref C) (some d) fr) ∧ H d = some (.xd fs)
theorem ErrAt.same {H H' : Hp} {a C : Addr} {fs : List (Str × V)} (k : ErrAt H a C fs) (e : Same H H') : ErrAt H' a C fs := by
  obtain ⟨d, fr, e1, e2⟩ := k.ex
  exact ⟨d, fr, e _ _ e1, e _ _ e2⟩
/-- an error, whatever its dict -/
structure Err (H : Hp) (a C : Addr) : Prop where
  ex : ∃ (d : Option Addr) (fr : Bool), H a = some (exK a (.ref C) d fr) ∧ DictAt H d
theorem Err.same {H H' : Hp} {a C : Addr} (k : Err H a C) (e : Same H H') : Err H' a C := by
  obtain ⟨d, fr, e1, e2⟩ := k.ex
  exact ⟨d, fr, e _ _ e1, e2.same e⟩
theorem ErrAt.err {H : Hp} {a C : Addr} {fs : List (Str × V)} (k : ErrAt H a C fs) : Err H a C := by
  obtain ⟨d, fr, e1, e2⟩ := k.ex
  exact ⟨some d, fr, e1, .inr ⟨d, fs, rfl, e2⟩⟩
theorem mkO_read {C : Addr} {n : Nat} {ks names : List Str} {gV : List V → List V → List V} {xs zs ws : List V} {H : Hp} {Q : VK} (hn : xs.length = n) (hz : zs.length = ks.length) (hg : ∀ a, gV (.ref a :: xs) zs = .ref a :: ws) (hw : ws.length = names.length)
    (h : ∀ a H', H a = none → Same H H' → ErrAt H' a C (names.zip ws).reverse → Q (.ref a) H') : rMkO C n ks (spInit C names) gV xs zs H Q := by
  refine ⟨hn, hz, fun a ha => ⟨a, ws, hg a, hw, upd_same, fun dx H' hdx nda e1 e2 ho => ⟨rfl, dx, _, e1, e2, h a _ ha (fun b u hb => ?_) ⟨dx, true, ?_, ?_⟩⟩⟩⟩
  · have n1 : b ≠ a := ne_of_none hb ha
    have hdx' : H dx = none := by rw [← upd_ne (H := H) (o := exo a C none) nda]; exact hdx
    have n2 : b ≠ dx := ne_of_none hb hdx'
    rw [upd_ne n1, upd_ne n2, ho b n1 n2, upd_ne n1]
    exact hb
  · rw [upd_same]
  · rw [upd_ne nda, upd_same]
theorem mkN_read {C : Addr} {xs : List V} {H : Hp} {Q : VK} (hl : xs.length ≤ 1000) (h : ∀ a H', H a = none → Same H H' → Err H' a C → Q (.ref a) H') : rMkN C xs [] H Q :=
  ⟨rfl, hl, fun a ha => h a _ ha (Same.new ha) ⟨none, true, upd_same, .inl rfl⟩⟩
/-- one isinstance of an error -/
theorem isx_read {K : PySem.W.Frag} {a C : Addr} {c : V} {cv : Value} {b : Bool} {H : Hp} {Q : VK} (k : Err H a C) (T : ExcC K C) (hc : ClsV c cv) (e : PySem.W.kitOne K (.ref C) cv = some b) (h : Q (.bl b) H) : rIsx K [.ref a, c] H Q := by
  obtain ⟨d, fr, e1, e2⟩ := k.ex
  exact .inr ⟨a, C, c, cv, d, fr, b, rfl, T, e1, e2, hc, e, h⟩
/-- two things of the same content -/
theorem neD {K : PySem.W.Frag} {x y : V} {d : PyData} {H : Hp} {Q : VK} (dx : Dp K H x d) (dy : Dp K H y d) (sh : PySem.SeqAt.shaped d = true) (h : Q (.bl false) H) : rNeM K x y H Q := by
  refine .inr ⟨d, d, dx, dy, sh, sh, ?_⟩
  rw [PySem.SeqAt.eqv_refl _ (PySem.SeqAt.canLay_of_shaped sh)]
  exact h
theorem eqD {K : PySem.W.Frag} {x y : V} {d : PyData} {H : Hp} {Q : VK} (dx : Dp K H x d) (dy : Dp K H y d) (sh : PySem.SeqAt.shaped d = true) (h : Q (.bl true) H) : rEqM K x y H Q := by
  refine .inr ⟨d, d, dx, dy, sh, sh, ?_⟩
  rw [PySem.SeqAt.eqv_refl _ (PySem.SeqAt.canLay_of_shaped sh)]
  exact h
/-- an empty tuple of the written part -/
def etB (K : PySem.W.Frag) (a : Addr) : Bool := match K.lookup a with
  | some ⟨.type c, _, .seq its _, _⟩ => decide (c = "tuple") && decide (its.toList = [])
  | _ => false
theorem etB_ok {K : PySem.W.Frag} {a : Addr} (h : etB K a = true) (H : Hp) : SqT K H a [] := by
  unfold etB at h
  split at h
  · rename_i c dd its n sl e
    obtain ⟨h1, h2⟩ := ba h
    have e1 : its.toList = [] := of_decide_eq_true h2
    have e2 : its.size = 0 := by rw [← Array.length_toList, e1] <;> rfl
    exact .inr ⟨_, its, n, e, congrArg Value.type (of_decide_eq_true h1), rfl, by rw [e2]; exact Nat.zero_le _, by rw [e1]; exact .nil⟩
  · cases h
/-- targets in a comprehension's block -/
theorem pgTup {X : Cx} {K : PySem.W.Frag} {es : List Expr} {k : Nat} {t : TGs} {n : Nat} {pos : Pos} (hc : X.calm = true) (h : PGs X es t) (hK : X.K = K := by rfl)
    (hn : (assignEach es X.env).length = n := by rfl) (hst : (assignEach es X.env).findIdx? (·.1) = none := by rfl) : PG X (.Tuple es k pos) (gTup K n t) := hK ▸ pg_tup hc h hn hst
/-- the statics too -/
def obsSG (n : Nat) (ck : PySem.W.Frag → Bool) (fn : List DefD) (g : Addr → Option Obj) : AlD := obsM ck fn (frG g (cStatics :: asD g n))
def hookS (n : Nat) (ck : PySem.W.Frag → Bool) (fn : List DefD) : PySem.W.Hook where
  α := AlD
  obs := fun s => obsSG n ck fn s.heap.get?
  val := fun _ => valD fn
  says := fun _ h => ∃ K : PySem.W.Frag, K.In h ∧ SaysM ck fn K
  of := fun _ _ e => ⟨_, frG_in, e⟩
  keeps := fun _ _ _ ⟨K, hK, c⟩ k => ⟨K, PySem.W.Frag.In.keeps hK k, c⟩
theorem obsSG_eq {n : Nat} {ck : PySem.W.Frag → Bool} {fn : List DefD} {g : Addr → Option Obj} {s : Shared} (h : ∀ a, g a = s.heap.get? a) : obsSG n ck fn g = (hookS n ck fn).obs s := by
  have e : g = s.heap.get? := funext h
  rw [e]
  rfl
end LK
namespace LK
open PySem PySem.Spec PyProof.Rows L2
theorem xf_at {K : PySem.W.Frag} {a C : Addr} {fs : List (Str × V)} {f : Str} {v : V} {H : Hp} {Q : VK} (k : ErrAt H a C fs) (c : ExcC K C) (no : PySem.W.findIn K (.ref C) f = some none) (l : fs.lookup f = some v) (h : Q v H) : rXfK K f (.ref a) H Q := by
  obtain ⟨d, fr, e1, e2⟩ := k.ex
  exact ⟨a, C, d, fr, fs, v, rfl, ExcC.xf c, no, e1, e2, l, h⟩
end LK

set_option Elab.async false
set_option linter.all false
set_option maxRecDepth 100000
set_option maxHeartbeats 4000000
/-! raise, try .. except C as e: the error that is caught stands on behind the suite -/
namespace LK
open PySem PySem.Spec PyProof.Rows L2
/-- on the ground again, the error tracked from here on -/
theorem landedK {X : Cx} {pins : List (Addr × Obj)} {σ : L2.St} {H : Hp} {sI s' : Shared} {B : Heap} {a : Addr} {oe : Obj} {vs : Array Value} {cls : Value} {d : Option Addr} (I : Inv X pins σ H sI) (nb : ∀ b o, sI.heap.get? b = some o → b ∉ frs X.stack → B.get? b = some o)
    (st : B.StaysIn s'.heap) (up : sI.heap.UpToSlots s'.heap) (os : s'.os = sI.os) (ag : AllBare s'.gens) (na : H a = none) (nI : sI.heap.get? a = none) (he : s'.heap.get? a = some oe) (hc : oe.cls = cls) (hd : oe.dict = d) (hf : oe.data = .fields vs) :
    Inv X pins σ (upd H a (exK a cls d false)) s' := by
  have ne : ∀ {b : Addr} {o : Obj}, sI.heap.get? b = some o → b ≠ a := fun {b o} e z => by
    rw [z, nI] at e
    cases e
  have nf : ∀ b ∈ frs X.stack, ∀ o, sI.heap.get? b = some o → ∃ sl, s'.heap.get? b = some { o with slots := sl } := fun b hb o e => by
    obtain ⟨_, o', e', hx⟩ := I.stack.mem hb
    rw [e] at e'
    cases e'
    exact up b o e hx
  have hok : HOk X.prog X.w (upd H a (exK a cls d false)) s'.heap := fun b u e => by
    by_cases hb : b = a
    · subst hb
      rw [upd_same] at e
      cases e
      exact exK_ok he hc hd hf fun z => nomatch z
    · rw [upd_ne hb] at e
      exact ((I.inGround nb) b u e).stay (fun c v _ q => st c v q) (fun c q => by rw [upd_ne (ne_of_none q na)]; exact q) fun c xs q => by rw [upd_ne (ne_of_none q na)]; exact q
  have J := I.call (ch := []) (h' := s'.heap) (g' := s'.gens) (t' := s'.toks) (d' := s'.drawn) (H' := upd H a (exK a cls d false))
    ⟨fun b o e _ hb _ => st b o (nb b o e hb), fun b o e _ hb _ => nf b hb o e, fun b o e n _ => by rw [upd_ne (ne e)]; exact n, fun b o e _ => by
      by_cases hb : b ∈ frs X.stack
      · obtain ⟨sl, q⟩ := nf b hb o e
        exact ⟨_, q⟩
      · exact ⟨o, st b o (nb b o e hb)⟩, fun b xs e => by rw [upd_ne (ne_of_none e na)]; exact e, fun b o v e => by rw [upd_ne (ne_of_none e na)]; exact e, fun b ps e => ⟨#[], by rw [upd_ne (ne_of_none e na), e]; simp⟩⟩
    hok ag (fun _ z => nomatch z)
  obtain ⟨a1, a2, a3, a4, a5⟩ := s'
  have e5 : a5 = sI.os := os
  subst e5
  exact J
/-- into the suite, nothing pinned -/
theorem suiteK {X : Cx} {pins : List (Addr × Obj)} {σ : L2.St} {H : Hp} {s : Shared} (I : Inv X pins σ H s) (a : Addr) : Inv (X.suite a (X.pn ++ pins)) [] σ H s :=
  ⟨I.ok.suite _ _, I.os, I.bare, I.base, I.loc, I.cell, I.free, I.freeC, fun p hp => I.pin p (by rw [List.append_nil] at hp; exact hp), I.hok, I.len⟩
theorem unsuiteK {X : Cx} {pins pn' : List (Addr × Obj)} {σ : L2.St} {H : Hp} {s : Shared} {a : Addr} (I : Inv (X.suite a (X.pn ++ pins)) pn' σ H s) (ok : X.Ok) : Inv X pins σ H s :=
  ⟨ok, I.os, I.bare, I.base, I.loc, I.cell, I.free, I.freeC, fun p hp => I.pin p (List.mem_append_left _ hp), I.hok, I.len⟩
/-- what the clause wishes of the body's error: slot i is the clause's name -/
def wAsK (K : PySem.W.Frag) (c : Value) (i : Nat) (ts : TS) (Wout : WX) (D : Ends) : WX := fun cls d σ H => ∃ b, PySem.W.exmOne K cls c = some b ∧
  (b = true → ∀ a H2, H a = none → Same H H2 → H2 a = some (exK a cls d false) → ts { nx := fun σ' H' => D.nx (σ'.set i none) H', rt := D.rt, bk := fun σ' H' => D.bk (σ'.set i none) H', ct := fun σ' H' => D.ct (σ'.set i none) H' } (σ.set i (some (.ref a))) H2) ∧ (b = false → Wout cls d σ H)
theorem takes_none {X : Cx} : Takes X (fun _ _ _ _ => False) := fun u s' x => by
  obtain ⟨a, B, sI, pins, σ, H, cls, d, e, I, nb, up, sky, na, os, ag, w⟩ := x
  exact False.elim w
theorem passF {X : Cx} : Passes (L2.CX X.prog X.w) X (fun _ _ _ => False) := fun pins σ H s e s' I c => by
  obtain ⟨a, B, H', cls, d, _, _, _, _, _, _, _, z⟩ := c
  exact False.elim z
section
variable {X : Cx} {x n : Str} {c : Value} {i : Nat} {body suite : List Stmt} {b₀ : Stmt} {np pos pos' : Pos} {tb : WX → TS} {ts : TS} {Wout : WX}
theorem ps_try_asK (hs : X.stack = X.env :: X.outer) (hf : X.env.frame = some X.env.locals) (hN : X.N.Nodup) (hi : X.N[i]? = some n) (hln : X.env.kindOf n = some .local) (hc : Names X x c) (tk : Takes X Wout)
    (hb : ∀ (W : WX) (pn : List (Addr × Obj)) (xe : Value → Shared → Prop), Takes (X.tr pn xe) W → PassesOwn (model X.prog X.w) X.A X.env xe → PSs (X.tr pn xe) body (tb W))
    (hsu : ∀ (a : Addr) (pn : List (Addr × Obj)), PSs (X.suite a pn) (b₀ :: suite) ts) :
    PS X (.Try body [.ExceptHandler (some (.Name x np)) (some n) (b₀ :: suite) pos'] [] [] pos) (fun D σ H => tb (wAsK X.K c i ts Wout D) D σ H) := by
  refine ⟨fun pins s σ H D I h => ?_⟩
  have ok := I.ok
  have frE : X.A.frames = some (X.env :: X.outer) := ok.frames.trans (congrArg some hs)
  have lcl : Loc X.env.scope n := .inl hln
  refine wpAny_Try_except (wpAny_mono ((hb (wAsK X.K c i ts Wout D) (X.pn ++ pins) (fun e s₁ => wpAny (model X.prog X.w) X.A (noteFrame e X.env) (fun _ s₂ => wpAny (model X.prog X.w) X.A (setFlight e none) (fun _ s₃ =>
    wpAny (model X.prog X.w) X.A (handleBy e X.env [.ExceptHandler (some (.Name x np)) (some n) (b₀ :: suite) pos']) (SP X pins D) X.xe s₃) X.xe s₂) X.xe s₁) (fun u s' xx => ?_) PassesOwn.looking).run [] s σ H D (I.toTry _) h) (fun f s1 hsp => ?_) (fun e s1 he => he))
  · obtain ⟨a, B, sI, pins', σ', H', cls, d, rfl, J', nb, up, sky, na, os, ag, b, hb1, hyes, hno⟩ := xx
    have J : Inv X pins σ' H' sI := J'.ofTry ok
    have skyE : Sky B (X.env :: X.outer) a (Zc cls d) X.env.locals s'.heap := hs ▸ sky
    show wpAny (model X.prog X.w) X.A (noteFrame (.ref a) X.env) _ _ _
    refine Sky.land Zc.steady frE hf skyE fun h3 fl3 up3 => ?_
    have J3 : Inv X pins σ' H' { s' with heap := h3 } := J.landed nb fl3.1 (up.trans up3) os ag
    obtain ⟨oe3, vs3, he3, hz3, hd3⟩ := fl3.there
    have apart : a ∉ frs (X.env :: X.outer) := fun hm => by
      obtain ⟨_, o', e', hx⟩ := fl3.2.2.1.mem hm
      rw [he3] at e'
      cases e'
      exact hx _ hd3
    have nL : a ≠ X.env.locals := fun z => apart (List.mem_filterMap.mpr ⟨X.env, List.mem_cons_self, by rw [hf, z]⟩)
    have nF : a ∉ X.fs := fun hm => by
      obtain ⟨e, he, q⟩ := List.mem_filterMap.mp hm
      exact apart (List.mem_filterMap.mpr ⟨e, List.mem_cons_of_mem _ he, q⟩)
    have nI : sI.heap.get? a = none := by
      cases e : sI.heap.get? a with
      | none => rfl
      | some o =>
        have z := nb a o e (by rw [hs]; exact apart)
        rw [fl3.2.1] at z
        cases z
    have S3 := J3.suite he3 hd3 na nL nF
    refine wpAny_handleBy_cons (codeAny_handlers_test ?_) (by intro q; cases q)
    have LT : PySem.W.Looks (model X.prog X.w) h3 (typeOf (.ref a)) cls := fun A Q E s k q => wpAny_typeOf_ref (k _ _ he3) (by rw [hz3.1]; exact q)
    have LM := PySem.W.exm_one (M := model X.prog X.w) (J3.kIn) LT hb1
    have clause : ∀ {Q : Value → Shared → Prop} {E : Value → Shared → Prop}, Q c { s' with heap := h3 } → wpAny (model X.prog X.w) (X.A.mark (some (.ref a))) (eval (.Name x np) X.env) Q E { s' with heap := h3 } := fun {Q E} q => by
      obtain ⟨hg, hdbg, hm | ⟨hm, hv, hnn⟩⟩ := hc
      · exact ld_glob (X := X.suite a ((a, oe3) :: (X.pn ++ pins))) S3 hg hm q hdbg
      · exact ld_blt (X := X.suite a ((a, oe3) :: (X.pn ++ pins))) S3 hg hm hv q hnn hdbg
    refine clause (LM.here ?_)
    cases b with
    | true =>
      refine codeAny_handlers_suite_as (HandSPX.lands_againZ fl3 fun h4 fl4 up4 => ?_)
      obtain ⟨oe4, vs4, he4, hz4, hd4⟩ := fl4.there
      have J4 := landedK J nb (s' := { s' with heap := h4 }) fl4.1 ((up.trans up3).trans up4) os ag na nI he4 hz4.1 hz4.2 hd4
      have S4 := suiteK J4 a
      refine store_ok (X := X.suite a (X.pn ++ pins)) (v := .ref a) S4 hN hi lcl rfl (fun s5 S5 => ?_) (.inr hln)
      refine wpAny_mono ((hsu a (X.pn ++ pins)).run [] s5 _ _ _ S5 (hyes rfl a _ na (Same.new na) upd_same)) (fun f s6 hsp => ?_) (fun _ _ z => False.elim z)
      have fin : ∀ {σ6 : L2.St} {H6 : Hp} {Q : Shared → Prop}, Inv (X.suite a (X.pn ++ pins)) [] σ6 H6 s6 → (∀ s7, Inv X pins (σ6.set i none) H6 s7 → Q s7) →
          wpAny (model X.prog X.w) X.A (do bindName X.env n .none; unbindBehindTheSuite X.env n pos') (fun _ s7 => Q s7) X.xe s6 := fun {σ6 H6 Q} S6 hq => gone_ok (unsuiteK S6 ok) hN hi hln hq
      cases f with
      | ret u =>
        obtain ⟨v6, σ6, H6, S6, r6, q6⟩ := hsp
        exact fin S6 fun s7 J7 => ⟨_, _, _, J7, r6, q6⟩
      | next | brk | cont =>
        obtain ⟨σ6, H6, S6, q6⟩ := hsp
        exact fin S6 fun s7 J7 => ⟨_, _, J7, q6⟩
    | false =>
      show wpAny _ X.A (handleBy (.ref a) X.env []) _ _ _
      refine wpAny_handleBy_nil ?_
      obtain ⟨k1, k2, k3, oe, vs, T, oT, ts', he, hz, hd, h1, hr⟩ := id fl3
      unfold PySem.passOn
      refine wpAny_bind (wpAny_field he hd h1 ?_)
      rw [if_neg (show ¬ ((Value.ref T == Value.none) = true) from by simp)]
      have on : wpAny (model X.prog X.w) X.A (setFlight (.ref a) X.env.frame) (fun _ s4 => wpAny (model X.prog X.w) X.A (throw (.ref a) : Sem Flow) (SP X pins D) X.xe s4) X.xe { s' with heap := h3 } := by
        rw [hf]
        exact HandSPX.setFlight_upZ fl3 fun h4 hh4 up4 => wpAny_throw (tk _ _ ⟨a, B, sI, pins, σ', H', cls, d, rfl, J, nb, (up.trans up3).trans up4, .inr (.inr (by rw [hs]; exact hh4)), na, os, ag, hno rfl⟩)
      first
        | exact wpAny_bind (wpAny_pure (wpAny_bind on))
        | exact wpAny_bind on
  · cases f with
    | next =>
      obtain ⟨σ', H', J', q⟩ := hsp
      exact wpAny_execs_nil ⟨σ', H', J'.ofTry ok, q⟩
    | ret u =>
      obtain ⟨v, σ', H', J', r, q⟩ := hsp
      exact ⟨v, σ', H', J'.ofTry ok, r, q⟩
    | brk | cont =>
      obtain ⟨σ', H', J', q⟩ := hsp
      exact ⟨σ', H', J'.ofTry ok, q⟩
end
/-! ### raise C(..) -/
/-- an own class without own __init__ -/
def tRaN (C : Addr) (ta tk : TA) : L2.St → Hp → XK → Prop := fun σ H E => ta σ H fun xs H1 => tk σ H1 fun zs H2 => zs = [] ∧ xs.length ≤ 1000 ∧ E (.ref C) none H2
/-- .. with its own: behind it all that stood stands, its fields at d -/
def tRaO (C : Addr) (n : Nat) (ks : List Str) (names : List Str) (gV : List V → List V → List V) (ta tk : TA) : L2.St → Hp → XK → Prop := fun σ H E => ta σ H fun xs H1 => tk σ H1 fun zs H2 => xs.length = n ∧ zs.length = ks.length ∧ ∃ ws, (∀ a, gV (.ref a :: xs) zs = .ref a :: ws) ∧ ws.length = names.length ∧
  ∀ d H', H2 d = none → Same H2 H' → H' d = some (.xd (names.zip ws).reverse) → E (.ref C) (some d) H'
section
variable {X : Cx} {CX : CXT} {C fI : Addr} {k n : Nat} {fd : FuncData} {ps ks names : List Str} {g : List Value → List Value → List Value} {gV : List V → List V → List V} {x : Str} {p pos : Pos} {e : Expr} {es : List Expr} {kws : List Keyword} {t tk : TA}
def CallMk (X : Cx) (f : Value) (ks : List Str) (r : List V → List V → Hp → XK → Prop) : Prop :=
  ∀ (pins : List (Addr × Obj)) (s : Shared) (σ : L2.St) (H : Hp) (xs : List V) (us : List Value) (zs : List V) (ws : List Value) (Q : XK), Inv X pins σ H s → Vals xs us → Vals zs ws → r xs zs H Q →
    wpAny (model X.prog X.w) X.A (call f us (ks.zip ws)) (MkP X pins σ Q) X.xe s
theorem pmk_gk {f : Value} {r : List V → List V → Hp → XK → Prop} (c : CallMk X f ks r) (hg : Gl X x) (hm : X.mg x = some f) (hk : PySem.W.keepIn X.K f = true) (ha : PA X (e :: es) t) (hkw : PK X kws tk)
    (hall : (backToKw pos (keywordEach kws X.env)).all (·.1.isSome) = true := by rfl) (hks : (backToKw pos (keywordEach kws X.env)).filterMap (·.1) = ks := by rfl) (hdb : (x == ("__debug__" : Str)) = false := by decide)
    (he : starEach (e :: es) X.env = (false, eval e X.env) :: starEach es X.env := by rfl) (hpl : ((backTo pos (starEach (e :: es) X.env)).any (·.1) || (backToKw pos (keywordEach kws X.env)).any (·.1.isNone)) = false := by rfl) :
    PMk X (.Call (.Name x p) (e :: es) kws pos) (fun σ H Q => t σ H fun xs H1 => tk σ H1 fun zs H2 => r xs zs H2 Q) := by
  intro pins s σ H Q I h
  refine wpAny_Call_Name_kw (ld_glob I hg hm ?_ hdb)
  refine PySem.W.callWith_KW (h₀ := X.base) I.ok.mod.kin hk hall (thn (ha.run pos pins s σ H _ I h) fun us s1 hz => ?_) hpl he
  obtain ⟨vs, H1, I1, r1, q⟩ := hz
  refine thn (hkw.run pos pins s1 σ H1 _ I1 q) fun ws s2 hz => ?_
  obtain ⟨zs, H2, I2, rz, q2⟩ := hz
  refine ⟨I2.kIn, ?_⟩
  rw [hks]
  exact c pins s2 σ H2 vs us zs ws Q I2 r1 rz q2
theorem pmk_gk0 {f : Value} {r : List V → List V → Hp → XK → Prop} (c : CallMk X f ks r) (hg : Gl X x) (hm : X.mg x = some f) (hk : PySem.W.keepIn X.K f = true) (hkw : PK X kws tk)
    (hall : (backToKw pos (keywordEach kws X.env)).all (·.1.isSome) = true := by rfl) (hks : (backToKw pos (keywordEach kws X.env)).filterMap (·.1) = ks := by rfl) (hdb : (x == ("__debug__" : Str)) = false := by decide)
    (hpl : ((backTo pos (starEach [] X.env)).any (·.1) || (backToKw pos (keywordEach kws X.env)).any (·.1.isNone)) = false := by rfl) :
    PMk X (.Call (.Name x p) [] kws pos) (fun σ H Q => tNil σ H fun xs H1 => tk σ H1 fun zs H2 => r xs zs H2 Q) := by
  intro pins s σ H Q I h
  refine wpAny_Call_Name_kw (ld_glob I hg hm ?_ hdb)
  refine PySem.W.callWith_KW0 (h₀ := X.base) I.ok.mod.kin hk hall (thn (hkw.run pos pins s σ H _ I h) fun ws s2 hz => ?_) hpl
  obtain ⟨zs, H2, I2, rz, q2⟩ := hz
  refine ⟨I2.kIn, ?_⟩
  rw [hks]
  exact c pins s2 σ H2 [] [] zs ws Q I2 .nil rz q2
structure rRaN (C : Addr) (xs zs : List V) (H : Hp) (E : XK) : Prop where
  out : zs = [] ∧ xs.length ≤ 1000 ∧ E (.ref C) none H
theorem cm_N {bmB : List Value} {B newId initId : String} (F : ExcBaseFacts B newId initId bmB) (q : PySem.W.excIn X.K C bmB newId = true) (r : Raises X (.ref C)) : CallMk X (.ref C) [] (rRaN C) := by
  intro pins s σ H xs us zs ws Q I r1 rz h
  obtain ⟨rfl, hl, q1⟩ := h.out
  obtain ⟨bm, N, nm, qn, bs, hdct, sn, sub, ab, col, dd, k0, k1, k2, k3, k5, mN, hC, hN, hni, T⟩ := exc_obj I.kIn q
  show wpAny _ _ (call (.ref C) us) _ _ _
  have hus : us.length ≤ sizeLine := by
    rw [← Paired.length r1, sizeLine_eq]
    omega
  exact wpAny_call_exc_subT F T hC hN hni (fun h' a hm => mk_of I hm r q1 (I.hok.gone hm.new)) hus
structure rRaO (C : Addr) (n : Nat) (ks names : List Str) (gV : List V → List V → List V) (xs zs : List V) (H : Hp) (E : XK) : Prop where
  out : xs.length = n ∧ zs.length = ks.length ∧ ∃ ws, (∀ a, gV (.ref a :: xs) zs = .ref a :: ws) ∧ ws.length = names.length ∧ ∀ d H', H d = none → Same H H' → H' d = some (.xd (names.zip ws).reverse) → E (.ref C) (some d) H'
theorem cm_O (T : OexC X.K C) (iC : PySem.W.findIn X.K (.ref C) "__init__" = some (some (.ref fI))) (tI : PySem.W.typeIn X.K (.ref fI) = some (.type "function"))
    (F1 : FnOk X.prog X.w X.K X.mg X.base CX k fI fd ps (spInit C names)) (hr : Room (k + 1) X.A) (hb : KBn X.K fd ps (n + 1) ks g gV) (hx : Passes CX X (fun _ _ _ => False)) (hl : n ≤ 1000 := by decide) : CallMk X (.ref C) ks (rRaO C n ks names gV) := by
  intro pins s σ H xs us zs ws Q I r rz h
  obtain ⟨hn, hz, vs, hg, hw, hq⟩ := h.out
  refine mk_core (Qi := fun a v H2 => v = .non ∧ ∃ d : Addr, H d = none ∧ d ≠ a ∧ H2 a = some (exo a C (some d)) ∧ H2 d = some (exd d (names.zip vs).reverse) ∧ ∀ b, b ≠ a → b ≠ d → H2 b = H b) T iC tI F1 hr hb hx I r rz hn hz hl (fun a ha => ⟨a, vs, hg a, hw, upd_same, fun dx H' hdx nda e1 e2 ho => ?_⟩) fun s2 u os2 k2 I2 s' hc => ?_
  · have hdx' : H dx = none := by rw [← upd_ne (H := H) (o := exo a C none) nda]; exact hdx
    exact ⟨rfl, dx, hdx', nda, e1, e2, fun b n1 n2 => by rw [ho b n1 n2, upd_ne n1]⟩
  · obtain ⟨v, H2, os3, bare, un, hok, rv, ev, d, hd1, nda, ea, ed, ho⟩ := hc
    subst ev
    refine ⟨rv, ?_⟩
    obtain ⟨hp, gs, dr, tk, os⟩ := s
    obtain ⟨hp2, g2, dr2, tk2, o2⟩ := s2
    obtain ⟨h2, g3, dr3, tk3, o3⟩ := s'
    have o3e : o3 = os := os3.trans os2
    refine mk_end (raises_own T.exC T.tyC) I (Nat.le_succ _) k2 un hok o3e bare ea ed hd1 (hq d _ hd1 (fun b w hb => ?_) upd_same)
    have nb1 : b ≠ hp.objs.size + 1 := ne_of_none hb (I.hok.fresh (Nat.le_succ _))
    have nb2 : b ≠ d := ne_of_none hb hd1
    rw [upd_ne nb2, del_ne nb1, ho b nb1 nb2]
    exact hb
end
end LK

set_option Elab.async false
set_option linter.all false
set_option maxRecDepth 100000
set_option maxHeartbeats 4000000
/-! texts as lists of codes -/
namespace LK
open PySem PySem.Spec PyProof.Rows L2
/-! ### readings as structures: a lemma of one is found by its name alone -/
structure rLenW (K : PySem.W.Frag) (xs : List V) (H : Hp) (Q : VK) : Prop where
  out : rLen K xs H Q
structure rIxW (K : PySem.W.Frag) (x y : V) (H : Hp) (Q : VK) : Prop where
  out : rIx K x y H Q
structure rInW (K : PySem.W.Frag) (neg : Bool) (x y : V) (H : Hp) (Q : VK) : Prop where
  out : rInM K neg x y H Q
structure rSlW (K : PySem.W.Frag) (x : V) (lo hi : Option Int) (H : Hp) (Q : VK) : Prop where
  out : rSlS' K x lo hi H Q
structure rEqW (K : PySem.W.Frag) (x y : V) (H : Hp) (Q : VK) : Prop where
  out : rEqM K x y H Q
structure rNeW (K : PySem.W.Frag) (x y : V) (H : Hp) (Q : VK) : Prop where
  out : rNeM K x y H Q
structure rIsW (K : PySem.W.Frag) (xs : List V) (H : Hp) (Q : VK) : Prop where
  out : rIsx K xs H Q
structure rIntW (xs : List V) (H : Hp) (Q : VK) : Prop where
  out : rIntS xs H Q
structure rTupW (K : PySem.W.Frag) (xs : List V) (H : Hp) (Q : VK) : Prop where
  out : rTupS K xs H Q
structure rListW (K : PySem.W.Frag) (xs : List V) (H : Hp) (Q : VK) : Prop where
  out : rListS K xs H Q
section
variable {X : Cx} {K : PySem.W.Frag}
theorem cLenW (hK : X.K = K := by rfl) : CallR X (.builtin "len") (rLenW K) := CallR.imp (cLen hK) fun _ _ _ q => q.out
theorem ixW (hK : X.K = K := by rfl) : IxR X (rIxW K) := fun value slice pins s σ H x y v u Q I rx ry q hs => ixM hK value slice pins s σ H x y v u Q I rx ry q.out hs
theorem oInW (hK : X.K = K := by rfl) : OpR X (compareOp .In) (rInW K false) := OpR.imp (oIn hK) fun _ _ _ _ q => q.out
theorem oNinW (hK : X.K = K := by rfl) : OpR X (compareOp .NotIn) (rInW K true) := OpR.imp (oNin hK) fun _ _ _ _ q => q.out
theorem slW (hK : X.K = K := by rfl) : SlR X (rSlW K) := SlR.imp (slS hK) fun _ _ _ _ _ q => q.out
theorem oEqW (hu : X.A.units + 64 < cLine) (hK : X.K = K := by rfl) : OpR X (compareOp .Eq) (rEqW K) := OpR.imp (oEq hu hK) fun _ _ _ _ q => q.out
theorem oNeW (hu : X.A.units + 64 < cLine) (hK : X.K = K := by rfl) : OpR X (compareOp .NotEq) (rNeW K) := OpR.imp (oNe hu hK) fun _ _ _ _ q => q.out
theorem cIsW (hK : X.K = K := by rfl) : CallR X (.builtin "isinstance") (rIsW K) := CallR.imp (cIsx hK) fun _ _ _ q => q.out
theorem cIntW : CallR X (.type "int") rIntW := CallR.imp cIntS fun _ _ _ q => q.out
theorem cTupW (hK : X.K = K := by rfl) : CallR X (.type "tuple") (rTupW K) := CallR.imp (cTupS hK) fun _ _ _ q => q.out
theorem cListW (hc : X.calm = true) (hK : X.K = K := by rfl) : CallR X (.type "list") (rListW K) := CallR.imp (cListS hc hK) fun _ _ _ q => q.out
variable {H : Hp} {Q : VK}
theorem lenL {p : Addr} {xs : List V} (h : SqL K H p xs) (q : Q (.int (xs.length : Nat)) H) : rLenW K [.ref p] H Q := ⟨⟨_, _, rfl, .inl ⟨_, h, rfl⟩, q⟩⟩
theorem lenT {p : Addr} {xs : List V} (h : SqT K H p xs) (q : Q (.int (xs.length : Nat)) H) : rLenW K [.ref p] H Q := ⟨⟨_, _, rfl, .inr ⟨_, h, rfl⟩, q⟩⟩
theorem ixL {p : Addr} {xs : List V} {i : Int} {v : V} (h : SqL K H p xs) (e : atI xs i = some v) (q : Q v H) : rIxW K (.ref p) (.int i) H Q := ⟨.inl ⟨_, _, _, _, rfl, rfl, h, e, q⟩⟩
theorem ixT {p : Addr} {xs : List V} {i : Int} {v : V} (h : SqT K H p xs) (e : atI xs i = some v) (q : Q v H) : rIxW K (.ref p) (.int i) H Q := ⟨.inr (.inl ⟨_, _, _, _, rfl, rfl, h, e, q⟩)⟩
theorem eqSc {x y : V} (h : scal x y = true) (q : Q (.bl (decide (x = y))) H) : rEqW K x y H Q := ⟨.inl ⟨h, q⟩⟩
theorem neSc {x y : V} (h : scal x y = true) (q : Q (.bl (!decide (x = y))) H) : rNeW K x y H Q := ⟨.inl ⟨h, q⟩⟩
theorem eqDa {x y : V} {d e : PyData} (dx : Dp K H x d) (dy : Dp K H y e) (s1 : PySem.SeqAt.shaped d = true) (s2 : PySem.SeqAt.shaped e = true) (q : Q (.bl (PyData.eqv d e)) H) : rEqW K x y H Q := ⟨.inr ⟨_, _, dx, dy, s1, s2, q⟩⟩
theorem neDa {x y : V} {d e : PyData} (dx : Dp K H x d) (dy : Dp K H y e) (s1 : PySem.SeqAt.shaped d = true) (s2 : PySem.SeqAt.shaped e = true) (q : Q (.bl (!PyData.eqv d e)) H) : rNeW K x y H Q := ⟨.inr ⟨_, _, dx, dy, s1, s2, q⟩⟩
theorem eqSame {x y : V} {d : PyData} (dx : Dp K H x d) (dy : Dp K H y d) (s1 : PySem.SeqAt.shaped d = true) (q : Q (.bl true) H) : rEqW K x y H Q := ⟨eqD dx dy s1 q⟩
theorem neSame {x y : V} {d : PyData} (dx : Dp K H x d) (dy : Dp K H y d) (s1 : PySem.SeqAt.shaped d = true) (q : Q (.bl false) H) : rNeW K x y H Q := ⟨neD dx dy s1 q⟩
theorem isErr {a C : Addr} {c : V} {cv : Value} {b : Bool} (k : Err H a C) (T : ExcC K C) (hc : ClsV c cv) (e : PySem.W.kitOne K (.ref C) cv = some b) (h : Q (.bl b) H) : rIsW K [.ref a, c] H Q := ⟨isx_read k T hc e h⟩
theorem isTy {x : V} {t : Value} {n : String} {b : Bool} (ty : TyX K H x t) (e : PySem.W.kitOne K t (.type n) = some b) (h : Q (.bl b) H) : rIsW K [x, .ty n] H Q := ⟨.inl ⟨_, _, _, _, _, rfl, .ty _, ty, e, h⟩⟩
theorem intI {i : Int} (h : Q (.int i) H) : rIntW [.int i] H Q := ⟨.inl (.inl ⟨i, rfl, h⟩)⟩
theorem intB {b : Bool} (h : Q (.int (if b then 1 else 0)) H) : rIntW [.bl b] H Q := ⟨.inl (.inr ⟨b, rfl, h⟩)⟩
theorem intT {a : Str} {n : Int} (e : PySem.intText? a = some n) (l : a.length ≤ 640) (h : Q (.int n) H) : rIntW [.str a] H Q := ⟨.inr ⟨a, n, rfl, e, l, h⟩⟩
theorem tupL {p : Addr} {ys : List V} (h : SqL K H p ys) (q : ∀ l H2, Same H H2 → SqT K H2 l ys → Q (.ref l) H2) : rTupW K [.ref p] H Q := ⟨⟨p, ys, rfl, .inl h, q⟩⟩
end
abbrev toS (w : List Nat) : Str := ⟨w.toArray⟩
theorem toS_list (w : List Nat) : (toS w).cps.toList = w := rfl
theorem toS_len (w : List Nat) : (toS w).length = w.length := by
  show w.toArray.size = _
  simp
theorem toS_of (z : Str) : z = toS z.cps.toList := by
  obtain ⟨a⟩ := z
  show Str.mk a = Str.mk a.toList.toArray
  simp
theorem toS_inj {a b : List Nat} (h : toS a = toS b) : a = b := by
  have : a.toArray = b.toArray := congrArg Str.cps h
  simpa using congrArg Array.toList this
theorem toS_eq {a b : List Nat} : (toS a = toS b) = (a = b) := propext ⟨toS_inj, fun h => by rw [h]⟩
theorem toS_app (a b : List Nat) : toS a ++ toS b = toS (a ++ b) := by
  show Str.mk (a.toArray ++ b.toArray) = _
  simp
theorem str_inj {a b : List Nat} : (V.str (toS a) = V.str (toS b)) = (a = b) := propext ⟨fun h => toS_inj (V.str.inj h), fun h => by rw [h]⟩
/-- text[i:j] -/
theorem cut_at (cs : List Nat) (i j : Nat) : cutS (toS cs) (some (i : Int)) (some (j : Int)) = toS ((cs.drop i).take (j - i)) := by
  unfold cutS
  rw [HT.sIx_nat, HT.sIx_nat, toS_len]
  show toS ((cs.drop (min i cs.length)).take (min j cs.length - min i cs.length)) = _
  rw [toS_eq]
  by_cases h : i ≤ cs.length
  · rw [Nat.min_eq_left h]
    rw [List.take_eq_take_iff, List.length_drop]
    omega
  · rw [show min i cs.length = cs.length by omega, List.drop_length, List.drop_eq_nil_of_le (by omega : cs.length ≤ i)]
    simp
theorem cut_to (cs : List Nat) (j : Nat) : cutS (toS cs) none (some (j : Int)) = toS (cs.take j) := by
  unfold cutS
  rw [HT.sIx_nat, HT.sIx_none, toS_len]
  show toS ((cs.drop 0).take (min j cs.length - 0)) = _
  rw [toS_eq, List.drop_zero, List.take_eq_take_iff]
  omega
theorem cut_from (cs : List Nat) (i : Nat) : cutS (toS cs) (some (i : Int)) none = toS (cs.drop i) := by
  unfold cutS
  rw [HT.sIx_nat, HT.sIx_none, toS_len]
  show toS ((cs.drop (min i cs.length)).take (cs.length - min i cs.length)) = _
  rw [toS_eq]
  by_cases h : i ≤ cs.length
  · rw [Nat.min_eq_left h, List.take_of_length_le (by rw [List.length_drop]; exact Nat.le_refl _)]
  · rw [show min i cs.length = cs.length by omega, List.drop_length, List.drop_eq_nil_of_le (by omega : cs.length ≤ i)]
    simp
theorem drop_cons {cs : List Nat} {i : Nat} (h : i < cs.length) : cs.drop i = cs[i] :: cs.drop (i + 1) := List.drop_eq_getElem_cons h
/-- text[i] -/
theorem ixS {K : PySem.W.Frag} {cs : List Nat} {i c : Nat} {r : List Nat} {H : Hp} {Q : VK} (hl : cs.length ≤ sizeLine) (e : cs.drop i = c :: r) (h : Q (.str (toS [c])) H) : rIxW K (.str (toS cs)) (.int i) H Q := by
  refine ⟨.inr (.inr ⟨_, _, c, rfl, rfl, by rw [toS_len]; exact hl, ?_, h⟩)⟩
  have : cs[i]? = some c := by
    have := congrArg (fun l => l[0]?) e
    simpa using this
  exact atI_nat this
/-- one sign in a text -/
theorem inS {K : PySem.W.Frag} {c : Nat} {cs : List Nat} {H : Hp} {Q : VK} (h : Q (.bl (decide (c ∈ cs))) H) : rInW K false (.str (toS [c])) (.str (toS cs)) H Q := by
  refine ⟨⟨_, rfl, ?_⟩⟩
  rw [if_neg Bool.false_ne_true, sign_in]
  exact h
theorem ninS {K : PySem.W.Frag} {c : Nat} {cs : List Nat} {H : Hp} {Q : VK} (h : Q (.bl (!decide (c ∈ cs))) H) : rInW K true (.str (toS [c])) (.str (toS cs)) H Q := by
  refine ⟨⟨_, rfl, ?_⟩⟩
  rw [if_pos rfl, sign_in]
  exact h
/-- a text among texts -/
theorem inV_toS (w : List Nat) : ∀ ws : List (List Nat), inV (.str (toS w)) (ws.map fun a => V.str (toS a)) = decide (w ∈ ws)
  | [] => rfl
  | a :: ws => by
    have ih := inV_toS w ws
    unfold inV at ih ⊢
    rw [List.map_cons, List.any_cons, ih]
    show (toS a == toS w || _) = _
    rw [Bool.eq_iff_iff, Bool.or_eq_true, beq_iff_eq, decide_eq_true_eq, decide_eq_true_eq, toS_eq, List.mem_cons, eq_comm]
theorem flat_toS (ws : List (List Nat)) : (ws.map fun a => V.str (toS a)).all flatV = true := by
  rw [List.all_eq_true]
  intro x hx
  obtain ⟨a, _, rfl⟩ := List.mem_map.mp hx
  rfl
theorem inT {K : PySem.W.Frag} {w : List Nat} {ws : List (List Nat)} {p : Addr} {vs : List V} {H : Hp} {Q : VK} (hp : SqL K H p vs ∨ SqT K H p vs) (e : vs = ws.map fun a => V.str (toS a)) (h : Q (.bl (decide (w ∈ ws))) H) : rInW K false (.str (toS w)) (.ref p) H Q := by
  subst e
  refine ⟨⟨p, _, rfl, hp, rfl, flat_toS ws, ?_⟩⟩
  rw [if_neg Bool.false_ne_true, inV_toS]
  exact h
theorem slS_at {K : PySem.W.Frag} {cs : List Nat} {i j : Nat} {H : Hp} {Q : VK} (hl : cs.length ≤ sizeLine) (h : Q (.str (toS ((cs.drop i).take (j - i)))) H) : rSlW K (.str (toS cs)) (some (i : Int)) (some (j : Int)) H Q := by
  refine ⟨.inr (.inr ⟨_, rfl, by rw [toS_len]; exact hl, ?_⟩)⟩
  rw [cut_at]
  exact h
theorem slS_to {K : PySem.W.Frag} {cs : List Nat} {j : Nat} {H : Hp} {Q : VK} (hl : cs.length ≤ sizeLine) (h : Q (.str (toS (cs.take j))) H) : rSlW K (.str (toS cs)) none (some (j : Int)) H Q := by
  refine ⟨.inr (.inr ⟨_, rfl, by rw [toS_len]; exact hl, ?_⟩)⟩
  rw [cut_to]
  exact h
theorem slS_from {K : PySem.W.Frag} {cs : List Nat} {i : Nat} {H : Hp} {Q : VK} (hl : cs.length ≤ sizeLine) (h : Q (.str (toS (cs.drop i))) H) : rSlW K (.str (toS cs)) (some (i : Int)) none H Q := by
  refine ⟨.inr (.inr ⟨_, rfl, by rw [toS_len]; exact hl, ?_⟩)⟩
  rw [cut_from]
  exact h
theorem lenS {K : PySem.W.Frag} {cs : List Nat} {H : Hp} {Q : VK} (hl : cs.length ≤ sizeLine) (h : Q (.int (cs.length : Nat)) H) : rLenW K [.str (toS cs)] H Q :=
  ⟨⟨_, cs.length, rfl, ⟨by rw [toS_len]; exact hl, (toS_len cs).symm⟩, h⟩⟩
end LK

set_option Elab.async false
set_option linter.all false
set_option autoImplicit false
set_option maxRecDepth 100000
set_option maxHeartbeats 4000000
/-! the mirror layer: Python values as data (D), what a heap holds of them (Den), a def's slots as data (Sl, Sr) -/
namespace DL
open PySem PySem.Spec PyProof.Rows L2 LK
/-! ### data -/
inductive D where
  | non | bl (b : Bool) | int (i : Int) | str (w : List Nat)
  | lst (xs : List D) | tup (xs : List D)
  | dct (kvs : List (D × D))
  | scr (ns : List Int)
  | exc (c : Str) (fs : List (Str × D))
/-- what a step comes to: a value, an error (its class, its fields), nothing that is told here -/
inductive Res (α : Type) where
  | ok (a : α) | err (c : Str) (fs : List (Str × D)) | bad
def Res.bind {α β : Type} (r : Res α) (f : α → Res β) : Res β := match r with
  | .ok a => f a
  | .err c fs => .err c fs
  | .bad => .bad
theorem bind_ok {α β : Type} (a : α) (f : α → Res β) : (Res.ok a).bind f = f a := rfl
theorem bind_err {α β : Type} (c : Str) (fs : List (Str × D)) (f : α → Res β) : (Res.err c fs).bind f = .err c fs := rfl
theorem bind_bad {α β : Type} (f : α → Res β) : (Res.bad).bind f = .bad := rfl
/-! ### what the heap holds -/
mutual
inductive Den (K : PySem.W.Frag) (G : Hp) : V → D → Prop
  | non : Den K G .non .non
  | bl (b : Bool) : Den K G (.bl b) (.bl b)
  | int (i : Int) : Den K G (.int i) (.int i)
  | str (w : List Nat) : Den K G (.str (toS w)) (.str w)
  | lst {a : Addr} {xs : List V} {ds : List D} : G a = some (.lst xs) → DenA K G xs ds → Den K G (.ref a) (.lst ds)
  | scr {a : Addr} {ns : List Int} : SqL K G a (ns.map V.int) → Den K G (.ref a) (.scr ns)
  | tup {a : Addr} {xs : List V} {ds : List D} : SqT K G a xs → DenA K G xs ds → Den K G (.ref a) (.tup ds)
  | dK {a : Addr} {kvs : List (Key × V)} {vs ks ds : List D} : Rd G a (.dK kvs) → ks = kvs.map (fun p => match p.1 with | .inl i => D.int i | .inr x => .str x.cps.toList) → DenA K G (kvs.map Prod.snd) ds → Den K G (.ref a) (.dct (ks.zip ds))
  | exc0 {a C : Addr} {c : Str} {fr : Bool} : G a = some (exK a (.ref C) none fr) → C = He.ga K c → Den K G (.ref a) (.exc c [])
  | exc {a C dd : Addr} {c : Str} {fr : Bool} {ns : List Str} {xs : List V} {ds : List D} : G a = some (exK a (.ref C) (some dd) fr) → C = He.ga K c → G dd = some (.xd (ns.zip xs)) → ns.length = xs.length → DenA K G xs ds → Den K G (.ref a) (.exc c (ns.zip ds))
inductive DenA (K : PySem.W.Frag) (G : Hp) : List V → List D → Prop
  | nil : DenA K G [] []
  | cons {v : V} {vs : List V} {d : D} {ds : List D} : Den K G v d → DenA K G vs ds → DenA K G (v :: vs) (d :: ds)
end
section
variable {K : PySem.W.Frag} {G G' : Hp}
theorem seqL_same {a : Addr} {xs : List V} (e : Same G G') (h : SqL K G a xs) : SqL K G' a xs := e.seq h
theorem rd_same {a : Addr} {u : HO} (e : Same G G') (h : Rd G a u) : Rd G' a u := h.elim (fun z => .inl (e _ _ z)) fun ⟨o, z⟩ => .inr ⟨o, e _ _ z⟩
theorem seqT_same {a : Addr} {xs : List V} (e : Same G G') (h : SqT K G a xs) : SqT K G' a xs := h.elim (fun z => .inl (rd_same e z)) .inr
mutual
theorem Den.same (e : Same G G') : ∀ {v : V} {d : D}, Den K G v d → Den K G' v d
  | _, _, .non => .non
  | _, _, .bl b => .bl b
  | _, _, .int i => .int i
  | _, _, .str w => .str w
  | _, _, .lst h t => .lst (e _ _ h) (DenA.same e t)
  | _, _, .scr h => .scr (e.seq h)
  | _, _, .tup h t => .tup (seqT_same e h) (DenA.same e t)
  | _, _, .dK (vs := vs) h k t => .dK (vs := vs) (rd_same e h) k (DenA.same e t)
  | _, _, .exc0 h c => .exc0 (e _ _ h) c
  | _, _, .exc h c f n t => .exc (e _ _ h) c (e _ _ f) n (DenA.same e t)
theorem DenA.same (e : Same G G') : ∀ {vs : List V} {ds : List D}, DenA K G vs ds → DenA K G' vs ds
  | _, _, .nil => .nil
  | _, _, .cons h t => .cons (Den.same e h) (DenA.same e t)
end
theorem DenA.len : ∀ {vs : List V} {ds : List D}, DenA K G vs ds → vs.length = ds.length
  | _, _, .nil => rfl
  | _, _, .cons _ t => congrArg (· + 1) (DenA.len t)
theorem DenA.app : ∀ {vs ws : List V} {ds es : List D}, DenA K G vs ds → DenA K G ws es → DenA K G (vs ++ ws) (ds ++ es)
  | _, _, _, _, .nil, h => h
  | _, _, _, _, .cons h t, h2 => .cons h (DenA.app t h2)
theorem DenA.get : ∀ {vs : List V} {ds : List D} {i : Nat} {d : D}, DenA K G vs ds → ds[i]? = some d → ∃ v, vs[i]? = some v ∧ Den K G v d
  | _, _, _, _, .nil, e => by simp at e
  | _, _, 0, _, .cons h _, e => by
    simp at e
    subst e
    exact ⟨_, rfl, h⟩
  | _, _, i + 1, _, .cons _ t, e => by
    obtain ⟨v, h1, h2⟩ := DenA.get (i := i) t (by simpa using e)
    exact ⟨v, by simpa using h1, h2⟩
theorem DenA.getV : ∀ {vs : List V} {ds : List D} {i : Nat} {v : V}, DenA K G vs ds → vs[i]? = some v → ∃ d, ds[i]? = some d ∧ Den K G v d
  | _, _, _, _, .nil, e => by simp at e
  | _, _, 0, _, .cons h _, e => by
    simp at e
    subst e
    exact ⟨_, rfl, h⟩
  | _, _, i + 1, _, .cons _ t, e => by
    obtain ⟨v, h1, h2⟩ := DenA.getV (i := i) t (by simpa using e)
    exact ⟨v, by simpa using h1, h2⟩
theorem DenA.take : ∀ {vs : List V} {ds : List D} (n : Nat), DenA K G vs ds → DenA K G (vs.take n) (ds.take n)
  | _, _, 0, _ => .nil
  | _, _, _ + 1, .nil => .nil
  | _, _, n + 1, .cons h t => .cons h (DenA.take n t)
theorem DenA.drop : ∀ {vs : List V} {ds : List D} (n : Nat), DenA K G vs ds → DenA K G (vs.drop n) (ds.drop n)
  | _, _, 0, h => h
  | _, _, _ + 1, .nil => .nil
  | _, _, n + 1, .cons _ t => DenA.drop n t
theorem DenA.set : ∀ {vs : List V} {ds : List D} (n : Nat) {v : V} {d : D}, DenA K G vs ds → Den K G v d → DenA K G (vs.set n v) (ds.set n d)
  | _, _, _, _, _, .nil, _ => .nil
  | _, _, 0, _, _, .cons _ t, h => .cons h t
  | _, _, n + 1, _, _, .cons h t, h2 => .cons h (DenA.set n t h2)
theorem DenA.snoc {vs : List V} {ds : List D} {v : V} {d : D} (h : DenA K G vs ds) (h2 : Den K G v d) : DenA K G (vs ++ [v]) (ds ++ [d]) := h.app (.cons h2 .nil)
theorem DenA.ints : ∀ (ns : List Int), DenA K G (ns.map V.int) (ns.map D.int)
  | [] => .nil
  | n :: ns => .cons (.int n) (DenA.ints ns)
end
/-! ### slots -/
/-- a def's slot: none, a value that stays, a thing that the frame alone holds (and may change), the thing that the caller lent -/
inductive Sl where
  | un | fz (d : D) | ow (d : D) | bw (d : D)
def Sl.z : Sl → D
  | .un => .non
  | .fz d => d
  | .ow d => d
  | .bw d => d
/-- where a def stands: the written part, what must stay, what is the callers' own, what they lent -/
structure Bs where
  K : PySem.W.Frag
  B : Hp
  N : Addr → Prop
  p : Option Addr
/-- at p a thing of the frame's own -/
inductive OwnAt (K : PySem.W.Frag) (G H : Hp) (p : Addr) : D → Prop
  | lst {vs : List V} {ds : List D} : H p = some (.lst vs) → DenA K G vs ds → OwnAt K G H p (.lst ds)
theorem OwnAt.same {K : PySem.W.Frag} {G G' H H' : Hp} {p : Addr} {d : D} (h : OwnAt K G H p d) (e : Same G G') (k : ∀ o, H p = some o → H' p = some o) : OwnAt K G' H' p d := by
  cases h with
  | lst h1 h2 => exact .lst (k _ h1) (h2.same e)
theorem OwnAt.some {K : PySem.W.Frag} {G H : Hp} {p : Addr} {d : D} (h : OwnAt K G H p d) : ∃ o, H p = some o := by
  cases h with
  | lst h1 h2 => exact ⟨_, h1⟩
def AtS (b : Bs) (G H : Hp) (x : Option V) : Sl → Prop
  | .un => True
  | .fz d => ∃ v, x = some v ∧ Den b.K G v d
  | .ow d => ∃ p, x = some (.ref p) ∧ G p = none ∧ b.B p = none ∧ ¬ b.N p ∧ OwnAt b.K G H p d
  | .bw d => ∃ p, b.p = some p ∧ x = some (.ref p) ∧ OwnAt b.K G H p d
/-- the slots as data: G the part of the heap that stays -/
structure Sr (b : Bs) (G H : Hp) (σ : L2.St) (ρ : List Sl) : Prop where
  gh : Same G H
  bh : Same b.B H
  gn : ∀ a, b.N a → G a = none
  nh : ∀ a, b.N a → ∃ o, H a = some o
  bp : ∀ p, b.p = some p → b.N p ∧ b.B p = none
  one : ∀ (i j : Nat) (d e : D), ρ[i]? = some (Sl.bw d) → ρ[j]? = some (Sl.bw e) → i = j
  len : σ.length = ρ.length
  at_ : ∀ (i : Nat) (x : Option V) (s : Sl), σ[i]? = some x → ρ[i]? = some s → AtS b G H x s
  dis : ∀ (i j : Nat) (p q : Addr) (d e : D), i ≠ j → σ[i]? = some (some (.ref p)) → σ[j]? = some (some (.ref q)) → ρ[i]? = some (Sl.ow d) → ρ[j]? = some (Sl.ow e) → p ≠ q
/-- more is laid, all stays; what was the frame's own is not taken -/
structure Grow (G H G' H' : Hp) : Prop where
  g : Same G G'
  h : Same H H'
  gh : Same G' H'
  n : ∀ a o, H a = some o → G a = none → G' a = none
theorem Grow.refl {G H : Hp} (e : Same G H) : Grow G H G H := ⟨L2.Same.refl G, L2.Same.refl H, e, fun _ _ _ h => h⟩
theorem Grow.trans {G H G1 H1 G2 H2 : Hp} (a : Grow G H G1 H1) (b : Grow G1 H1 G2 H2) : Grow G H G2 H2 :=
  ⟨L2.Same.trans a.g b.g, L2.Same.trans a.h b.h, b.gh, fun x o h1 h2 => b.n x o (a.h x o h1) (a.n x o h1 h2)⟩
theorem AtS.grow {b : Bs} {G H G' H' : Hp} (g : Grow G H G' H') : ∀ {s : Sl} {x : Option V}, AtS b G H x s → AtS b G' H' x s
  | .un, _, _ => trivial
  | .fz d, _, ⟨v, e, k⟩ => ⟨v, e, k.same g.g⟩
  | .ow d, _, ⟨p, e, g1, b1, n1, o⟩ => ⟨p, e, by
      obtain ⟨u, hu⟩ := o.some
      exact g.n p u hu g1, b1, n1, o.same g.g fun u hu => g.h p u hu⟩
  | .bw d, _, ⟨p, ep, e, o⟩ => ⟨p, ep, e, o.same g.g fun u hu => g.h _ u hu⟩
theorem Sr.grow {b : Bs} {G H G' H' : Hp} {σ : L2.St} {ρ : List Sl} (S : Sr b G H σ ρ) (g : Grow G H G' H') : Sr b G' H' σ ρ where
  gh := g.gh
  bh := L2.Same.trans S.bh g.h
  gn := fun a n => by
    obtain ⟨o, h⟩ := S.nh a n
    exact g.n a o h (S.gn a n)
  nh := fun a n => by
    obtain ⟨o, h⟩ := S.nh a n
    exact ⟨o, g.h a o h⟩
  bp := S.bp
  one := S.one
  len := S.len
  at_ := fun i x s h1 h2 => (S.at_ i x s h1 h2).grow g
  dis := S.dis
/-- a value on top -/
theorem Sr.push {b : Bs} {G H : Hp} {σ : L2.St} {ρ : List Sl} (S : Sr b G H σ ρ) {v : V} {d : D} (h : Den b.K G v d) : Sr b G H (some v :: σ) (.fz d :: ρ) where
  gh := S.gh
  bh := S.bh
  gn := S.gn
  nh := S.nh
  bp := S.bp
  one := fun i j d e h1 h2 => by
    cases i with
    | zero => cases h1
    | succ i =>
      cases j with
      | zero => cases h2
      | succ j => exact congrArg (· + 1) (S.one i j d e h1 h2)
  len := congrArg (· + 1) S.len
  at_ := fun i x s h1 h2 => by
    cases i with
    | zero =>
      cases h1
      cases h2
      exact ⟨v, rfl, h⟩
    | succ i => exact S.at_ i x s h1 h2
  dis := fun i j p q d' e n h1 h2 h3 h4 => by
    cases i with
    | zero => cases h3
    | succ i =>
      cases j with
      | zero => cases h4
      | succ j => exact S.dis i j p q d' e (fun z => n (congrArg (· + 1) z)) h1 h2 h3 h4
/-- a new thing of the frame's own on top -/
theorem Sr.pushO {b : Bs} {G H H' : Hp} {σ : L2.St} {ρ : List Sl} (S : Sr b G H σ ρ) {p : Addr} {d : D} (n : H p = none) (s : Same H H') (h : OwnAt b.K G H' p d) : Sr b G H' (some (.ref p) :: σ) (.ow d :: ρ) := by
  have gp : G p = none := by
    cases e : G p with
    | none => rfl
    | some o =>
      rw [S.gh p o e] at n
      cases n
  have bp : b.B p = none := by
    cases e : b.B p with
    | none => rfl
    | some o =>
      rw [S.bh p o e] at n
      cases n
  have np : ¬ b.N p := fun z => by
    obtain ⟨o, e⟩ := S.nh p z
    rw [e] at n
    cases n
  have g : Grow G H G H' := ⟨L2.Same.refl G, s, L2.Same.trans S.gh s, fun _ _ _ h => h⟩
  have T := S.grow g
  refine ⟨T.gh, T.bh, T.gn, T.nh, T.bp, fun i j d e h1 h2 => by
      cases i with
      | zero => cases h1
      | succ i =>
        cases j with
        | zero => cases h2
        | succ j => exact congrArg (· + 1) (T.one i j d e h1 h2), congrArg (· + 1) T.len, fun i x s h1 h2 => ?_, fun i j q r d' e ne h1 h2 h3 h4 => ?_⟩
  · cases i with
    | zero =>
      cases h1
      cases h2
      exact ⟨p, rfl, gp, bp, np, h⟩
    | succ i => exact T.at_ i x s h1 h2
  · -- an older one of the frame's own stood in H
    have old : ∀ (k : Nat) (r : Addr) (e : D), σ[k]? = some (some (.ref r)) → ρ[k]? = some (Sl.ow e) → r ≠ p := fun k r e a1 a2 z => by
      obtain ⟨r', e1, _, _, _, o⟩ := S.at_ k _ _ a1 a2
      cases e1
      obtain ⟨u, hu⟩ := o.some
      rw [z, n] at hu
      cases hu
    cases i with
    | zero =>
      cases h1
      cases j with
      | zero => exact absurd rfl ne
      | succ j => exact (old j r e h2 h4).symm
    | succ i =>
      cases j with
      | zero =>
        cases h2
        exact old i q d' h1 h3
      | succ j => exact T.dis i j q r d' e (fun z => ne (congrArg (· + 1) z)) h1 h2 h3 h4
theorem Sr.pop {b : Bs} {G H : Hp} {σ : L2.St} {ρ : List Sl} {x : Option V} {s : Sl} (S : Sr b G H (x :: σ) (s :: ρ)) : Sr b G H σ ρ where
  gh := S.gh
  bh := S.bh
  gn := S.gn
  nh := S.nh
  bp := S.bp
  one := fun i j d e h1 h2 => Nat.succ.inj (S.one (i + 1) (j + 1) d e h1 h2)
  len := Nat.succ.inj S.len
  at_ := fun i x s h1 h2 => S.at_ (i + 1) x s h1 h2
  dis := fun i j p q d e n h1 h2 h3 h4 => S.dis (i + 1) (j + 1) p q d e (fun z => n (Nat.succ.inj z)) h1 h2 h3 h4
theorem Sr.top {b : Bs} {G H : Hp} {σ : L2.St} {ρ : List Sl} {x : Option V} {s : Sl} (S : Sr b G H (x :: σ) (s :: ρ)) : AtS b G H x s := S.at_ 0 x s rfl rfl
/-- a thing of the frame's own becomes one that stays -/
theorem own_freeze {K : PySem.W.Frag} {G H : Hp} {p : Addr} {d : D} (gh : Same G H) (gp : G p = none) (o : OwnAt K G H p d) : ∃ G', Same G G' ∧ Same G' H ∧ Den K G' (.ref p) d ∧ (∀ a, a ≠ p → G' a = G a) := by
  cases o with
  | @lst vs ds h1 h2 =>
    refine ⟨upd G p (.lst vs), Same.new gp, fun a u e => ?_, .lst upd_same (h2.same (Same.new gp)), fun a n => upd_ne n⟩
    by_cases ha : a = p
    · subst ha
      rw [upd_same] at e
      cases e
      exact h1
    · rw [upd_ne ha] at e
      exact gh a u e
theorem set_bw {ρ : List Sl} {i j : Nat} {s : Sl} {d : D} (h : (ρ.set i s)[j]? = some (Sl.bw d)) (n : ∀ d, s ≠ .bw d := by intro d z; cases z) : ρ[j]? = some (Sl.bw d) := by
  rw [List.getElem?_set] at h
  split at h
  · split at h
    · exact absurd (Option.some.inj h) (n d)
    · cases h
  · exact h
/-- the slot at i frozen -/
theorem Sr.freeze {b : Bs} {G H : Hp} {σ : L2.St} {ρ : List Sl} (S : Sr b G H σ ρ) {i : Nat} {d : D} {p : Addr} (hi : ρ[i]? = some (Sl.ow d)) (hs : σ[i]? = some (some (.ref p))) :
    ∃ G', Same G G' ∧ Sr b G' H σ (ρ.set i (.fz d)) ∧ Den b.K G' (.ref p) d := by
  obtain ⟨p', e, gp, bp, np, o⟩ := S.at_ i _ _ hs hi
  cases e
  obtain ⟨G', g1, g2, k, out⟩ := own_freeze S.gh gp o
  have il : i < ρ.length := (List.getElem?_eq_some_iff.mp hi).1
  refine ⟨G', g1, ⟨g2, S.bh, fun a n => ?_, S.nh, S.bp, fun j k d' e h1 h2 => S.one j k d' e (set_bw h1) (set_bw h2), by rw [List.length_set]; exact S.len, fun j x s h1 h2 => ?_, fun j k' q r d' e ne h1 h2 h3 h4 => ?_⟩, k⟩
  · rw [out a fun z => np (z ▸ n)]
    exact S.gn a n
  · rw [List.getElem?_set] at h2
    split at h2
    · rename_i e
      subst e
      first | (rw [if_pos il] at h2; cases h2) | cases h2
      rw [hs] at h1
      cases h1
      exact ⟨_, rfl, k⟩
    · rename_i e
      have z := S.at_ j x s h1 h2
      cases s with
      | un => trivial
      | fz d' =>
        obtain ⟨v, e1, k1⟩ := z
        exact ⟨v, e1, k1.same g1⟩
      | ow d' =>
        obtain ⟨q, e1, gq, bq, nq, oq⟩ := z
        subst e1
        have ne : q ≠ p := fun z => S.dis i j p q d d' e hs h1 hi h2 z.symm
        exact ⟨q, rfl, by rw [out q ne]; exact gq, bq, nq, oq.same g1 fun _ h => h⟩
      | bw d' =>
        obtain ⟨q, ep, e1, oq⟩ := z
        exact ⟨q, ep, e1, oq.same g1 fun _ h => h⟩
  · rw [List.getElem?_set] at h3 h4
    split at h3
    · first | (rw [if_pos il] at h3; cases h3) | cases h3
    · split at h4
      · first | (rw [if_pos il] at h4; cases h4) | cases h4
      · exact S.dis j k' q r d' e ne h1 h2 h3 h4
end DL

set_option Elab.async false
set_option linter.all false
set_option autoImplicit false
set_option maxRecDepth 100000
set_option maxHeartbeats 4000000
/-! the mirror layer's judgements: what a part of a def comes to, its slots as data -/
namespace DL
open PySem PySem.Spec PyProof.Rows L2 LK
abbrev DS := List Sl
inductive Vl where
  | fz (d : D) | ow (d : D)
def Vl.s : Vl → Sl
  | .fz d => .fz d
  | .ow d => .ow d
def Vl.z : Vl → D
  | .fz d => d
  | .ow d => d
inductive RS (α : Type) where
  | ok (a : α) (ρ : DS) | err (c : Str) (fs : List (Str × D)) (ρ : DS) | bad
def RS.bind {α β : Type} (r : RS α) (f : α → DS → RS β) : RS β := match r with
  | .ok a ρ => f a ρ
  | .err c fs ρ => .err c fs ρ
  | .bad => .bad
def RS.of {α : Type} (o : Option α) (ρ : DS) : RS α := match o with
  | some a => .ok a ρ
  | none => .bad
def RS.res {α : Type} (r : Res α) (ρ : DS) : RS α := match r with
  | .ok a => .ok a ρ
  | .err c fs => .err c fs ρ
  | .bad => .bad
abbrev DE := DS → RS Vl
abbrev DA := DS → RS (List D)
abbrev DT := DS → RS Bool
inductive Fl where
  | nx | rt (r : Vl) | bk | ct
abbrev DC := DS → RS Fl
/-- an error as it flies: its class, its own dict -/
inductive XAt (K : PySem.W.Frag) (G : Hp) : Str → List (Str × D) → Value → Option Addr → Prop
  | no {c : Str} : XAt K G c [] (.ref (He.ga K c)) none
  | fs {c : Str} {dd : Addr} {ns : List Str} {xs : List V} {ds : List D} : G dd = some (.xd (ns.zip xs)) → ns.length = xs.length → DenA K G xs ds → XAt K G c (ns.zip ds) (.ref (He.ga K c)) (some dd)
/-- what is wished of errors, by the slots -/
abbrev XW := L2.St → XK
def Wp {α : Type} (b : Bs) (E : XW) (σ : L2.St) (G : Hp) (o : RS α) (R : α → DS → Prop) : Prop := match o with
  | .ok a ρ => R a ρ
  | .err c fs ρ => ∀ cls dd G' H', Sr b G' H' σ ρ → Same G G' → XAt b.K G' c fs cls dd → E σ cls dd H'
  | .bad => False
theorem Wp.bind {α β : Type} {b : Bs} {E : XW} {σ : L2.St} {G : Hp} {o : RS α} {f : α → DS → RS β} {R : β → DS → Prop} (h : Wp b E σ G (o.bind f) R) : Wp b E σ G o fun a ρ => Wp b E σ G (f a ρ) R := by
  cases o <;> exact h
theorem Wp.mono {α : Type} {b : Bs} {E : XW} {σ : L2.St} {G G1 : Hp} {o : RS α} {R R' : α → DS → Prop} (h : Wp b E σ G o R) (e : Same G G1) (f : ∀ a ρ, R a ρ → R' a ρ) : Wp b E σ G1 o R' := by
  cases o with
  | ok a ρ => exact f _ _ h
  | err c fs ρ => exact fun cls dd G' H' S s x => h cls dd G' H' S (L2.Same.trans e s) x
  | bad => exact h
theorem Wp.of {α : Type} {b : Bs} {E : XW} {σ : L2.St} {G : Hp} {o : Option α} {ρ : DS} {R : α → DS → Prop} (h : Wp b E σ G (RS.of o ρ) R) : ∃ a, o = some a ∧ R a ρ := by
  cases o with
  | none => exact h.elim
  | some a => exact ⟨a, rfl, h⟩
def tW (b : Bs) (E : XW) (f : DE) : TE := fun σ H Q => ∃ G ρ, Sr b G H σ ρ ∧ Wp b E σ G (f ρ) fun r ρ' => ∀ x G' H', Sr b G' H' (some x :: σ) (r.s :: ρ') → Same G G' → Q x H'
def tD (b : Bs) (E : XW) (f : DE) : TE := fun σ H Q => ∃ G ρ, Sr b G H σ ρ ∧ Wp b E σ G (f ρ) fun r ρ' => ∀ x G' H', Sr b G' H' σ ρ' → Same G G' → Den b.K G' x r.z → Q x H'
def tA (b : Bs) (E : XW) (f : DA) : TA := fun σ H Q => ∃ G ρ, Sr b G H σ ρ ∧ Wp b E σ G (f ρ) fun ds ρ' => ∀ xs G' H', Sr b G' H' σ ρ' → Same G G' → DenA b.K G' xs ds → Q xs H'
def tT (b : Bs) (E : XW) (f : DT) : TT := fun σ H Q => ∃ G ρ, Sr b G H σ ρ ∧ Wp b E σ G (f ρ) fun c ρ' => ∀ G' H', Sr b G' H' σ ρ' → Same G G' → Q c H'
/-- a value frozen -/
theorem Sr.z {b : Bs} {G H : Hp} {σ : L2.St} {ρ : DS} {x : V} {r : Vl} (S : Sr b G H (some x :: σ) (r.s :: ρ)) : ∃ G', Same G G' ∧ Sr b G' H σ ρ ∧ Den b.K G' x r.z := by
  cases r with
  | fz d =>
    obtain ⟨v, e, k⟩ := S.top
    cases e
    exact ⟨G, L2.Same.refl G, S.pop, k⟩
  | ow d =>
    obtain ⟨p, e, _⟩ := S.top
    cases e
    obtain ⟨G', g, S', k⟩ := S.freeze (i := 0) rfl rfl
    exact ⟨G', g, S'.pop, k⟩
section
variable {X : Cx} {b : Bs} {E : XW} {e : Expr} {f : DE}
theorem pe_z (h : PE X e (tW b E f)) : PE X e (tD b E f) := PE.imp h fun σ H Q ⟨G, ρ, S, w⟩ => ⟨G, ρ, S, w.mono (L2.Same.refl G) fun r ρ' q x G' H' S' s => by
  obtain ⟨G2, s2, S2, k⟩ := S'.z
  exact q x G2 H' S2 (L2.Same.trans s s2) k⟩
theorem pe_w (h : PE X e (tD b E f)) (fz : ∀ ρ r ρ', f ρ = .ok r ρ' → ∃ d, r = .fz d) : PE X e (tW b E f) := PE.imp h fun σ H Q ⟨G, ρ, S, w⟩ => ⟨G, ρ, S, by
  cases eo : f ρ with
  | ok r ρ' =>
    rw [eo] at w
    obtain ⟨d, rfl⟩ := fz _ _ _ eo
    exact fun x G' H' S' s k => w x G' H' (S'.push k) s
  | err c fs ρ' =>
    rw [eo] at w
    exact w
  | bad =>
    rw [eo] at w
    exact w⟩
end
/-! ### what an operation by values gives -/
def Cn (K : PySem.W.Frag) (G H : Hp) (r : Vl) (Q : VK) : Prop := match r with
  | .fz z => ∀ v G' H', Grow G H G' H' → Den K G' v z → Q v H'
  | .ow z => ∀ p G' H', Grow G H G' H' → H p = none → G' p = none → OwnAt K G' H' p z → Q (.ref p) H'
theorem Sr.pushG {b : Bs} {G H G' H' : Hp} {σ : L2.St} {ρ : DS} (S : Sr b G H σ ρ) (g : Grow G H G' H') {p : Addr} {d : D} (n : H p = none) (gp : G' p = none) (h : OwnAt b.K G' H' p d) : Sr b G' H' (some (.ref p) :: σ) (.ow d :: ρ) := by
  have bp : b.B p = none := by
    cases e : b.B p with
    | none => rfl
    | some o =>
      rw [S.bh p o e] at n
      cases n
  have np : ¬ b.N p := fun z => by
    obtain ⟨o, e⟩ := S.nh p z
    rw [e] at n
    cases n
  have T := S.grow g
  refine ⟨T.gh, T.bh, T.gn, T.nh, T.bp, fun i j d e h1 h2 => by
      cases i with
      | zero => cases h1
      | succ i =>
        cases j with
        | zero => cases h2
        | succ j => exact congrArg (· + 1) (T.one i j d e h1 h2), congrArg (· + 1) T.len, fun i x s h1 h2 => ?_, fun i j q r d' e ne h1 h2 h3 h4 => ?_⟩
  · cases i with
    | zero =>
      cases h1
      cases h2
      exact ⟨p, rfl, gp, bp, np, h⟩
    | succ i => exact T.at_ i x s h1 h2
  · have old : ∀ (k : Nat) (r : Addr) (e : D), σ[k]? = some (some (.ref r)) → ρ[k]? = some (Sl.ow e) → r ≠ p := fun k r e a1 a2 z => by
      obtain ⟨r', e1, _, _, _, o⟩ := S.at_ k _ _ a1 a2
      cases e1
      obtain ⟨u, hu⟩ := o.some
      rw [z, n] at hu
      cases hu
    cases i with
    | zero =>
      cases h1
      cases j with
      | zero => exact absurd rfl ne
      | succ j => exact (old j r e h2 h4).symm
    | succ i =>
      cases j with
      | zero =>
        cases h2
        exact old i q d' h1 h3
      | succ j => exact T.dis i j q r d' e (fun z => ne (congrArg (· + 1) z)) h1 h2 h3 h4
theorem Cn.of {b : Bs} {G H : Hp} {σ : L2.St} {ρ : DS} {r : Vl} {Q : VK} (S : Sr b G H σ ρ) (h : ∀ x G' H', Sr b G' H' (some x :: σ) (r.s :: ρ) → Same G G' → Q x H') : Cn b.K G H r Q := by
  cases r with
  | fz z => exact fun v G' H' g k => h v G' H' ((S.grow g).push k) g.g
  | ow z => exact fun p G' H' g n gp k => h _ G' H' (S.pushG g n gp k) g.g
theorem Cn.now {K : PySem.W.Frag} {G H : Hp} {z : D} {Q : VK} {v : V} (h : Cn K G H (.fz z) Q) (e : Same G H) (k : Den K G v z) : Q v H := h v G H (Grow.refl e) k
theorem Grow.own {G H H' : Hp} (e : Same G H) (s : Same H H') : Grow G H G H' := ⟨L2.Same.refl G, s, L2.Same.trans e s, fun _ _ _ h => h⟩
theorem free_of {G H : Hp} {p : Addr} (e : Same G H) (n : H p = none) : G p = none := by
  cases q : G p with
  | none => rfl
  | some o =>
    rw [e p o q] at n
    cases n
theorem Cn.newL {K : PySem.W.Frag} {G H H' : Hp} {ds : List D} {vs : List V} {Q : VK} {p : Addr} (h : Cn K G H (.ow (.lst ds)) Q) (e : Same G H) (n : H p = none) (s : Same H H') (l : H' p = some (.lst vs)) (k : DenA K G vs ds) : Q (.ref p) H' :=
  h p G H' (Grow.own e s) n (free_of e n) (.lst l k)
/-- a new thing that stays -/
theorem Grow.lay {G H H' : Hp} {p : Addr} {o : HO} (e : Same G H) (n : H p = none) (s : Same H H') (l : H' p = some o) : Grow G H (upd G p o) H' := by
  refine ⟨Same.new (free_of e n), s, fun a u z => ?_, fun a u z1 z2 => ?_⟩
  · by_cases ha : a = p
    · subst ha
      rw [upd_same] at z
      cases z
      exact l
    · rw [upd_ne ha] at z
      exact s a u (e a u z)
  · by_cases ha : a = p
    · subst ha
      rw [n] at z1
      cases z1
    · rw [upd_ne ha]
      exact z2
theorem Cn.newT {K : PySem.W.Frag} {G H H' : Hp} {ds : List D} {vs : List V} {Q : VK} {p : Addr} (h : Cn K G H (.fz (.tup ds)) Q) (e : Same G H) (n : H p = none) (s : Same H H') (l : H' p = some (.tup vs)) (k : DenA K G vs ds) : Q (.ref p) H' :=
  h _ _ _ (Grow.lay e n s l) (.tup (.inl (.inl upd_same)) (k.same (Same.new (free_of e n))))
/-! ### operators, calls, by values -/
def Op2 (K : PySem.W.Frag) (r : R2) (f : D → D → Option Vl) : Prop := ∀ G H x y a c z Q, Same G H → Den K G x a → Den K G y c → f a c = some z → Cn K G H z Q → r x y H Q
def Op1 (K : PySem.W.Frag) (r : V → Hp → VK → Prop) (f : D → Option Vl) : Prop := ∀ G H x a z Q, Same G H → Den K G x a → f a = some z → Cn K G H z Q → r x H Q
def OpN (K : PySem.W.Frag) (r : List V → Hp → VK → Prop) (f : List D → Option Vl) : Prop := ∀ G H xs ds z Q, Same G H → DenA K G xs ds → f ds = some z → Cn K G H z Q → r xs H Q
def OpM (K : PySem.W.Frag) (r : V → List V → Hp → VK → Prop) (f : D → List D → Option Vl) : Prop := ∀ G H x xs a ds z Q, Same G H → Den K G x a → DenA K G xs ds → f a ds = some z → Cn K G H z Q → r x xs H Q
def dOp2 (f : D → D → Option Vl) (fa fb : DE) : DE := fun ρ => (fa ρ).bind fun a ρ1 => (fb ρ1).bind fun c ρ2 => RS.of (f a.z c.z) ρ2
def dOp1 (f : D → Option Vl) (fa : DE) : DE := fun ρ => (fa ρ).bind fun a ρ1 => RS.of (f a.z) ρ1
def dOpN (f : List D → Option Vl) (fa : DA) : DE := fun ρ => (fa ρ).bind fun a ρ1 => RS.of (f a) ρ1
def dNil : DA := fun ρ => .ok [] ρ
def dCons (fa : DE) (fs : DA) : DA := fun ρ => (fa ρ).bind fun a ρ1 => (fs ρ1).bind fun ds ρ2 => .ok (a.z :: ds) ρ2
def dC (d : D) : DE := fun ρ => .ok (.fz d) ρ
section
variable {X : Cx} {b : Bs} {E : XW} {e e1 e2 : Expr} {es : List Expr} {fa fb : DE} {fs : DA} {pos : Pos}
/-- two in a row -/
theorem rd2 {r : R2} {f : D → D → Option Vl} (hf : Op2 b.K r f) : ∀ σ H Q, tW b E (dOp2 f fa fb) σ H Q → tOp r (tD b E fa) (tD b E fb) σ H Q := fun σ H Q ⟨G, ρ, S, w⟩ =>
  ⟨G, ρ, S, w.bind.mono (L2.Same.refl G) fun a ρ1 w1 x G1 H1 S1 s1 k1 => ⟨G1, ρ1, S1, w1.bind.mono s1 fun c ρ2 w2 y G2 H2 S2 s2 k2 => by
    obtain ⟨z, ez, q⟩ := w2.of
    exact hf G2 H2 x y _ _ z Q S2.gh (k1.same s2) k2 ez (Cn.of S2 fun v G3 H3 S3 s3 => q v G3 H3 S3 (L2.Same.trans s1 (L2.Same.trans s2 s3)))⟩⟩
theorem d_op2 {op : Operator} {r : R2} {f : D → D → Option Vl} (ho : OpR X (binaryOp op) r) (hf : Op2 b.K r f) (ha : PE X e1 (tW b E fa)) (hb : PE X e2 (tW b E fb)) : PE X (.BinOp e1 op e2 pos) (tW b E (dOp2 f fa fb)) :=
  PE.imp (pe_op ho (pe_z ha) (pe_z hb)) (rd2 hf)
theorem d_cmp {op : CmpOp} {r : R2} {f : D → D → Option Vl} (ho : OpR X (compareOp op) r) (hf : Op2 b.K r f) (ha : PE X e1 (tW b E fa)) (hb : PE X e2 (tW b E fb)) (hm : behindInMarks op e2 = false) : PE X (.Compare e1 [op] [e2] pos) (tW b E (dOp2 f fa fb)) :=
  PE.imp (pe_cmpR ho (pe_z ha) (pe_z hb) hm) (rd2 hf)
theorem d_ix {r : R2} {f : D → D → Option Vl} (hr : IxR X r) (hf : Op2 b.K r f) (ha : PE X e1 (tW b E fa)) (hb : PE X e2 (tW b E fb)) (hs : PlainIx e2) : PE X (.Subscript e1 e2 pos) (tW b E (dOp2 f fa fb)) :=
  PE.imp (pe_ix hr (pe_z ha) (pe_z hb) hs) (rd2 hf)
theorem d_un {op : UnaryOp} {r : V → Hp → VK → Prop} {f : D → Option Vl} (ho : UnR X (unaryOp op) r) (hf : Op1 b.K r f) (ha : PE X e1 (tW b E fa)) : PE X (.UnaryOp op e1 pos) (tW b E (dOp1 f fa)) :=
  PE.imp (pe_un ho (pe_z ha)) fun σ H Q ⟨G, ρ, S, w⟩ => ⟨G, ρ, S, w.bind.mono (L2.Same.refl G) fun a ρ1 w1 x G1 H1 S1 s1 k1 => by
    obtain ⟨z, ez, q⟩ := w1.of
    exact hf G1 H1 x _ z Q S1.gh k1 ez (Cn.of S1 fun v G3 H3 S3 s3 => q v G3 H3 S3 (L2.Same.trans s1 s3))⟩
/-! constants -/
theorem rdC {v : V} {d : D} (k : ∀ G, Den b.K G v d) : ∀ σ H Q, tW b E (dC d) σ H Q → tC v σ H Q := fun σ H Q ⟨G, ρ, S, w⟩ => w v G H (S.push (k G)) (L2.Same.refl G)
theorem d_int {i : Int} {j : Nat} : PE X (.Constant (.int i) j pos) (tW b E (dC (.int i))) := PE.imp pe_int (rdC fun G => .int i)
theorem d_bl {c : Bool} {j : Nat} : PE X (.Constant (.bool c) j pos) (tW b E (dC (.bl c))) := PE.imp pe_bl (rdC fun G => .bl c)
theorem d_non {j : Nat} : PE X (.Constant .none j pos) (tW b E (dC .non)) := PE.imp pe_non (rdC fun G => .non)
theorem d_str {x : Str} {w : List Nat} {j : Nat} (h : x = toS w) : PE X (.Constant (.str x) j pos) (tW b E (dC (.str w))) := h ▸ PE.imp pe_str (rdC fun G => .str w)
/-! argument lists -/
theorem d_nil : PA X [] (tA b E dNil) := ⟨fun p pins s σ H Q I ⟨G, ρ, S, w⟩ => pa_nil.run p pins s σ H Q I (w [] G H S (L2.Same.refl G) .nil)⟩
theorem PA.imp {es : List Expr} {t t' : TA} (h : PA X es t) (i : ∀ σ H Q, t' σ H Q → t σ H Q) : PA X es t' := ⟨fun p pins s σ H Q I q => h.run p pins s σ H Q I (i σ H Q q)⟩
theorem d_cons (ha : PE X e (tW b E fa)) (hr : PA X es (tA b E fs)) (hs : starEach (e :: es) X.env = (false, eval e X.env) :: starEach es X.env := by rfl) : PA X (e :: es) (tA b E (dCons fa fs)) :=
  PA.imp (pa_cons (pe_z ha) hr hs) fun σ H Q ⟨G, ρ, S, w⟩ => ⟨G, ρ, S, w.bind.mono (L2.Same.refl G) fun a ρ1 w1 x G1 H1 S1 s1 k1 => ⟨G1, ρ1, S1, w1.bind.mono s1 fun ds ρ2 w2 ys G2 H2 S2 s2 k2 =>
    w2 (x :: ys) G2 H2 S2 (L2.Same.trans s1 s2) (.cons (k1.same s2) k2)⟩⟩
/-! calls of built-ins by name, methods -/
theorem rdN {r : List V → Hp → VK → Prop} {f : List D → Option Vl} (hf : OpN b.K r f) : ∀ σ H Q, tW b E (dOpN f fs) σ H Q → tCB r (tA b E fs) σ H Q := fun σ H Q ⟨G, ρ, S, w⟩ =>
  ⟨G, ρ, S, w.bind.mono (L2.Same.refl G) fun a ρ1 w1 xs G1 H1 S1 s1 k1 => by
    obtain ⟨z, ez, q⟩ := w1.of
    exact hf G1 H1 xs _ z Q S1.gh k1 ez (Cn.of S1 fun v G3 H3 S3 s3 => q v G3 H3 S3 (L2.Same.trans s1 s3))⟩
/-! displays -/
def fLst (ds : List D) : Option Vl := if ds.length ≤ sizeLine then some (.ow (.lst ds)) else none
def fTup (ds : List D) : Option Vl := if ds.length ≤ sizeLine then some (.fz (.tup ds)) else none
theorem d_lst (h : PA X es (tA b E fs)) : PE X (.List es pos) (tW b E (dOpN fLst fs)) := PE.imp (pe_lstS (paUp h)) fun σ H Q ⟨G, ρ, S, w⟩ =>
  ⟨fun xs H1 => xs.length ≤ sizeLine ∧ NewO H1 (.lst xs) Q, ⟨G, ρ, S, w.bind.mono (L2.Same.refl G) fun a ρ1 w1 xs G1 H1 S1 s1 k1 => by
    obtain ⟨z, ez, q⟩ := w1.of
    unfold fLst at ez
    split at ez
    · rename_i hl
      cases ez
      refine ⟨by rw [k1.len]; exact hl, fun p H2 n s l => ?_⟩
      exact (Cn.of (r := .ow (.lst a)) S1 fun v G3 H3 S3 s3 => q v G3 H3 S3 (L2.Same.trans s1 s3) : Cn b.K G1 H1 (.ow (.lst a)) Q).newL S1.gh n s l k1
    · cases ez⟩, fun _ _ z => z⟩
theorem d_tup {kk : Nat} (h : PA X es (tA b E fs)) : PE X (.Tuple es kk pos) (tW b E (dOpN fTup fs)) := PE.imp (pe_tupS (paUp h)) fun σ H Q ⟨G, ρ, S, w⟩ =>
  ⟨fun xs H1 => xs.length ≤ sizeLine ∧ NewO H1 (.tup xs) Q, ⟨G, ρ, S, w.bind.mono (L2.Same.refl G) fun a ρ1 w1 xs G1 H1 S1 s1 k1 => by
    obtain ⟨z, ez, q⟩ := w1.of
    unfold fTup at ez
    split at ez
    · rename_i hl
      cases ez
      refine ⟨by rw [k1.len]; exact hl, fun p H2 n s l => ?_⟩
      exact (Cn.of (r := .fz (.tup a)) S1 fun v G3 H3 S3 s3 => q v G3 H3 S3 (L2.Same.trans s1 s3) : Cn b.K G1 H1 (.fz (.tup a)) Q).newT S1.gh n s l k1
    · cases ez⟩, fun _ _ z => z⟩
end
end DL

set_option Elab.async false
set_option linter.all false
set_option autoImplicit false
set_option maxRecDepth 100000
set_option maxHeartbeats 4000000
/-! the mirror layer: slots stored, tests, statements, loops, comprehensions -/
namespace DL
open PySem PySem.Spec PyProof.Rows L2 LK
/-! ### slots -/
theorem Sr.put {b : Bs} {G H : Hp} {σ : L2.St} {ρ : DS} {x : V} {r : Vl} (S : Sr b G H (some x :: σ) (r.s :: ρ)) (i : Nat) : Sr b G H (σ.set i (some x)) (ρ.set i r.s) := by
  have nb : ∀ d, r.s ≠ Sl.bw d := fun d z => by cases r <;> cases z
  have look : ∀ {α : Type} {l : List α} {y z : α} {j : Nat}, (l.set i y)[j]? = some z → (j = i ∧ z = y) ∨ (j ≠ i ∧ l[j]? = some z) := fun {α l y z j} h => by
    rw [List.getElem?_set] at h
    split at h
    · rename_i e
      split at h
      · exact .inl ⟨e.symm, (Option.some.inj h).symm⟩
      · cases h
    · rename_i e
      exact .inr ⟨fun z => e z.symm, h⟩
  refine ⟨S.gh, S.bh, S.gn, S.nh, S.bp, fun j k d e h1 h2 => Nat.succ.inj (S.one (j + 1) (k + 1) d e (set_bw (ρ := ρ) h1 nb) (set_bw (ρ := ρ) h2 nb)), by rw [List.length_set, List.length_set]; exact Nat.succ.inj S.len, fun j y s h1 h2 => ?_, fun j k p q d e ne h1 h2 h3 h4 => ?_⟩
  · rcases look h1 with ⟨e1, rfl⟩ | ⟨e1, h1⟩
    · rcases look h2 with ⟨_, rfl⟩ | ⟨e2, _⟩
      · exact S.at_ 0 _ _ rfl rfl
      · exact absurd e1 e2
    · rcases look h2 with ⟨e2, _⟩ | ⟨_, h2⟩
      · exact absurd e2 e1
      · exact S.at_ (j + 1) _ _ h1 h2
  · rcases look h3 with ⟨e3, h3⟩ | ⟨e3, h3⟩
    · rcases look h1 with ⟨_, h1⟩ | ⟨e1, _⟩
      · rcases look h4 with ⟨e4, _⟩ | ⟨e4, h4⟩
        · exact absurd (e3.trans e4.symm) ne
        · rcases look h2 with ⟨e2, _⟩ | ⟨_, h2⟩
          · exact absurd e2 e4
          · exact S.dis 0 (k + 1) p q d e (Nat.succ_ne_zero k).symm (congrArg some h1.symm) h2 (congrArg some h3.symm) h4
      · exact absurd e3 e1
    · rcases look h1 with ⟨e1, _⟩ | ⟨_, h1⟩
      · exact absurd e1 e3
      · rcases look h4 with ⟨e4, h4⟩ | ⟨e4, h4⟩
        · rcases look h2 with ⟨_, h2⟩ | ⟨e2, _⟩
          · exact S.dis (j + 1) 0 p q d e (Nat.succ_ne_zero j) h1 (congrArg some h2.symm) h3 (congrArg some h4.symm)
          · exact absurd e4 e2
        · rcases look h2 with ⟨e2, _⟩ | ⟨_, h2⟩
          · exact absurd e2 e4
          · exact S.dis (j + 1) (k + 1) p q d e (fun z => ne (Nat.succ.inj z)) h1 h2 h3 h4
/-- slots forgotten -/
def wipeD (ρ : DS) : List Nat → DS
  | [] => ρ
  | v :: vs => (wipeD ρ vs).set v .un
theorem Sr.un {b : Bs} {G H : Hp} {σ : L2.St} {ρ : DS} (S : Sr b G H σ ρ) (i : Nat) (x : Option V) : Sr b G H (σ.set i x) (ρ.set i .un) := by
  have look : ∀ {α : Type} {l : List α} {y z : α} {j : Nat}, (l.set i y)[j]? = some z → (j = i ∧ z = y) ∨ (j ≠ i ∧ l[j]? = some z) := fun {α l y z j} h => by
    rw [List.getElem?_set] at h
    split at h
    · rename_i e
      split at h
      · exact .inl ⟨e.symm, (Option.some.inj h).symm⟩
      · cases h
    · rename_i e
      exact .inr ⟨fun z => e z.symm, h⟩
  have old : ∀ {j : Nat} {s : Sl}, (ρ.set i .un)[j]? = some s → s ≠ .un → j ≠ i ∧ ρ[j]? = some s := fun {j s} h n => by
    rcases look h with ⟨_, h⟩ | h
    · exact absurd h n
    · exact h
  refine ⟨S.gh, S.bh, S.gn, S.nh, S.bp, fun j k d e h1 h2 => S.one j k d e (set_bw h1) (set_bw h2), by rw [List.length_set, List.length_set]; exact S.len, fun j y s h1 h2 => ?_, fun j k p q d e ne h1 h2 h3 h4 => ?_⟩
  · rcases look h2 with ⟨_, rfl⟩ | ⟨e2, h2⟩
    · trivial
    · rcases look h1 with ⟨e1, _⟩ | ⟨_, h1⟩
      · exact absurd e1 e2
      · exact S.at_ j _ _ h1 h2
  · obtain ⟨n3, h3⟩ := old h3 (fun z => by cases z)
    obtain ⟨n4, h4⟩ := old h4 (fun z => by cases z)
    rcases look h1 with ⟨e1, _⟩ | ⟨_, h1⟩
    · exact absurd e1 n3
    rcases look h2 with ⟨e2, _⟩ | ⟨_, h2⟩
    · exact absurd e2 n4
    exact S.dis j k p q d e ne h1 h2 h3 h4
theorem Sr.wipe {b : Bs} {G H : Hp} {σ : L2.St} {ρ : DS} (S : Sr b G H σ ρ) : ∀ vs : List Nat, Sr b G H (wipe σ vs) (wipeD ρ vs)
  | [] => S
  | v :: vs => (Sr.wipe S vs).un v none
theorem wipeD_len (ρ : DS) : ∀ vs : List Nat, (wipeD ρ vs).length = ρ.length
  | [] => rfl
  | v :: vs => by unfold wipeD; rw [List.length_set, wipeD_len ρ vs]
theorem wipe_at (σ : L2.St) : ∀ (vs : List Nat) (i : Nat), (L2.wipe σ vs)[i]? = if i ∈ vs then (if i < σ.length then some none else none) else σ[i]?
  | [], i => by simp [L2.wipe]
  | v :: vs, i => by
    unfold L2.wipe
    rw [List.getElem?_set, wipe_at σ vs i, wipe_length]
    by_cases h : v = i
    · subst h
      simp
    · rw [if_neg h]
      have : (i ∈ v :: vs) = (i ∈ vs) := by simp [Ne.symm h]
      simp only [this]
theorem wipeD_un (ρ : DS) : ∀ (vs : List Nat) (i : Nat) (s : Sl), i ∈ vs → (wipeD ρ vs)[i]? = some s → s = .un
  | v :: vs, i, s, hi, h => by
    unfold wipeD at h
    rw [List.getElem?_set] at h
    split at h
    · split at h
      · exact (Option.some.inj h).symm
      · cases h
    · rename_i n
      rcases List.mem_cons.mp hi with e | hi
      · exact absurd e.symm n
      · exact wipeD_un ρ vs i s hi h
/-- back from a block: the frame's own slots as they were -/
theorem Sr.unwipe {b : Bs} {G H : Hp} {σ σ' : L2.St} {ρ : DS} {vs : List Nat} (S : Sr b G H σ' (wipeD ρ vs)) (e : L2.wipe σ' vs = L2.wipe σ vs) : Sr b G H σ (wipeD ρ vs) := by
  have hl : σ'.length = σ.length := by rw [← wipe_length σ' vs, e, wipe_length]
  have at_ : ∀ i, i ∉ vs → σ'[i]? = σ[i]? := fun i hi => by
    have := congrArg (fun l : L2.St => l[i]?) e
    simp only [wipe_at, if_neg hi] at this
    exact this
  refine ⟨S.gh, S.bh, S.gn, S.nh, S.bp, S.one, hl.symm.trans S.len, fun i x s h1 h2 => ?_, fun i j p q d e ne h1 h2 h3 h4 => ?_⟩
  · by_cases hi : i ∈ vs
    · rw [wipeD_un ρ vs i s hi h2]
      trivial
    · exact S.at_ i x s (by rw [at_ i hi]; exact h1) h2
  · have hi : i ∉ vs := fun z => by cases wipeD_un ρ vs i _ z h3
    have hj : j ∉ vs := fun z => by cases wipeD_un ρ vs j _ z h4
    exact S.dis i j p q d e ne (by rw [at_ i hi]; exact h1) (by rw [at_ j hj]; exact h2) h3 h4
/-! ### names -/
def gs : DS → Nat → Sl
  | [], _ => .un
  | s :: _, 0 => s
  | _ :: ρ, n + 1 => gs ρ n
theorem gs_at : ∀ {ρ : DS} {i : Nat} {s : Sl}, gs ρ i = s → s ≠ .un → ρ[i]? = some s
  | [], _, _, h, n => absurd h.symm n
  | _ :: _, 0, _, h, _ => congrArg some h
  | _ :: ρ, i + 1, _, h, n => gs_at (ρ := ρ) (i := i) h n
def dVar (i : Nat) : DE := fun ρ => match gs ρ i with
  | .fz d => .ok (.fz d) ρ
  | .ow d => .ok (.fz d) (ρ.set i (.fz d))
  | _ => .bad
/-- handed on, the slot no more -/
def dMov (i : Nat) : DE := fun ρ => match gs ρ i with
  | .fz d => .ok (.fz d) ρ
  | .ow d => .ok (.ow d) (ρ.set i .un)
  | _ => .bad
theorem Sr.ix {b : Bs} {G H : Hp} {σ : L2.St} {ρ : DS} (S : Sr b G H σ ρ) {i : Nat} {s : Sl} (h : ρ[i]? = some s) : ∃ x, σ[i]? = some x := by
  have : i < σ.length := by rw [S.len]; exact (List.getElem?_eq_some_iff.mp h).1
  exact ⟨σ[i], List.getElem?_eq_getElem this⟩
theorem Sr.fz {b : Bs} {G H : Hp} {σ : L2.St} {ρ : DS} (S : Sr b G H σ ρ) {i : Nat} {d : D} (h : gs ρ i = .fz d) : ∃ v, σ[i]? = some (some v) ∧ Den b.K G v d := by
  have h := gs_at h (fun z => by cases z)
  obtain ⟨x, hx⟩ := S.ix h
  obtain ⟨v, rfl, k⟩ := S.at_ i x _ hx h
  exact ⟨v, hx, k⟩
theorem Sr.ow {b : Bs} {G H : Hp} {σ : L2.St} {ρ : DS} (S : Sr b G H σ ρ) {i : Nat} {d : D} (h : gs ρ i = .ow d) : ρ[i]? = some (Sl.ow d) ∧ ∃ p, σ[i]? = some (some (.ref p)) ∧ G p = none ∧ b.B p = none ∧ ¬ b.N p ∧ OwnAt b.K G H p d := by
  have h := gs_at h (fun z => by cases z)
  obtain ⟨x, hx⟩ := S.ix h
  obtain ⟨p, rfl, k⟩ := S.at_ i x _ hx h
  exact ⟨h, p, hx, k⟩
theorem Sr.bw {b : Bs} {G H : Hp} {σ : L2.St} {ρ : DS} (S : Sr b G H σ ρ) {i : Nat} {d : D} (h : gs ρ i = .bw d) : ρ[i]? = some (Sl.bw d) ∧ ∃ p, b.p = some p ∧ σ[i]? = some (some (.ref p)) ∧ OwnAt b.K G H p d := by
  have h := gs_at h (fun z => by cases z)
  obtain ⟨x, hx⟩ := S.ix h
  obtain ⟨p, ep, rfl, k⟩ := S.at_ i x _ hx h
  exact ⟨h, p, ep, hx, k⟩
theorem Sr.mov {b : Bs} {G H : Hp} {σ : L2.St} {ρ : DS} (S : Sr b G H σ ρ) {i : Nat} {d : D} {p : Addr} (h : ρ[i]? = some (Sl.ow d)) (hx : σ[i]? = some (some (.ref p))) : Sr b G H (some (.ref p) :: σ) (.ow d :: ρ.set i .un) := by
  have T := S.un i (some (.ref p))
  have es : σ.set i (some (.ref p)) = σ := by
    refine List.ext_getElem? fun j => ?_
    rw [List.getElem?_set]
    split
    · rename_i e
      subst e
      rw [if_pos (List.getElem?_eq_some_iff.mp hx).1, hx]
    · rfl
  rw [es] at T
  refine ⟨T.gh, T.bh, T.gn, T.nh, T.bp, fun i j d e h1 h2 => by
      cases i with
      | zero => cases h1
      | succ i =>
        cases j with
        | zero => cases h2
        | succ j => exact congrArg (· + 1) (T.one i j d e h1 h2), congrArg (· + 1) T.len, fun j x s h1 h2 => ?_, fun j k q r d' e ne h1 h2 h3 h4 => ?_⟩
  · cases j with
    | zero =>
      cases h1
      cases h2
      exact S.at_ i _ _ hx h
    | succ j => exact T.at_ j x s h1 h2
  · have old : ∀ (k : Nat) (e : D), (ρ.set i .un)[k]? = some (Sl.ow e) → k ≠ i ∧ ρ[k]? = some (Sl.ow e) := fun k e z => by
      rw [List.getElem?_set] at z
      split at z
      · split at z <;> cases z
      · rename_i n
        exact ⟨fun w => n w.symm, z⟩
    cases j with
    | zero =>
      cases h1
      cases k with
      | zero => exact absurd rfl ne
      | succ k =>
        obtain ⟨n, z⟩ := old k e h4
        exact S.dis i k p r d e n.symm hx h2 h z
    | succ j =>
      cases k with
      | zero =>
        cases h2
        obtain ⟨n, z⟩ := old j d' h3
        exact S.dis j i q p d' d n h1 hx z h
      | succ k => exact T.dis j k q r d' e (fun z => ne (congrArg (· + 1) z)) h1 h2 h3 h4
section
variable {X : Cx} {b : Bs} {E : XW} {i : Nat}
theorem rdVar : ∀ σ H Q, tW b E (dVar i) σ H Q → tVar i σ H Q := fun σ H Q ⟨G, ρ, S, w⟩ => by
  unfold dVar at w
  split at w
  · rename_i d e
    obtain ⟨v, hv, k⟩ := S.fz e
    exact ⟨v, hv, w v G H (S.push k) (L2.Same.refl G)⟩
  · rename_i d e
    obtain ⟨h, p, hx, _⟩ := S.ow e
    obtain ⟨G', g, S', k⟩ := S.freeze h hx
    exact ⟨_, hx, w _ G' H (S'.push k) g⟩
  · exact w.elim
theorem rdMov : ∀ σ H Q, tW b E (dMov i) σ H Q → tVar i σ H Q := fun σ H Q ⟨G, ρ, S, w⟩ => by
  unfold dMov at w
  split at w
  · rename_i d e
    obtain ⟨v, hv, k⟩ := S.fz e
    exact ⟨v, hv, w v G H (S.push k) (L2.Same.refl G)⟩
  · rename_i d e
    obtain ⟨h, p, hx, _⟩ := S.ow e
    exact ⟨_, hx, w _ G H (S.mov h hx) (L2.Same.refl G)⟩
  · exact w.elim
theorem d_v {e : Expr} (h : PE X e (tVar i)) : PE X e (tW b E (dVar i)) := PE.imp h rdVar
theorem d_m {e : Expr} (h : PE X e (tVar i)) : PE X e (tW b E (dMov i)) := PE.imp h rdMov
end
/-! ### tests -/
def dTru : D → Option Bool
  | .non => some false
  | .bl c => some c
  | .int i => some (i != 0)
  | .str w => if w.length ≤ sizeLine then some (!w.isEmpty) else none
  | .lst ds => some (!ds.isEmpty)
  | .tup ds => some (!ds.isEmpty)
  | _ => none
theorem tru_den {K : PySem.W.Frag} {G H : Hp} {x : V} {d : D} {c : Bool} (e : Same G H) (k : Den K G x d) (h : dTru d = some c) : TruV K x H c := by
  cases k with
  | non => cases h; rfl
  | bl b => cases h; rfl
  | int i => cases h; rfl
  | str w =>
    change (if w.length ≤ sizeLine then some (!w.isEmpty) else none) = some c at h
    split at h
    · rename_i hl
      cases h
      refine ⟨by rw [toS_len]; exact hl, ?_⟩
      rw [toS_len]
      cases w with
      | nil => rfl
      | cons a w =>
        show true = (((w.length + 1 : Nat) : Int) != 0)
        rw [eq_comm, bne_iff_ne]
        omega
    · cases h
  | lst s t =>
    cases h
    refine .inl ⟨_, SqL.of (e _ _ s), ?_⟩
    cases t <;> rfl
  | tup s t =>
    cases h
    refine .inr (.inl ⟨_, seqT_same e s, ?_⟩)
    cases t <;> rfl
  | scr _ => cases h
  | dK _ _ _ => cases h
  | exc0 _ _ => cases h
  | exc _ _ _ _ _ => cases h
def dTe (fa : DE) : DT := fun ρ => (fa ρ).bind fun a ρ1 => RS.of (dTru a.z) ρ1
def dNot (ft : DT) : DT := fun ρ => (ft ρ).bind fun c ρ1 => .ok (!c) ρ1
def dAnd (fa fb : DT) : DT := fun ρ => (fa ρ).bind fun c ρ1 => if c = true then fb ρ1 else .ok false ρ1
def dOr (fa fb : DT) : DT := fun ρ => (fa ρ).bind fun c ρ1 => if c = true then .ok true ρ1 else fb ρ1
def dYes : DT := fun ρ => .ok true ρ
def dBl (d : D) : Option Bool := match d with
  | .bl c => some c
  | _ => none
def dTb (fa : DE) : DT := fun ρ => (fa ρ).bind fun a ρ1 => RS.of (dBl a.z) ρ1
/-- and, or, not as values -/
def dAndE (fa fb : DE) : DE := fun ρ => (fa ρ).bind fun a ρ1 => match dTru a.z with
  | some true => fb ρ1
  | some false => .ok (.fz a.z) ρ1
  | none => .bad
def dOrE (fa fb : DE) : DE := fun ρ => (fa ρ).bind fun a ρ1 => match dTru a.z with
  | some false => fb ρ1
  | some true => .ok (.fz a.z) ρ1
  | none => .bad
def dNotE (fa : DE) : DE := fun ρ => (fa ρ).bind fun a ρ1 => RS.of ((dTru a.z).map fun c => .fz (.bl (!c))) ρ1
def dIfE (ft : DT) (fa fb : DE) : DE := fun ρ => (ft ρ).bind fun c ρ1 => if c = true then fa ρ1 else fb ρ1
section
variable {X : Cx} {b : Bs} {E : XW} {e e1 e2 e3 : Expr} {rest : List Expr} {fa fb : DE} {ft fu : DT} {pos : Pos}
theorem dt_tru (ha : PE X e (tW b E fa)) (he : ∀ whole, isTrue e X.env whole = (do let v ← whole; standAt e.pos; holding [v] (truthy v)) := by intro _; rfl) (hK : X.K = b.K := by rfl) : PT X e (tT b E (dTe fa)) := by
  have h := ptT (K := b.K) (pe_z ha) he hK
  refine ⟨fun pins s σ H Q I ⟨G, ρ, S, w⟩ => h.run pins s σ H Q I ⟨G, ρ, S, w.bind.mono (L2.Same.refl G) fun a ρ1 w1 x G1 H1 S1 s1 k1 => ?_⟩⟩
  obtain ⟨c, ec, q⟩ := w1.of
  exact ⟨c, tru_den S1.gh k1 ec, q G1 H1 S1 s1⟩
theorem PT.imp {t t' : TT} (h : PT X e t) (i : ∀ σ H Q, t' σ H Q → t σ H Q) : PT X e t' := ⟨fun pins s σ H Q I q => h.run pins s σ H Q I (i σ H Q q)⟩
theorem PW.imp {t t' : TT} (h : PW X e t) (i : ∀ σ H Q, t' σ H Q → t σ H Q) : PW X e t' := ⟨fun w pins s σ H Q I q => h.run w pins s σ H Q I (i σ H Q q)⟩
theorem dt_cmp {op : CmpOp} {r : R2} {f : D → D → Option Vl} (ho : OpR X (compareOp op) r) (hf : Op2 b.K r f) (ha : PE X e1 (tW b E fa)) (hb : PE X e2 (tW b E fb)) (hm : behindInMarks op e2 = false) : PT X (.Compare e1 [op] [e2] pos) (tT b E (dTb (dOp2 f fa fb))) :=
  PT.imp (pt_cmpR ho (pe_z ha) (pe_z hb) hm) fun σ H Q ⟨G, ρ, S, w⟩ => rd2 (b := b) (E := E) (f := f) hf σ H _ ⟨G, ρ, S, w.bind.mono (L2.Same.refl G) fun a ρ1 w1 x G1 H1 S1 s1 => by
    obtain ⟨c, ec, q⟩ := w1.of
    obtain ⟨G2, s2, S2, k⟩ := S1.z
    refine ⟨c, ?_, q G2 H1 S2 (L2.Same.trans s1 s2)⟩
    cases a with
    | fz d =>
      cases d with
      | bl c' =>
        cases ec
        cases k
        rfl
      | _ => cases ec
    | ow d =>
      cases d with
      | bl c' =>
        cases ec
        cases k
        rfl
      | _ => cases ec⟩
theorem dt_not (ha : PT X e (tT b E ft)) : PT X (.UnaryOp .Not e pos) (tT b E (dNot ft)) := PT.imp (pt_not ha) fun σ H Q ⟨G, ρ, S, w⟩ => ⟨G, ρ, S, w.bind⟩
theorem dw_and1 (ha : PT X e (tT b E ft)) : PW X (.BoolOp .And [e] pos) (tT b E ft) := pw_and1 ha
theorem dw_or1 (ha : PT X e (tT b E ft)) : PW X (.BoolOp .Or [e] pos) (tT b E ft) := pw_or1 ha
theorem dw_and (ha : PT X e1 (tT b E ft)) (hb : PW X (.BoolOp .And (e2 :: rest) pos) (tT b E fu)) : PW X (.BoolOp .And (e1 :: e2 :: rest) pos) (tT b E (dAnd ft fu)) :=
  PW.imp (pw_and ha hb) fun σ H Q ⟨G, ρ, S, w⟩ => ⟨G, ρ, S, w.bind.mono (L2.Same.refl G) fun c ρ1 w1 G1 H1 S1 s1 => by
    cases c with
    | true => exact ⟨G1, ρ1, S1, Wp.mono w1 s1 fun c ρ2 q G2 H2 S2 s2 => q G2 H2 S2 (L2.Same.trans s1 s2)⟩
    | false => exact w1 G1 H1 S1 s1⟩
theorem dw_or (ha : PT X e1 (tT b E ft)) (hb : PW X (.BoolOp .Or (e2 :: rest) pos) (tT b E fu)) : PW X (.BoolOp .Or (e1 :: e2 :: rest) pos) (tT b E (dOr ft fu)) :=
  PW.imp (pw_or ha hb) fun σ H Q ⟨G, ρ, S, w⟩ => ⟨G, ρ, S, w.bind.mono (L2.Same.refl G) fun c ρ1 w1 G1 H1 S1 s1 => by
    cases c with
    | false => exact ⟨G1, ρ1, S1, Wp.mono w1 s1 fun c ρ2 q G2 H2 S2 s2 => q G2 H2 S2 (L2.Same.trans s1 s2)⟩
    | true => exact w1 G1 H1 S1 s1⟩
theorem d_one {op : BoolOp} {f : DE} (h : PE X e (tW b E f)) : PE X (.BoolOp op [e] pos) (tW b E f) := pe_one h
end
section
variable {X : Cx} {b : Bs} {E : XW} {e e1 e2 e3 : Expr} {rest : List Expr} {fa fb : DE} {ft fu : DT} {pos : Pos}
theorem d_and (ha : PE X e1 (tW b E fa)) (hb : PE X (.BoolOp .And (e2 :: rest) pos) (tW b E fb)) (hK : X.K = b.K := by rfl) : PE X (.BoolOp .And (e1 :: e2 :: rest) pos) (tW b E (dAndE fa fb)) :=
  PE.imp (pe_andT (pe_z ha) hb) fun σ H Q ⟨G, ρ, S, w⟩ => ⟨G, ρ, S, w.bind.mono (L2.Same.refl G) fun a ρ1 w1 x G1 H1 S1 s1 k1 => by
    cases ec : dTru a.z with
    | none => rw [ec] at w1; exact w1.elim
    | some c =>
      rw [ec] at w1
      refine ⟨c, hK ▸ tru_den S1.gh k1 ec, ?_⟩
      cases c with
      | true => exact ⟨G1, ρ1, S1, Wp.mono w1 s1 fun c ρ2 q x G2 H2 S2 s2 => q x G2 H2 S2 (L2.Same.trans s1 s2)⟩
      | false => exact w1 x G1 H1 (S1.push k1) s1⟩
theorem d_or (ha : PE X e1 (tW b E fa)) (hb : PE X (.BoolOp .Or (e2 :: rest) pos) (tW b E fb)) (hK : X.K = b.K := by rfl) : PE X (.BoolOp .Or (e1 :: e2 :: rest) pos) (tW b E (dOrE fa fb)) :=
  PE.imp (pe_orT (pe_z ha) hb) fun σ H Q ⟨G, ρ, S, w⟩ => ⟨G, ρ, S, w.bind.mono (L2.Same.refl G) fun a ρ1 w1 x G1 H1 S1 s1 k1 => by
    cases ec : dTru a.z with
    | none => rw [ec] at w1; exact w1.elim
    | some c =>
      rw [ec] at w1
      refine ⟨c, hK ▸ tru_den S1.gh k1 ec, ?_⟩
      cases c with
      | false => exact ⟨G1, ρ1, S1, Wp.mono w1 s1 fun c ρ2 q x G2 H2 S2 s2 => q x G2 H2 S2 (L2.Same.trans s1 s2)⟩
      | true => exact w1 x G1 H1 (S1.push k1) s1⟩
theorem d_not (ha : PE X e (tW b E fa)) (hK : X.K = b.K := by rfl) : PE X (.UnaryOp .Not e pos) (tW b E (dNotE fa)) :=
  PE.imp (pe_notT (pe_z ha)) fun σ H Q ⟨G, ρ, S, w⟩ => ⟨G, ρ, S, w.bind.mono (L2.Same.refl G) fun a ρ1 w1 x G1 H1 S1 s1 k1 => by
    obtain ⟨z, ez, q⟩ := w1.of
    obtain ⟨c, ec, rfl⟩ := Option.map_eq_some_iff.mp ez
    exact ⟨c, hK ▸ tru_den S1.gh k1 ec, q _ G1 H1 (S1.push (.bl _)) s1⟩⟩
theorem d_if (hc : PT X e1 (tT b E ft)) (ha : PE X e2 (tW b E fa)) (hb : PE X e3 (tW b E fb)) : PE X (.IfExp e1 e2 e3 pos) (tW b E (dIfE ft fa fb)) :=
  PE.imp (pe_ifExp hc ha hb) fun σ H Q ⟨G, ρ, S, w⟩ => ⟨G, ρ, S, w.bind.mono (L2.Same.refl G) fun c ρ1 w1 G1 H1 S1 s1 => by
    cases c with
    | true => exact ⟨G1, ρ1, S1, Wp.mono w1 s1 fun c ρ2 q x G2 H2 S2 s2 => q x G2 H2 S2 (L2.Same.trans s1 s2)⟩
    | false => exact ⟨G1, ρ1, S1, Wp.mono w1 s1 fun c ρ2 q x G2 H2 S2 s2 => q x G2 H2 S2 (L2.Same.trans s1 s2)⟩⟩
end
end DL

set_option Elab.async false
set_option linter.all false
set_option autoImplicit false
set_option maxRecDepth 100000
set_option maxHeartbeats 4000000
/-! the mirror layer: statements, loops, comprehensions, defs and their calls -/
namespace DL
open PySem PySem.Spec PyProof.Rows L2 LK
/-! ### targets -/
def EqOff (vs : List Nat) (σ σ' : L2.St) : Prop := σ'.length = σ.length ∧ ∀ i, i ∉ vs → σ'[i]? = σ[i]?
theorem EqOff.refl (vs : List Nat) (σ : L2.St) : EqOff vs σ σ := ⟨rfl, fun _ _ => rfl⟩
theorem EqOff.wipe {vs : List Nat} {σ σ' : L2.St} (h : EqOff vs σ σ') : L2.wipe σ' vs = L2.wipe σ vs := by
  refine List.ext_getElem? fun i => ?_
  rw [wipe_at, wipe_at, h.1]
  split
  · rfl
  · rename_i hi
    exact h.2 i hi
theorem EqOff.trans {vs ws : List Nat} {σ σ1 σ2 : L2.St} (h : EqOff vs σ σ1) (k : EqOff ws σ1 σ2) : EqOff (vs ++ ws) σ σ2 :=
  ⟨k.1.trans h.1, fun i hi => (k.2 i fun z => hi (List.mem_append_right _ z)).trans (h.2 i fun z => hi (List.mem_append_left _ z))⟩
theorem EqOff.mono {vs ws : List Nat} {σ σ' : L2.St} (h : EqOff vs σ σ') (k : ∀ i ∈ vs, i ∈ ws) : EqOff ws σ σ' := ⟨h.1, fun i hi => h.2 i fun z => hi (k i z)⟩
def tG (b : Bs) (vs : List Nat) (g : Vl → DS → Option DS) : TG := fun v σ H Q => ∃ G ρ r ρ', Sr b G H (some v :: σ) (r.s :: ρ) ∧ g r ρ = some ρ' ∧ ∀ σ', Sr b G H σ' ρ' → EqOff vs σ σ' → Q σ' H
def tGs (b : Bs) (vs : List Nat) (g : List D → DS → Option DS) : TGs := fun xs σ H Q => ∃ G ρ ds ρ', Sr b G H σ ρ ∧ DenA b.K G xs ds ∧ g ds ρ = some ρ' ∧ ∀ σ', Sr b G H σ' ρ' → EqOff vs σ σ' → Q σ' H
def gN (i : Nat) : Vl → DS → Option DS := fun r ρ => some (ρ.set i r.s)
def gE : List D → DS → Option DS := fun ds ρ => match ds with
  | [] => some ρ
  | _ => none
def gP (g : Vl → DS → Option DS) (h : List D → DS → Option DS) : List D → DS → Option DS := fun ds ρ => match ds with
  | [] => none
  | d :: ds => (g (.fz d) ρ).bind (h ds)
def gU (n : Nat) (h : List D → DS → Option DS) : Vl → DS → Option DS := fun r ρ => match r with
  | .fz (.tup ds) => if ds.length = n then h ds ρ else none
  | _ => none
theorem PG.imp {X : Cx} {e : Expr} {t t' : TG} (h : PG X e t) (i : ∀ v σ H Q, t' v σ H Q → t v σ H Q) : PG X e t' := ⟨fun pins s σ H v u Q I r q => h.run pins s σ H v u Q I r (i v σ H Q q)⟩
theorem PGs.imp {X : Cx} {e : List Expr} {t t' : TGs} (h : PGs X e t) (i : ∀ v σ H Q, t' v σ H Q → t v σ H Q) : PGs X e t' := ⟨fun pins s σ H v u Q I r q => h.run pins s σ H v u Q I r (i v σ H Q q)⟩
theorem PS.imp {X : Cx} {st : Stmt} {t t' : TS} (h : PS X st t) (i : ∀ D σ H, t' D σ H → t D σ H) : PS X st t' := ⟨fun pins s σ H D I q => h.run pins s σ H D I (i D σ H q)⟩
theorem PSs.imp {X : Cx} {st : List Stmt} {t t' : TS} (h : PSs X st t) (i : ∀ D σ H, t' D σ H → t D σ H) : PSs X st t' := ⟨fun pins s σ H D I q => h.run pins s σ H D I (i D σ H q)⟩
section
variable {X : Cx} {b : Bs} {E : XW} {e : Expr} {es : List Expr} {pos : Pos}
theorem rdN' {i : Nat} : ∀ v σ H Q, tG b [i] (gN i) v σ H Q → gName i v σ H Q := fun v σ H Q ⟨G, ρ, r, ρ', S, e, q⟩ => by
  cases e
  refine q _ (S.put i) ⟨by rw [List.length_set], fun j hj => ?_⟩
  rw [List.getElem?_set, if_neg (fun z => hj (by rw [z]; exact List.mem_singleton.mpr rfl))]
theorem g_n {i : Nat} (h : PG X e (gName i)) : PG X e (tG b [i] (gN i)) := PG.imp h rdN'
theorem g_e (h : PGs X [] gNil) : PGs X [] (tGs b [] gE) := PGs.imp h fun xs σ H Q ⟨G, ρ, ds, ρ', S, k, e, q⟩ => by
  cases k with
  | nil =>
    cases e
    exact ⟨rfl, q σ S (EqOff.refl _ _)⟩
  | cons _ _ => cases e
theorem g_p {g : Vl → DS → Option DS} {h : List D → DS → Option DS} {vs ws : List Nat} (h1 : PG X e (tG b vs g)) (h2 : PGs X es (tGs b ws h)) (hs : (assignEach (e :: es) X.env).map (·.2) = assign e X.env :: (assignEach es X.env).map (·.2) := by rfl) : PGs X (e :: es) (tGs b (vs ++ ws) (gP g h)) :=
  PGs.imp (pgs_cons h1 h2 hs) fun xs σ H Q ⟨G, ρ, ds, ρ', S, k, e, q⟩ => by
    cases k with
    | nil => cases e
    | @cons v vs' d ds' k1 k2 =>
      obtain ⟨ρ1, e1, e2⟩ := Option.bind_eq_some_iff.mp (show (g (.fz d) ρ).bind (h ds') = some ρ' from e)
      exact ⟨v, vs', rfl, G, ρ, .fz d, ρ1, S.push k1, e1, fun σ1 S1 o1 => ⟨G, ρ1, ds', ρ', S1, k2, e2, fun σ2 S2 o2 => q σ2 S2 (o1.trans o2)⟩⟩
theorem g_u {n kk : Nat} {h : List D → DS → Option DS} {vs : List Nat} (hc : X.calm = true) (h2 : PGs X es (tGs b vs h)) (hK : X.K = b.K := by rfl) (hn : (assignEach es X.env).length = n := by rfl) (hst : (assignEach es X.env).findIdx? (·.1) = none := by rfl) :
    PG X (.Tuple es kk pos) (tG b vs (gU n h)) :=
  PG.imp (pgTup (K := b.K) hc h2 hK hn hst) fun v σ H Q ⟨G, ρ, r, ρ', S, e, q⟩ => by
    cases r with
    | ow d => cases e
    | fz d =>
      obtain ⟨x, ex, k⟩ := S.top
      cases ex
      cases k with
      | @tup a xs ds s t =>
        change (if ds.length = n then h ds ρ else none) = some ρ' at e
        split at e
        · rename_i hl
          exact ⟨a, xs, rfl, seqT_same S.gh s, t.len.trans hl, G, ρ, ds, ρ', S.pop, t, e, q⟩
        · cases e
      | _ => cases e
end
/-! ### statements -/
def Ws (b : Bs) (E : XW) (G : Hp) (o : RS Fl) (D : Ends) : Prop := match o with
  | .ok .nx ρ => ∀ σ' G' H', Sr b G' H' σ' ρ → Same G G' → D.nx σ' H'
  | .ok (.rt r) ρ => ∀ x σ' G' H', Sr b G' H' (some x :: σ') (r.s :: ρ) → Same G G' → D.rt x H'
  | .ok .bk ρ => ∀ σ' G' H', Sr b G' H' σ' ρ → Same G G' → D.bk σ' H'
  | .ok .ct ρ => ∀ σ' G' H', Sr b G' H' σ' ρ → Same G G' → D.ct σ' H'
  | .err c fs ρ => ∀ σ' cls dd G' H', Sr b G' H' σ' ρ → Same G G' → XAt b.K G' c fs cls dd → E σ' cls dd H'
  | .bad => False
def tS (b : Bs) (E : XW) (f : DC) : TS := fun D σ H => ∃ G ρ, Sr b G H σ ρ ∧ Ws b E G (f ρ) D
theorem Ws.bind {α : Type} {b : Bs} {E : XW} {G : Hp} {o : RS α} {f : α → DS → RS Fl} {D : Ends} (h : Ws b E G (o.bind f) D) (σ : L2.St) : Wp b E σ G o fun a ρ => Ws b E G (f a ρ) D := by
  cases o with
  | ok a ρ => exact h
  | err c fs ρ => exact fun cls dd G' H' S s x => h σ cls dd G' H' S s x
  | bad => exact h
theorem Ws.mono {b : Bs} {E : XW} {G G1 : Hp} {o : RS Fl} {D : Ends} (h : Ws b E G o D) (e : Same G G1) : Ws b E G1 o D := by
  cases o with
  | ok a ρ =>
    cases a with
    | nx => exact fun σ G' H' S s => h σ G' H' S (L2.Same.trans e s)
    | rt r => exact fun x σ G' H' S s => h x σ G' H' S (L2.Same.trans e s)
    | bk => exact fun σ G' H' S s => h σ G' H' S (L2.Same.trans e s)
    | ct => exact fun σ G' H' S s => h σ G' H' S (L2.Same.trans e s)
  | err c fs ρ => exact fun σ cls dd G' H' S s x => h σ cls dd G' H' S (L2.Same.trans e s) x
  | bad => exact h
def dNx : DC := fun ρ => .ok .nx ρ
def dSeq (f g : DC) : DC := fun ρ => (f ρ).bind fun a ρ1 => match a with
  | .nx => g ρ1
  | a => .ok a ρ1
def dIf (c : DT) (f g : DC) : DC := fun ρ => (c ρ).bind fun k ρ1 => if k = true then f ρ1 else g ρ1
def dRet (f : DE) : DC := fun ρ => (f ρ).bind fun r ρ1 => .ok (.rt r) ρ1
def dRetN : DC := fun ρ => .ok (.rt (.fz .non)) ρ
def dBrk : DC := fun ρ => .ok .bk ρ
def dCnt : DC := fun ρ => .ok .ct ρ
def dDrop (f : DE) : DC := fun ρ => (f ρ).bind fun _ ρ1 => .ok .nx ρ1
def dAsg (f : DE) (g : Vl → DS → Option DS) : DC := fun ρ => (f ρ).bind fun r ρ1 => match g r ρ1 with
  | some ρ2 => .ok .nx ρ2
  | none => .bad
def dWhile (c : DT) (f : DC) : Nat → DC
  | 0 => fun _ => .bad
  | n + 1 => fun ρ => (c ρ).bind fun k ρ1 => if k = true then (f ρ1).bind fun a ρ2 => (match a with
      | .nx => dWhile c f n ρ2
      | .ct => dWhile c f n ρ2
      | .bk => .ok .nx ρ2
      | .rt r => .ok (.rt r) ρ2) else .ok .nx ρ1
def dFor (g : Vl → DS → Option DS) (f : DC) : List D → DC
  | [] => fun ρ => .ok .nx ρ
  | d :: ds => fun ρ => match g (.fz d) ρ with
    | none => .bad
    | some ρ1 => (f ρ1).bind fun a ρ2 => (match a with
      | .nx => dFor g f ds ρ2
      | .ct => dFor g f ds ρ2
      | .bk => .ok .nx ρ2
      | .rt r => .ok (.rt r) ρ2)
def dForS (fi : DA) (g : Vl → DS → Option DS) (f : DC) : DC := fun ρ => (fi ρ).bind fun ds ρ1 => dFor g f ds ρ1
/-- J walks ds, what stays being G or more -/
structure ItD (K : PySem.W.Frag) (J : It) (ds : List D) (G : Hp) : Prop where
  go : ∀ i H, i < ds.length → Same G H → J.go i H
  stop : ∀ H, Same G H → J.stop ds.length H
  yld : ∀ i G1 H x H' d, ds[i]? = some d → Same G G1 → Same G1 H → J.yld i H x H' → ∃ G', Grow G1 H G' H' ∧ Den K G' x d
def tI (b : Bs) (E : XW) (f : DA) : TI := fun σ H R => ∃ G ρ, Sr b G H σ ρ ∧ Wp b E σ G (f ρ) fun ds ρ' => ∀ J G' H', Sr b G' H' σ ρ' → Same G G' → ItD b.K J ds G' → R J H'
section
variable {X : Cx} {b : Bs} {E : XW} {e e1 e2 : Expr} {st : Stmt} {rest sa sb : List Stmt} {f g : DC} {fe : DE} {fc : DT} {fi : DA} {pos : Pos}
theorem d_pnil : PSs X [] (tS b E dNx) := PSs.imp pss_nil fun D σ H ⟨G, ρ, S, w⟩ => w σ G H S (L2.Same.refl G)
theorem d_seq (h1 : PS X st (tS b E f)) (h2 : PSs X rest (tS b E g)) : PSs X (st :: rest) (tS b E (dSeq f g)) := PSs.imp (pss_cons h1 h2) fun D σ H ⟨G, ρ, S, w⟩ => ⟨G, ρ, S, by
  unfold dSeq at w
  cases ef : f ρ with
  | bad => rw [ef] at w; exact w.elim
  | err c fs ρ1 => rw [ef] at w; exact w
  | ok a ρ1 =>
    rw [ef] at w
    cases a with
    | nx => exact fun σ' G' H' S' s => ⟨G', ρ1, S', Ws.mono w s⟩
    | rt r => exact w
    | bk => exact w
    | ct => exact w⟩
theorem d_1 (h1 : PS X st (tS b E f)) : PSs X [st] (tS b E f) := pss_one h1
theorem d_ifS (hc : PT X e (tT b E fc)) (ha : PSs X sa (tS b E f)) (hb : PSs X sb (tS b E g)) : PS X (.If e sa sb pos) (tS b E (dIf fc f g)) := PS.imp (ps_if hc ha hb) fun D σ H ⟨G, ρ, S, w⟩ => ⟨G, ρ, S, (Ws.bind w σ).mono (L2.Same.refl G) fun c ρ1 w1 G1 H1 S1 s1 => by
  cases c with
  | true => exact ⟨G1, ρ1, S1, Ws.mono w1 s1⟩
  | false => exact ⟨G1, ρ1, S1, Ws.mono w1 s1⟩⟩
theorem d_ret (h : PE X e (tW b E fe)) : PS X (.Return (some e) pos) (tS b E (dRet fe)) := PS.imp (ps_ret h) fun D σ H ⟨G, ρ, S, w⟩ => ⟨G, ρ, S, (Ws.bind w σ).mono (L2.Same.refl G) fun r ρ1 w1 x G1 H1 S1 s1 => w1 x σ G1 H1 S1 s1⟩
theorem d_retN : PS X (.Return none pos) (tS b E dRetN) := PS.imp ps_retN fun D σ H ⟨G, ρ, S, w⟩ => w .non σ G H (S.push .non) (L2.Same.refl G)
theorem d_pass : PS X (.Pass pos) (tS b E dNx) := PS.imp ps_pass fun D σ H ⟨G, ρ, S, w⟩ => w σ G H S (L2.Same.refl G)
theorem d_brk : PS X (.Break pos) (tS b E dBrk) := PS.imp ps_break fun D σ H ⟨G, ρ, S, w⟩ => w σ G H S (L2.Same.refl G)
theorem d_cnt : PS X (.Continue pos) (tS b E dCnt) := PS.imp ps_continue fun D σ H ⟨G, ρ, S, w⟩ => w σ G H S (L2.Same.refl G)
theorem d_doc {x : Str} {j : Nat} {pos' : Pos} : PS X (.Expr (.Constant (.str x) j pos) pos') (tS b E dNx) := PS.imp ps_doc fun D σ H ⟨G, ρ, S, w⟩ => w σ G H S (L2.Same.refl G)
theorem d_expr (he : PE X e (tW b E fe)) (hs : swapsWith e none pos.line X.env = pure false := by rfl) : PS X (.Expr e pos) (tS b E (dDrop fe)) := PS.imp (ps_expr he hs) fun D σ H ⟨G, ρ, S, w⟩ => ⟨G, ρ, S, (Ws.bind w σ).mono (L2.Same.refl G) fun r ρ1 w1 x G1 H1 S1 s1 => w1 σ G1 H1 S1.pop s1⟩
theorem rdAsg {gg : Vl → DS → Option DS} {vs : List Nat} : ∀ D σ H, tS b E (dAsg fe gg) D σ H → tAsg (tW b E fe) (tG b vs gg) D σ H := fun D σ H ⟨G, ρ, S, w⟩ => ⟨G, ρ, S, (Ws.bind w σ).mono (L2.Same.refl G) fun r ρ1 w1 x G1 H1 S1 s1 => by
  cases eg : gg r ρ1 with
  | none => rw [eg] at w1; exact w1.elim
  | some ρ2 =>
    rw [eg] at w1
    exact ⟨G1, ρ1, r, ρ2, S1, eg, fun σ2 S2 _ => w1 σ2 G1 H1 S2 s1⟩⟩
theorem d_set {i : Nat} {x : Str} {pos' : Pos} (hN : X.N.Nodup) (hi : X.N[i]? = some x) (hx : Loc X.env.scope x) (he : PE X e (tW b E fe)) (hs : swapsWith e (some (.Name x pos')) pos.line X.env = pure false := by rfl) (hf : X.fn x = true ∨ X.env.scope.names.lookup x = some .local := by first | exact .inl rfl | exact .inr rfl | assumption) :
    PS X (.Assign [.Name x pos'] e pos) (tS b E (dAsg fe (gN i))) := PS.imp (ps_set hN hi hx he hs hf) fun D σ H w => by
  obtain ⟨G, ρ, S, w⟩ := rdAsg (vs := [i]) D σ H w
  exact ⟨G, ρ, S, w.mono (L2.Same.refl G) fun r ρ1 q x G1 H1 S1 s1 => rdN' _ _ _ _ (q x G1 H1 S1 s1)⟩
theorem d_asg {tg : Expr} {gg : Vl → DS → Option DS} {vs : List Nat} (he : PE X e (tW b E fe)) (hg : PG X tg (tG b vs gg)) (hs : swapsWithSole [tg] e pos.line X.env = pure false := by rfl) (hw : swappedStores [tg] e X.env = pure none := by rfl)
    (h1 : (assignEach [tg] X.env).map (·.2) = [assign tg X.env] := by rfl) : PS X (.Assign [tg] e pos) (tS b E (dAsg fe gg)) := PS.imp (ps_asg he hg hs hw h1) rdAsg
theorem d_while {n : Nat} (hp : PassesOwn (model X.prog X.w) X.A X.env X.xe) (hc : PT X e (tT b E fc)) (hb : PSs X sa (tS b E f)) : PS X (.While e sa [] pos) (tS b E (dWhile fc f n)) := PS.imp (ps_while hp hc hb) fun D σ H ⟨G, ρ, S, w⟩ => by
  refine ⟨fun m σ H => ∃ G ρ, Sr b G H σ ρ ∧ Ws b E G (dWhile fc f m ρ) D, ⟨n, G, ρ, S, w⟩, ?_⟩
  rintro m σ H ⟨G, ρ, S, w⟩
  cases m with
  | zero => exact w.elim
  | succ m =>
    refine ⟨G, ρ, S, (Ws.bind w σ).mono (L2.Same.refl G) fun c ρ1 w1 G1 H1 S1 s1 => ?_⟩
    cases c with
    | false => exact w1 σ G1 H1 S1 s1
    | true =>
      refine ⟨fun σ H => ∃ G ρ, Sr b G H σ ρ ∧ Ws b E G (dWhile fc f m ρ) D, fun σ' H' z => ⟨m, Nat.lt_succ_self m, z⟩, G1, ρ1, S1, ?_⟩
      have w2 : Ws b E G ((f ρ1).bind fun a ρ2 => (match a with
        | .nx => dWhile fc f m ρ2
        | .ct => dWhile fc f m ρ2
        | .bk => .ok .nx ρ2
        | .rt r => .ok (.rt r) ρ2)) D := w1
      cases ef : f ρ1 with
      | bad => rw [ef] at w2; exact w2.elim
      | err c fs ρ2 => rw [ef] at w2; exact Ws.mono (o := .err c fs ρ2) w2 s1
      | ok a ρ2 =>
        rw [ef] at w2
        have w3 := Ws.mono w2 s1
        cases a with
        | nx => exact fun σ' G' H' S' s => ⟨G', ρ2, S', Ws.mono w3 s⟩
        | ct => exact fun σ' G' H' S' s => ⟨G', ρ2, S', Ws.mono w3 s⟩
        | bk => exact w3
        | rt r => exact w3
theorem d_for {tg : Expr} {gg : Vl → DS → Option DS} {vs : List Nat} (hp : PassesOwn (model X.prog X.w) X.A X.env X.xe) (hc : X.calm = true) (hi : PI X tg e (tI b E fi)) (hg : PG X tg (tG b vs gg)) (hb : PSs X sa (tS b E f))
    (hs : ∀ x, foldedSetIterable e X.env x = pure x := by intro _; rfl) : PS X (.For tg e sa [] pos) (tS b E (dForS fi gg f)) := PS.imp (ps_for hp hc hi hg hb hs) fun D σ H ⟨G, ρ, S, w⟩ => by
  refine ⟨G, ρ, S, (Ws.bind w σ).mono (L2.Same.refl G) fun ds ρ1 w1 J G0 H1 S1 s1 it => ?_⟩
  refine ⟨fun i m σ H => ∃ G ρ, Sr b G H σ ρ ∧ Same G0 G ∧ m = ds.length - i ∧ i ≤ ds.length ∧ Ws b E G (dFor gg f (ds.drop i) ρ) D, ⟨ds.length, G0, ρ1, S1, L2.Same.refl G0, rfl, Nat.zero_le _, Ws.mono w1 s1⟩, ?_⟩
  rintro i m σ H ⟨G, ρ, S, s, rfl, hi, w⟩
  by_cases hlt : i < ds.length
  · refine .inr ⟨it.go i H hlt (L2.Same.trans s S.gh), fun σ H => ∃ G ρ, Sr b G H σ ρ ∧ Same G0 G ∧ Ws b E G (dFor gg f (ds.drop (i + 1)) ρ) D, fun σ' H' ⟨G', ρ', S', s', w'⟩ => ⟨ds.length - (i + 1), by omega, G', ρ', S', s', rfl, hlt, w'⟩, fun x H' y => ?_⟩
    obtain ⟨G', g, k⟩ := it.yld i G H x H' ds[i] (List.getElem?_eq_getElem hlt) s S.gh y
    rw [List.drop_eq_getElem_cons hlt] at w
    have w2 : Ws b E G (match gg (.fz ds[i]) ρ with
      | none => .bad
      | some ρ1 => (f ρ1).bind fun a ρ2 => (match a with
        | .nx => dFor gg f (ds.drop (i + 1)) ρ2
        | .ct => dFor gg f (ds.drop (i + 1)) ρ2
        | .bk => .ok .nx ρ2
        | .rt r => .ok (.rt r) ρ2)) D := w
    cases eg : gg (.fz ds[i]) ρ with
    | none => rw [eg] at w2; exact w2.elim
    | some ρ1 =>
      rw [eg] at w2
      refine ⟨G', ρ, .fz ds[i], ρ1, (S.grow g).push k, eg, fun σ2 S2 _ => ⟨G', ρ1, S2, ?_⟩⟩
      have w3 : Ws b E G' ((f ρ1).bind fun a ρ2 => (match a with
        | .nx => dFor gg f (ds.drop (i + 1)) ρ2
        | .ct => dFor gg f (ds.drop (i + 1)) ρ2
        | .bk => .ok .nx ρ2
        | .rt r => .ok (.rt r) ρ2)) D := Ws.mono w2 g.g
      have s0 := L2.Same.trans s g.g
      cases ef : f ρ1 with
      | bad => rw [ef] at w3; exact w3.elim
      | err c fs ρ2 => rw [ef] at w3; exact w3
      | ok a ρ2 =>
        rw [ef] at w3
        cases a with
        | nx => exact fun σ' G2 H2 S' s => ⟨G2, ρ2, S', L2.Same.trans s0 s, Ws.mono (G := G') w3 s⟩
        | ct => exact fun σ' G2 H2 S' s => ⟨G2, ρ2, S', L2.Same.trans s0 s, Ws.mono (G := G') w3 s⟩
        | bk => exact w3
        | rt r => exact w3
  · have en : i = ds.length := by omega
    subst en
    rw [List.drop_length] at w
    exact .inl ⟨it.stop H (L2.Same.trans s S.gh), w σ G H S (L2.Same.refl G)⟩
end
end DL

set_option Elab.async false
set_option linter.all false
set_option autoImplicit false
set_option maxRecDepth 100000
set_option maxHeartbeats 4000000
/-! the mirror layer: comprehensions, what is walked -/
namespace DL
open PySem PySem.Spec PyProof.Rows L2 LK
def dLcL (g : Vl → DS → Option DS) (ft : DT) (fe : DE) (vs : List Nat) : List D → List D → DE
  | [], acc => fun ρ => .ok (.ow (.lst acc)) ρ
  | d :: ds, acc => fun ρ => match g (.fz d) ρ with
    | none => .bad
    | some ρ1 => match ft ρ1 with
      | .ok true ρ2 => (match fe ρ2 with
        | .ok r ρ3 => if acc.length < sizeLine then dLcL g ft fe vs ds (acc ++ [r.z]) (wipeD ρ3 vs) else .bad
        | _ => .bad)
      | .ok false ρ2 => dLcL g ft fe vs ds acc (wipeD ρ2 vs)
      | _ => .bad
def dLc (fi : DA) (g : Vl → DS → Option DS) (ft : DT) (fe : DE) (vs : List Nat) : DE := fun ρ => (fi ρ).bind fun ds ρ1 => dLcL g ft fe vs ds [] (wipeD ρ1 vs)
def E0' : XW := fun _ _ _ _ => False
/-- the thing at a must stay, and is nobody's -/
def Bs.sh (b : Bs) (a : Addr) (o : HO) : Bs := ⟨b.K, upd b.B a o, fun x => b.N x ∨ x = a, b.p⟩
theorem Sr.shield {b : Bs} {G H : Hp} {σ : L2.St} {ρ : DS} {p : Addr} {acc : List D} (S : Sr b G H (some (.ref p) :: σ) (.ow (.lst acc) :: ρ)) : ∃ vs, H p = some (.lst vs) ∧ DenA b.K G vs acc ∧ b.B p = none ∧ ¬ b.N p ∧ Sr (b.sh p (.lst vs)) G H σ ρ := by
  obtain ⟨p', e, gp, bp, np, o⟩ := S.top
  cases e
  cases o with
  | @lst vs ds h k =>
    refine ⟨vs, h, k, bp, np, S.gh, fun a o e => ?_, fun a n => ?_, fun a n => ?_, fun q eq => ?_, fun i j d e h1 h2 => Nat.succ.inj (S.one (i + 1) (j + 1) d e h1 h2), Nat.succ.inj S.len, fun i x s h1 h2 => ?_, fun i j p q d e n h1 h2 h3 h4 => S.dis (i + 1) (j + 1) p q d e (fun z => n (Nat.succ.inj z)) h1 h2 h3 h4⟩
    · change upd b.B p (.lst vs) a = some o at e
      by_cases ha : a = p
      · subst ha
        rw [upd_same] at e
        cases e
        exact h
      · rw [upd_ne ha] at e
        exact S.bh a o e
    · rcases n with n | rfl
      · exact S.gn a n
      · exact gp
    · rcases n with n | rfl
      · exact S.nh a n
      · exact ⟨_, h⟩
    · obtain ⟨z1, z2⟩ := S.bp q eq
      refine ⟨.inl z1, ?_⟩
      show upd b.B p (.lst vs) q = none
      rw [upd_ne fun (z : q = p) => np (z ▸ z1)]
      exact z2
    · have z := S.at_ (i + 1) x s h1 h2
      cases s with
      | un => trivial
      | fz d => exact z
      | bw d => exact z
      | ow d =>
        obtain ⟨q, e, gq, bq, nq, oq⟩ := z
        subst e
        have ne : q ≠ p := fun z => S.dis 0 (i + 1) p q _ _ (Nat.succ_ne_zero i).symm rfl h1 rfl h2 z.symm
        refine ⟨q, rfl, gq, ?_, fun z => z.elim nq ne, oq⟩
        show upd b.B p (.lst vs) q = none
        rw [upd_ne ne]
        exact bq
theorem Sr.unshield {b : Bs} {G H : Hp} {σ : L2.St} {ρ : DS} {p : Addr} {vs ws : List V} {acc : List D} (bp : b.B p = none) (np : ¬ b.N p) (S : Sr (b.sh p (.lst vs)) G H σ ρ) (k : DenA b.K G ws acc) : Sr b G (upd H p (.lst ws)) (some (.ref p) :: σ) (.ow (.lst acc) :: ρ) := by
  have gp : G p = none := S.gn p (.inr rfl)
  have gB : ∀ a, a ≠ p → (b.sh p (.lst vs)).B a = b.B a := fun a n => upd_ne n
  have notp : ∀ (i : Nat) (q : Addr) (d : D), σ[i]? = some (some (.ref q)) → ρ[i]? = some (Sl.ow d) → q ≠ p := fun i q d h1 h2 z => by
    obtain ⟨q', e, _, _, nq, _⟩ := S.at_ i _ _ h1 h2
    cases e
    exact nq (.inr z)
  refine ⟨fun a o e => ?_, fun a o e => ?_, fun a n => S.gn a (.inl n), fun a n => ?_, fun q eq => ?_, fun i j d e h1 h2 => by
      cases i with
      | zero => cases h1
      | succ i =>
        cases j with
        | zero => cases h2
        | succ j => exact congrArg (· + 1) (S.one i j d e h1 h2), congrArg (· + 1) S.len, fun i x s h1 h2 => ?_, fun i j q r d e n h1 h2 h3 h4 => ?_⟩
  · rw [upd_ne fun z => by rw [z, gp] at e; cases e]
    exact S.gh a o e
  · have ne : a ≠ p := fun z => by rw [z, bp] at e; cases e
    rw [upd_ne ne]
    exact S.bh a o (by rw [gB a ne]; exact e)
  · obtain ⟨o, h⟩ := S.nh a (.inl n)
    exact ⟨o, by rw [upd_ne fun (z : a = p) => np (z ▸ n)]; exact h⟩
  · obtain ⟨z1, z2⟩ := S.bp q eq
    have ne : q ≠ p := fun z => by
      rw [z] at z2
      change upd b.B p (.lst vs) p = none at z2
      rw [upd_same] at z2
      cases z2
    refine ⟨z1.elim id fun z => absurd z ne, ?_⟩
    rw [← gB q ne]
    exact z2
  · cases i with
    | zero =>
      cases h1
      cases h2
      exact ⟨p, rfl, gp, bp, np, .lst upd_same k⟩
    | succ i =>
      have z := S.at_ i x s h1 h2
      cases s with
      | un => trivial
      | fz d => exact z
      | bw d =>
        obtain ⟨q, ep, e, o⟩ := z
        obtain ⟨z1, z2⟩ := S.bp q ep
        have ne : q ≠ p := fun z => by
          rw [z] at z2
          change upd b.B p (.lst vs) p = none at z2
          rw [upd_same] at z2
          cases z2
        exact ⟨q, ep, e, o.same (L2.Same.refl G) fun o h => by rw [upd_ne ne]; exact h⟩
      | ow d =>
        obtain ⟨q, e, gq, bq, nq, o⟩ := z
        have ne : q ≠ p := fun z => nq (.inr z)
        exact ⟨q, e, gq, by rw [← gB q ne]; exact bq, fun z => nq (.inl z), o.same (L2.Same.refl G) fun o h => by rw [upd_ne ne]; exact h⟩
  · cases i with
    | zero =>
      cases h1
      cases j with
      | zero => exact absurd rfl n
      | succ j => exact (notp j r e h2 h4).symm
    | succ i =>
      cases j with
      | zero =>
        cases h2
        exact notp i q d h1 h3
      | succ j => exact S.dis i j q r d e (fun z => n (congrArg (· + 1) z)) h1 h2 h3 h4
theorem wipe_idem (σ : L2.St) (vs : List Nat) : L2.wipe (L2.wipe σ vs) vs = L2.wipe σ vs := by
  refine List.ext_getElem? fun i => ?_
  rw [wipe_at, wipe_at, wipe_length]
  split <;> rfl
theorem Sr.under {b : Bs} {G H : Hp} {p : Option V} {s : Sl} {σ : L2.St} {ρ : DS} {f : DS → DS} (S : Sr b G H (p :: σ) (s :: ρ)) : Sr b G H σ ρ := S.pop
section
variable {X : Cx} {b : Bs} {E : XW} {elt tg iter : Expr} {ifs : List Expr} {scope : Scope} {own : List (Str × Nat)} {pos : Pos} {fi : DA} {gg : Vl → DS → Option DS} {ft : DT} {fe : DE} {ws : List Nat}
theorem pg_ex {ι : Type} {X : Cx} {e : Expr} {t : ι → TG} (h : ∀ i, PG X e (t i)) : PG X e (fun v σ H Q => ∃ i, t i v σ H Q) := ⟨fun pins s σ H v u Q I r ⟨i, q⟩ => (h i).run pins s σ H v u Q I r q⟩
theorem pe_ex {ι : Type} {X : Cx} {e : Expr} {t : ι → TE} (h : ∀ i, PE X e (t i)) : PE X e (fun σ H Q => ∃ i, t i σ H Q) := ⟨fun pins s σ H Q I ⟨i, q⟩ => (h i).run pins s σ H Q I q⟩
theorem pts_ex {ι : Type} {X : Cx} {e : List Expr} {t : ι → TT} (h : ∀ i, PTs X e (t i)) : PTs X e (fun σ H Q => ∃ i, t i σ H Q) := ⟨fun pins s σ H Q I ⟨i, q⟩ => (h i).run pins s σ H Q I q⟩
theorem d_pts0 : PTs X [] (tT b E dYes) := ⟨fun pins s σ H Q I ⟨G, ρ, S, w⟩ => pts_nil.run pins s σ H Q I (w G H S (L2.Same.refl G))⟩
abbrev Bx (b : Bs) (i : Hp × (Addr → Prop)) : Bs := ⟨b.K, i.1, i.2, b.p⟩
theorem lc_read {i0 : TI} (hws : ∀ i ∈ ws, i ∈ own.map (·.2)) : ∀ σ H Q, tW b E (dLc fi gg ft fe (own.map (·.2))) σ H Q →
    tLc (tI b E fi) (fun v σ H Q => ∃ i, tG (Bx b i) ws gg v σ H Q) (fun σ H Q => ∃ i, tT (Bx b i) E0' ft σ H Q) (fun σ H Q => ∃ i, tD (Bx b i) E0' fe σ H Q) (own.map (·.2)) σ H Q := by
  rintro σ H Q ⟨Gs, ρs, S, w⟩
  generalize hvs : own.map (·.2) = vs at hws w ⊢
  refine ⟨Gs, ρs, S, w.bind.mono (L2.Same.refl Gs) fun ds ρ1 w1 J G0 H1 S1 s1 it D0 hD => ?_⟩
  have Sw : Sr b G0 H1 σ (wipeD ρ1 vs) := Sr.unwipe (σ' := L2.wipe σ vs) (S1.wipe vs) (wipe_idem σ vs)
  refine ⟨fun i m H => ∃ G ρ acc, Sr b G H (some (.ref D0) :: σ) (.ow (.lst acc) :: wipeD ρ vs) ∧ Same G0 G ∧ m = ds.length - i ∧ i ≤ ds.length ∧ Wp b E σ G0 (dLcL gg ft fe vs (ds.drop i) acc (wipeD ρ vs)) fun r ρ' => ∀ x G' H', Sr b G' H' (some x :: σ) (r.s :: ρ') → Same G0 G' → Q x H',
    ⟨ds.length, G0, ρ1, [], ?_, L2.Same.refl G0, rfl, Nat.zero_le _, ?_⟩, ?_⟩
  · exact Sw.pushO hD (Same.new hD) (.lst upd_same .nil)
  · exact Wp.mono w1 s1 fun r ρ' q x G' H' S' s' => q x G' H' S' (L2.Same.trans s1 s')
  rintro i m H ⟨G, ρ, acc, S, s, rfl, hi, w⟩
  by_cases hlt : i < ds.length
  · obtain ⟨vs', hp, ka, bD, nD, S2⟩ := S.shield
    refine .inr ⟨it.go i H hlt (L2.Same.trans s S.gh), fun H => ∃ G ρ acc, Sr b G H (some (.ref D0) :: σ) (.ow (.lst acc) :: wipeD ρ vs) ∧ Same G0 G ∧ Wp b E σ G0 (dLcL gg ft fe vs (ds.drop (i + 1)) acc (wipeD ρ vs)) fun r ρ' => ∀ x G' H', Sr b G' H' (some x :: σ) (r.s :: ρ') → Same G0 G' → Q x H',
      fun H' ⟨G', ρ', acc', S', s', w'⟩ => ⟨ds.length - (i + 1), by omega, G', ρ', acc', S', s', rfl, hlt, w'⟩, fun x H' y => ?_⟩
    obtain ⟨G', g, k⟩ := it.yld i G H x H' ds[i] (List.getElem?_eq_getElem hlt) s S.gh y
    rw [List.drop_eq_getElem_cons hlt] at w
    unfold dLcL at w
    cases eg : gg (.fz ds[i]) (wipeD ρ vs) with
    | none => rw [eg] at w; exact w.elim
    | some ρ1 =>
      rw [eg] at w
      dsimp only at w
      have S3 : Sr (b.sh D0 (.lst vs')) G' H' (L2.wipe σ vs) (wipeD ρ vs) := Sr.unwipe (σ' := σ) (S2.grow g) (wipe_idem σ vs).symm
      have s2 := L2.Same.trans s g.g
      refine ⟨(upd b.B D0 (.lst vs'), fun x => b.N x ∨ x = D0), G', wipeD ρ vs, .fz ds[i], ρ1, S3.push k, eg, fun σ2 S4 o2 => ⟨?_, ?_⟩⟩
      · rw [(o2.mono hws).wipe, wipe_idem]
      have e2 : L2.wipe σ2 vs = L2.wipe σ vs := by rw [(o2.mono hws).wipe, wipe_idem]
      refine ⟨(upd b.B D0 (.lst vs'), fun x => b.N x ∨ x = D0), G', ρ1, S4, ?_⟩
      cases ef : ft ρ1 with
      | bad => rw [ef] at w; exact w.elim
      | err c fs ρ2 => rw [ef] at w; exact w.elim
      | ok c ρ2 =>
        rw [ef] at w
        intro G5 H5 S5 s5
        cases c with
        | false =>
          have w : Wp b E σ G0 (dLcL gg ft fe vs (ds.drop (i + 1)) acc (wipeD ρ2 vs)) _ := w
          refine ⟨G5, ρ2, acc, ?_, L2.Same.trans s2 s5, w⟩
          have S6 : Sr (b.sh D0 (.lst vs')) G5 H5 σ (wipeD ρ2 vs) := Sr.unwipe (S5.wipe vs) (by rw [wipe_idem]; exact e2)
          have z := Sr.unshield bD nD S6 (ka.same (L2.Same.trans g.g s5))
          have hH : H5 D0 = some (.lst vs') := S5.bh D0 _ upd_same
          have e : upd H5 D0 (.lst vs') = H5 := by
            funext a
            unfold upd
            split
            · rename_i h
              rw [h, hH]
            · rfl
          rwa [e] at z
        | true =>
          dsimp only at w
          refine ⟨(upd b.B D0 (.lst vs'), fun x => b.N x ∨ x = D0), G5, ρ2, S5, ?_⟩
          cases er : fe ρ2 with
          | bad => rw [er] at w; exact w.elim
          | err c fs ρ3 => rw [er] at w; exact w.elim
          | ok r ρ3 =>
            rw [er] at w
            intro y G6 H6 S6 s6 k6
            have w : Wp b E σ G0 (if acc.length < sizeLine then dLcL gg ft fe vs (ds.drop (i + 1)) (acc ++ [r.z]) (wipeD ρ3 vs) else .bad) _ := w
            split at w
            · rename_i hlen
              refine ⟨vs', S6.bh D0 _ upd_same, by rw [ka.len]; exact hlen, G6, ρ3, acc ++ [r.z], ?_, L2.Same.trans s2 (L2.Same.trans s5 s6), w⟩
              have S7 : Sr (b.sh D0 (.lst vs')) G6 H6 σ (wipeD ρ3 vs) := Sr.unwipe (S6.wipe vs) (by rw [wipe_idem]; exact e2)
              exact Sr.unshield bD nD S7 ((ka.same (L2.Same.trans g.g (L2.Same.trans s5 s6))).snoc k6)
            · exact w.elim
  · have en : i = ds.length := by omega
    subst en
    rw [List.drop_length] at w
    exact .inl ⟨it.stop H (L2.Same.trans s S.gh), w _ G H S s⟩
theorem d_lc (hc : X.calm = true) (hN : X.N.Nodup) (hi : PI X tg iter (tI b E fi)) (ok : BlkOk X.N X.env.scope scope own) (hws : ∀ i ∈ ws, i ∈ own.map (·.2))
    (hg : ∀ (i : Hp × (Addr → Prop)) (s : Shared) (H : Hp) (C : Addr) (cl : List (Str × Addr)) (fp : List Addr), PG (X.blk s H scope (compEnvC scope cl C X.env) fp) tg (tG (Bx b i) ws gg))
    (ht : ∀ (i : Hp × (Addr → Prop)) (s : Shared) (H : Hp) (C : Addr) (cl : List (Str × Addr)) (fp : List Addr), PTs (X.blk s H scope (compEnvC scope cl C X.env) fp) ifs (tT (Bx b i) E0' ft))
    (he : ∀ (i : Hp × (Addr → Prop)) (s : Shared) (H : Hp) (C : Addr) (cl : List (Str × Addr)) (fp : List Addr), PE (X.blk s H scope (compEnvC scope cl C X.env) fp) elt (tW (Bx b i) E0' fe)) (hs : ∀ x, foldedSetIterable iter X.env x = pure x := by intro _; rfl) :
    PE X (.ListComp elt [⟨tg, iter, ifs, 0⟩] scope pos) (tW b E (dLc fi gg ft fe (own.map (·.2)))) :=
  PE.imp (pe_lc hc hN hi ok (fun s H C cl fp => pg_ex fun i => hg i s H C cl fp) (fun s H C cl fp => pts_ex fun i => ht i s H C cl fp) (fun s H C cl fp => pe_ex fun i => pe_z (he i s H C cl fp)) hs) (lc_read (i0 := tI b E fi) hws)
theorem d_pts1 {c : Expr} (h : PT X c (tT b E ft)) : PTs X [c] (tT b E ft) := pts_one h
/-- name = [..] on one line -/
theorem d_setLc {i : Nat} {y : Str} {py : Pos} {spos : Pos} (hc : X.calm = true) (hN : X.N.Nodup) (hy : X.N[i]? = some y) (hyl : X.env.scope.names.lookup y = some .local)
    (hsw : swapsWith (.ListComp elt [⟨tg, iter, ifs, 0⟩] scope pos) (some (.Name y py)) spos.line X.env = pure true) (hi : PI X tg iter (tI b E fi)) (ok : BlkOk X.N X.env.scope scope own) (hws : ∀ i ∈ ws, i ∈ own.map (·.2))
    (hg : ∀ (i : Hp × (Addr → Prop)) (s : Shared) (H : Hp) (C : Addr) (cl : List (Str × Addr)) (fp : List Addr), PG (X.blk s H scope (compEnvC scope cl C X.env) fp) tg (tG (Bx b i) ws gg))
    (ht : ∀ (i : Hp × (Addr → Prop)) (s : Shared) (H : Hp) (C : Addr) (cl : List (Str × Addr)) (fp : List Addr), PTs (X.blk s H scope (compEnvC scope cl C X.env) fp) ifs (tT (Bx b i) E0' ft))
    (he : ∀ (i : Hp × (Addr → Prop)) (s : Shared) (H : Hp) (C : Addr) (cl : List (Str × Addr)) (fp : List Addr), PE (X.blk s H scope (compEnvC scope cl C X.env) fp) elt (tW (Bx b i) E0' fe)) (hs : ∀ x, foldedSetIterable iter X.env x = pure x := by intro _; rfl) :
    PS X (.Assign [.Name y py] (.ListComp elt [⟨tg, iter, ifs, 0⟩] scope pos) spos) (tS b E (dAsg (dLc fi gg ft fe (own.map (·.2))) (gN i))) :=
  PS.imp (ps_setLc hc hN hy hyl hsw hi ok (fun s H C cl fp => pg_ex fun i => hg i s H C cl fp) (fun s H C cl fp => pts_ex fun i => ht i s H C cl fp) (fun s H C cl fp => pe_ex fun i => pe_z (he i s H C cl fp)) hs) fun D σ H w => by
    obtain ⟨G, ρ, S, w⟩ := rdAsg (vs := [i]) D σ H w
    exact lc_read (i0 := tI b E fi) hws _ _ _ ⟨G, ρ, S, w.mono (L2.Same.refl G) fun r ρ1 q x G1 H1 S1 s1 => rdN' _ _ _ _ (q x G1 H1 S1 s1)⟩
end
end DL

set_option Elab.async false
set_option linter.all false
set_option autoImplicit false
set_option maxRecDepth 100000
set_option maxHeartbeats 4000000
/-! the mirror layer: what is walked, defs and their calls -/
namespace DL
open PySem PySem.Spec PyProof.Rows L2 LK
/-! ### what is walked -/
def dItems : D → Option (List D)
  | .lst ds => some ds
  | .tup ds => some ds
  | .str w => some (w.map fun c => .str [c])
  | _ => none
theorem itd_of {K : PySem.W.Frag} {J : It} {n : Nat} {Gd : Hp → Prop} {Y : Nat → Hp → V → Hp → Prop} {ds : List D} {G : Hp} (w : Walk J n Gd Y) (hn : n = ds.length) (hG : ∀ H, Same G H → Gd H)
    (hy : ∀ i G1 H x H' d, ds[i]? = some d → Same G G1 → Same G1 H → Y i H x H' → ∃ G', Grow G1 H G' H' ∧ Den K G' x d) : ItD K J ds G := by
  subst hn
  refine ⟨fun i H hi s => w.goes i H hi (hG H s), fun H s => w.stops H (hG H s), fun i G1 H x H' d e s1 s2 y => ?_⟩
  exact hy i G1 H x H' d e s1 s2 (w.yields i H x H' (List.getElem?_eq_some_iff.mp e).1 (hG H (L2.Same.trans s1 s2)) y)
theorem itd_at {K : PySem.W.Frag} {G G1 H H' : Hp} {xs : List V} {ds : List D} {i : Nat} {x : V} {d : D} (t : DenA K G xs ds) (s1 : Same G G1) (s2 : Same G1 H) (e : ds[i]? = some d) (y : H' = H ∧ xs[i]? = some x) : ∃ G', Grow G1 H G' H' ∧ Den K G' x d := by
  obtain ⟨rfl, ex⟩ := y
  obtain ⟨d', ed, k⟩ := t.getV ex
  rw [e] at ed
  cases ed
  exact ⟨G1, Grow.refl s2, k.same s1⟩
theorem items_walk {K : PySem.W.Frag} {G : Hp} {x : V} {d : D} {ds : List D} (k : Den K G x d) (h : dItems d = some ds) : (∃ a, x = .ref a ∧ (∃ xs, SqL K G a xs) ∧ ItD K (Itl K a) ds G) ∨ (∃ a, x = .ref a ∧ (∃ xs, SqT K G a xs) ∧ ItD K (Itt K a) ds G) ∨ ∃ w, x = .str (toS w) ∧ ItD K (Its (toS w)) ds G := by
  cases k with
  | non => cases h
  | bl _ => cases h
  | int _ => cases h
  | scr _ => cases h
  | dK _ _ _ => cases h
  | exc0 _ _ => cases h
  | exc _ _ _ _ _ => cases h
  | @lst a xs ds' s t =>
    cases h
    exact .inl ⟨a, rfl, ⟨xs, SqL.of s⟩, itd_of (walk_list (K := K) (a := a) (xs := xs)) t.len (fun H e => e.seq (SqL.of s)) fun i G1 H x H' d e s1 s2 y => itd_at t s1 s2 e y⟩
  | @tup a xs ds' s t =>
    cases h
    exact .inr (.inl ⟨a, rfl, ⟨xs, s⟩, itd_of (walk_tup (K := K) (a := a) (xs := xs)) t.len (fun H e => seqT_same e s) fun i G1 H x H' d e s1 s2 y => itd_at t s1 s2 e y⟩)
  | str w =>
    cases h
    refine .inr (.inr ⟨w, rfl, itd_of (walk_str (z := toS w)) (by show w.toArray.size = _; simp) (fun _ _ => trivial) fun i G1 H x H' d e s1 s2 y => ?_⟩)
    obtain ⟨rfl, c, ec, rfl⟩ := y
    rw [List.getElem?_map] at e
    have ec : w[i]? = some c := by simpa using ec
    rw [ec] at e
    cases e
    exact ⟨G1, Grow.refl s2, .str [c]⟩
def dItV (f : DE) : DA := fun ρ => (f ρ).bind fun a ρ1 => RS.of (dItems a.z) ρ1
section
variable {X : Cx} {b : Bs} {E : XW} {tg e e2 : Expr} {f : DE} {fs : DA}
theorem ItD.up {K : PySem.W.Frag} {J : It} {ds : List D} {G G' : Hp} (h : ItD K J ds G) (s : Same G G') : ItD K J ds G' :=
  ⟨fun i H hi e => h.go i H hi (L2.Same.trans s e), fun H e => h.stop H (L2.Same.trans s e), fun i G1 H x H' d ed e1 e2 y => h.yld i G1 H x H' d ed (L2.Same.trans s e1) e2 y⟩
theorem PI.imp {t t' : TI} (h : PI X tg e t) (i : ∀ σ H R, t' σ H R → t σ H R) : PI X tg e t' := ⟨fun pins s σ H R I q => h.run pins s σ H R I (i σ H R q)⟩
theorem i_v (h : PE X e (tW b E f)) (hK : X.K = b.K := by rfl) : PI X tg e (tI b E (dItV f)) := PI.imp (piAny (K := b.K) (pe_z h) hK) fun σ H R ⟨G, ρ, S, w⟩ => ⟨G, ρ, S, w.bind.mono (L2.Same.refl G) fun a ρ1 w1 x G1 H1 S1 s1 k1 => by
  obtain ⟨ds, ed, q⟩ := w1.of
  rcases items_walk k1 ed with ⟨p, rfl, ⟨xs, hs⟩, it⟩ | ⟨p, rfl, ⟨xs, hs⟩, it⟩ | ⟨w, rfl, it⟩
  · exact .inl ⟨⟨xs, S1.gh.seq hs⟩, q _ G1 H1 S1 s1 it⟩
  · exact .inr ⟨⟨xs, seqT_same S1.gh hs⟩, q _ G1 H1 S1 s1 it⟩
  · exact q _ G1 H1 S1 s1 it⟩
def dR1 : List D → Option (List D)
  | [.int j] => if -(2 ^ 62) ≤ j ∧ j < 2 ^ 62 then some ((List.range j.toNat).map fun k => .int (k : Nat)) else none
  | _ => none
def dR2 : List D → Option (List D)
  | [.int i, .int j] => if (-(2 ^ 62) ≤ i ∧ i < 2 ^ 62) ∧ -(2 ^ 62) ≤ j ∧ j < 2 ^ 62 then some ((List.range (j - i).toNat).map fun k => .int (i + (k : Nat))) else none
  | _ => none
def dItN (g : List D → Option (List D)) (f : DA) : DA := fun ρ => (f ρ).bind fun a ρ1 => RS.of (g a) ρ1
theorem rng_walk {K : PySem.W.Frag} {G : Hp} {lo : Int} {n : Nat} {ds : List D} (h : ds = (List.range n).map fun k => D.int (lo + (k : Nat))) : ItD K (Itr lo n) ds G :=
  itd_of walk_range (by rw [h]; simp) (fun _ _ => trivial) fun i G1 H x H' d e s1 s2 y => by
    obtain ⟨rfl, rfl⟩ := y
    subst h
    rw [List.getElem?_map] at e
    obtain ⟨k, hk, rfl⟩ := Option.map_eq_some_iff.mp e
    rw [List.getElem?_range (by
      have := (List.getElem?_eq_some_iff.mp hk).1
      simpa using this)] at hk
    cases hk
    exact ⟨G1, Grow.refl s2, .int _⟩
theorem dR1_of {a ds : List D} (h : dR1 a = some ds) : ∃ j : Int, a = [.int j] ∧ -(2 ^ 62) ≤ j ∧ j < 2 ^ 62 ∧ ds = (List.range j.toNat).map fun k => D.int (k : Nat) := by
  unfold dR1 at h
  split at h
  · split at h
    · rename_i j hj
      cases h
      exact ⟨j, rfl, hj.1, hj.2, rfl⟩
    · cases h
  · cases h
theorem dR2_of {a ds : List D} (h : dR2 a = some ds) : ∃ i j : Int, a = [.int i, .int j] ∧ (-(2 ^ 62) ≤ i ∧ i < 2 ^ 62 ∧ -(2 ^ 62) ≤ j ∧ j < 2 ^ 62) ∧ ds = (List.range (j - i).toNat).map fun k => D.int (i + (k : Nat)) := by
  unfold dR2 at h
  split at h
  · split at h
    · rename_i i j hj
      cases h
      exact ⟨i, j, rfl, ⟨hj.1.1, hj.1.2, hj.2.1, hj.2.2⟩, rfl⟩
    · cases h
  · cases h
theorem den1 {K : PySem.W.Frag} {G : Hp} {xs : List V} {d : D} (k : DenA K G xs [d]) : ∃ x, xs = [x] ∧ Den K G x d := by
  cases k with
  | cons k1 k2 =>
    cases k2
    exact ⟨_, rfl, k1⟩
theorem den2 {K : PySem.W.Frag} {G : Hp} {xs : List V} {c d : D} (k : DenA K G xs [c, d]) : ∃ x y, xs = [x, y] ∧ Den K G x c ∧ Den K G y d := by
  cases k with
  | cons k1 k2 =>
    obtain ⟨y, rfl, k3⟩ := den1 k2
    exact ⟨_, y, rfl, k1, k3⟩
theorem den_int {K : PySem.W.Frag} {G : Hp} {x : V} {i : Int} (k : Den K G x (.int i)) : x = .int i := by cases k; rfl
theorem den_str {K : PySem.W.Frag} {G : Hp} {x : V} {w : List Nat} (k : Den K G x (.str w)) : x = .str (toS w) := by cases k; rfl
theorem den_bl {K : PySem.W.Frag} {G : Hp} {x : V} {c : Bool} (k : Den K G x (.bl c)) : x = .bl c := by cases k; rfl
theorem den_non {K : PySem.W.Frag} {G : Hp} {x : V} (k : Den K G x .non) : x = .non := by cases k; rfl
theorem den_lst {K : PySem.W.Frag} {G : Hp} {x : V} {ds : List D} (k : Den K G x (.lst ds)) : ∃ a xs, x = .ref a ∧ G a = some (.lst xs) ∧ DenA K G xs ds := by
  cases k with
  | lst s t => exact ⟨_, _, rfl, s, t⟩
theorem den_tup {K : PySem.W.Frag} {G : Hp} {x : V} {ds : List D} (k : Den K G x (.tup ds)) : ∃ a xs, x = .ref a ∧ SqT K G a xs ∧ DenA K G xs ds := by
  cases k with
  | tup s t => exact ⟨_, _, rfl, s, t⟩
theorem i_rng1 {p pos : Pos} (hg : Gl X "range") (hm : X.mg "range" = none) (ha : PA X [e] (tA b E fs)) (hs : starEach [e] X.env = [(false, eval e X.env)] := by rfl) : PI X tg (.Call (.Name "range" p) [e] [] pos) (tI b E (dItN dR1 fs)) :=
  PI.imp (pi_range1 hg hm ha hs) fun σ H R ⟨G, ρ, S, w⟩ => ⟨G, ρ, S, w.bind.mono (L2.Same.refl G) fun a ρ1 w1 xs G1 H1 S1 s1 k1 => by
    obtain ⟨ds, ed, q⟩ := w1.of
    obtain ⟨j, rfl, h0, h1, rfl⟩ := dR1_of ed
    obtain ⟨x, rfl, k⟩ := den1 k1
    cases den_int k
    exact ⟨j, rfl, h0, h1, q _ G1 H1 S1 s1 (rng_walk (by simp))⟩⟩
theorem i_rng2 {p pos : Pos} (hg : Gl X "range") (hm : X.mg "range" = none) (ha : PA X [e, e2] (tA b E fs)) (hs : starEach [e, e2] X.env = [(false, eval e X.env), (false, eval e2 X.env)] := by rfl) (hs2 : starEach [e2] X.env = [(false, eval e2 X.env)] := by rfl) : PI X tg (.Call (.Name "range" p) [e, e2] [] pos) (tI b E (dItN dR2 fs)) :=
  PI.imp (pi_range2 hg hm ha hs hs2) fun σ H R ⟨G, ρ, S, w⟩ => ⟨G, ρ, S, w.bind.mono (L2.Same.refl G) fun a ρ1 w1 xs G1 H1 S1 s1 k1 => by
    obtain ⟨ds, ed, q⟩ := w1.of
    obtain ⟨i, j, rfl, h0, rfl⟩ := dR2_of ed
    obtain ⟨x, y, rfl, k, k2⟩ := den2 k1
    cases den_int k
    cases den_int k2
    exact ⟨i, j, rfl, h0, q _ G1 H1 S1 s1 (rng_walk rfl)⟩⟩
/-- pairs -/
theorem itd_pair {K : PySem.W.Frag} {G1 H H' : Hp} {v : V} {c d : D} {xs ys : Nat → Option V} {i : Nat} (s2 : Same G1 H) (y : YPair xs ys i H v H') (hx : ∀ x, xs i = some x → Den K G1 x c) (hy : ∀ x, ys i = some x → Den K G1 x d) : ∃ G', Grow G1 H G' H' ∧ Den K G' v (.tup [c, d]) := by
  obtain ⟨T, x, z, rfl, n, rfl, ex, ez⟩ := y
  refine ⟨upd G1 T (.tup [x, z]), Grow.lay s2 n (Same.new n) upd_same, .tup (.inl (.inl upd_same)) ?_⟩
  have s := Same.new (o := .tup [x, z]) (free_of s2 n)
  exact .cons ((hx x ex).same s) (.cons ((hy z ez).same s) .nil)
def dEn : List D → Option (List D)
  | [.lst ds] => some (ds.zipIdx.map fun p => .tup [.int (p.2 : Nat), p.1])
  | _ => none
theorem i_enum {elts : List Expr} {kk : Nat} {tpos p pos : Pos} (hg : Gl X "enumerate") (hm : X.mg "enumerate" = none) (ha : PA X [e] (tA b E fs)) (hK : X.K = b.K := by rfl) (hs : starEach [e] X.env = [(false, eval e X.env)] := by rfl) :
    PI X (.Tuple elts kk tpos) (.Call (.Name "enumerate" p) [e] [] pos) (tI b E (dItN dEn fs)) :=
  PI.imp (pi_enum hg hm ha hs) fun σ H R ⟨G, ρ, S, w⟩ => ⟨G, ρ, S, w.bind.mono (L2.Same.refl G) fun a ρ1 w1 xs G1 H1 S1 s1 k1 => by
    obtain ⟨ds, ed, q⟩ := w1.of
    unfold dEn at ed
    split at ed
    · rename_i ds'
      cases ed
      obtain ⟨x, rfl, k⟩ := den1 k1
      obtain ⟨a, xs, rfl, hs, t⟩ := den_lst k
      refine ⟨a, xs, rfl, SqL.of (S1.gh _ _ hs), q _ G1 H1 S1 s1 ?_⟩
      rw [hK]
      refine itd_of (walk_enum (K := b.K) (a := a) (xs := xs)) (by rw [t.len]; simp) (fun H e => SqL.of (e _ _ hs)) fun i G2 H x H' d e s3 s4 y => ?_
      rw [List.getElem?_map, List.getElem?_zipIdx] at e
      obtain ⟨⟨d1, i1⟩, hd, rfl⟩ := Option.map_eq_some_iff.mp e
      obtain ⟨d2, h2, h3⟩ := Option.map_eq_some_iff.mp hd
      cases h3
      refine itd_pair s4 y (fun x ex => ?_) fun x ex => ?_
      · cases ex
        rw [Nat.zero_add]
        exact .int _
      · obtain ⟨d3, h3, k3⟩ := t.getV ex
        rw [h2] at h3
        cases h3
        exact k3.same s3
    · cases ed⟩
def dZi : List D → Option (List D)
  | [.lst cs, .lst ds] => some ((cs.zip ds).map fun p => .tup [p.1, p.2])
  | [.tup cs, .tup ds] => some ((cs.zip ds).map fun p => .tup [p.1, p.2])
  | _ => none
theorem zip_yld {K : PySem.W.Frag} {G G1 H H' : Hp} {xs ys : List V} {cs ds : List D} {i : Nat} {v : V} {d : D} (t1 : DenA K G xs cs) (t2 : DenA K G ys ds) (e : ((cs.zip ds).map fun p => D.tup [p.1, p.2])[i]? = some d) (s1 : Same G G1) (s2 : Same G1 H)
    (y : YPair (fun i => xs[i]?) (fun i => ys[i]?) i H v H') : ∃ G', Grow G1 H G' H' ∧ Den K G' v d := by
  rw [List.getElem?_map] at e
  obtain ⟨⟨c1, d1⟩, hd, rfl⟩ := Option.map_eq_some_iff.mp e
  obtain ⟨h1, h2⟩ := List.getElem?_zip_eq_some.mp hd
  refine itd_pair s2 y (fun x ex => ?_) fun x ex => ?_
  · obtain ⟨d3, h3, k3⟩ := t1.getV ex
    rw [h1] at h3
    cases h3
    exact k3.same s1
  · obtain ⟨d3, h3, k3⟩ := t2.getV ex
    rw [h2] at h3
    cases h3
    exact k3.same s1
theorem walk_zipT' {K : PySem.W.Frag} {a c : Addr} {xs ys : List V} {n : Nat} (hn : n = min xs.length ys.length) : Walk (RZ.ItzT K a c) n (fun H => SqT K H a xs ∧ SqT K H c ys) (YPair (fun i => xs[i]?) (fun i => ys[i]?)) := by
  subst hn
  refine ⟨fun i _ hi q => ?_, fun _ q => ⟨xs, ys, q.1, q.2, by omega⟩, fun i H v H' _ q y => ?_⟩
  · have h1 : i < xs.length := by omega
    have h2 : i < ys.length := by omega
    exact ⟨xs, ys, xs[i], ys[i], q.1, q.2, by simp [h1], by simp [h2]⟩
  · obtain ⟨T, x, z, h1, h2, h3, h4, h5⟩ := y
    exact ⟨T, x, z, h1, h2, h3, h4 xs q.1, h5 ys q.2⟩
theorem i_zip {elts : List Expr} {kk : Nat} {tpos p pos : Pos} (hg : Gl X "zip") (hm : X.mg "zip" = none) (ha : PA X [e, e2] (tA b E fs)) (hK : X.K = b.K := by rfl)
    (hs : starEach [e, e2] X.env = (false, eval e X.env) :: starEach [e2] X.env := by rfl) (hpl : (backTo pos (starEach [e2] X.env)).any (·.1) = false := by rfl) :
    PI X (.Tuple elts kk tpos) (.Call (.Name "zip" p) [e, e2] [] pos) (tI b E (dItN dZi fs)) :=
  PI.imp (RZ.pi_zipA hg hm ha hs hpl) fun σ H R ⟨G, ρ, S, w⟩ => ⟨G, ρ, S, w.bind.mono (L2.Same.refl G) fun a ρ1 w1 xs G1 H1 S1 s1 k1 => by
    obtain ⟨ds, ed, q⟩ := w1.of
    unfold dZi at ed
    split at ed
    · rename_i cs ds'
      cases ed
      obtain ⟨x, y, rfl, k, k'⟩ := den2 k1
      obtain ⟨a, xs, rfl, hs, t⟩ := den_lst k
      obtain ⟨a', ys, rfl, hs', t'⟩ := den_lst k'
      refine ⟨a, a', xs, ys, rfl, .inl ⟨SqL.of (S1.gh _ _ hs), SqL.of (S1.gh _ _ hs'), q _ G1 H1 S1 s1 ?_⟩⟩
      rw [hK]
      refine itd_of (walk_zip (K := b.K) (a := a) (b := a') (xs := xs) (ys := ys) rfl) (by rw [t.len, t'.len]; simp) (fun H e => ⟨SqL.of (e _ _ hs), SqL.of (e _ _ hs')⟩) fun i G2 H x H' d e s3 s4 y => zip_yld t t' e s3 s4 y
    · rename_i cs ds'
      cases ed
      obtain ⟨x, y, rfl, k, k'⟩ := den2 k1
      obtain ⟨a, xs, rfl, hs, t⟩ := den_tup k
      obtain ⟨a', ys, rfl, hs', t'⟩ := den_tup k'
      refine ⟨a, a', xs, ys, rfl, .inr ⟨hK ▸ seqT_same S1.gh hs, hK ▸ seqT_same S1.gh hs', q _ G1 H1 S1 s1 ?_⟩⟩
      rw [hK]
      refine itd_of (walk_zipT' (K := b.K) (a := a) (c := a') (xs := xs) (ys := ys) rfl) (by rw [t.len, t'.len]; simp) (fun H e => ⟨seqT_same e hs, seqT_same e hs'⟩) fun i G2 H x H' d e s3 s4 y => zip_yld t t' e s3 s4 y
    · cases ed⟩
end
/-! ### defs -/
/-- what a def promises: its mirror -/
def spP (K : PySem.W.Frag) (m : List D → Res Vl) : Sp := fun vs H Q E => ∃ G ds, Same G H ∧ DenA K G vs ds ∧ match m ds with
  | .ok r => Cn K G H r Q
  | .err c fs => ∀ cls dd G' H', Grow G H G' H' → XAt K G' c fs cls dd → E cls dd H'
  | .bad => False
/-- .. whose first argument is lent -/
def spB (K : PySem.W.Frag) (m : D → List D → Res (Vl × D)) : Sp := fun vs H Q E => ∃ G p c ws ds, Same G H ∧ G p = none ∧ vs = .ref p :: ws ∧ OwnAt K G H p c ∧ DenA K G ws ds ∧ match m c ds with
  | .ok (r, c') => ∀ x G' H', Same G G' → Same G' H' → But p H H' → (∀ a o, H a = some o → G a = none → G' a = none) → OwnAt K G' H' p c' → (match r with
      | .fz z => Den K G' x z
      | .ow z => ∃ q, x = .ref q ∧ H q = none ∧ G' q = none ∧ OwnAt K G' H' q z) → Q x H'
  | _ => False
def runD (f : DC) (ρ : DS) : Res Vl := match f ρ with
  | .ok (.rt r) _ => .ok r
  | .ok .nx _ => .ok (.fz .non)
  | .err c fs _ => .err c fs
  | _ => .bad
def runB (f : DC) (ρ : DS) : Res (Vl × D) := match f ρ with
  | .ok (.rt r) (.bw c :: _) => .ok (r, c)
  | .ok .nx (.bw c :: _) => .ok (.fz .non, c)
  | _ => .bad
def ent (n : Nat) (ds : List D) : DS := ds.map Sl.fz ++ List.replicate (n - ds.length) .un
abbrev bsP (K : PySem.W.Frag) (G H : Hp) : Bs := ⟨K, H, fun a => (∃ o, H a = some o) ∧ G a = none, none⟩
abbrev bsB (K : PySem.W.Frag) (G H : Hp) (p : Addr) : Bs := ⟨K, fun a => if a = p then none else H a, fun a => (∃ o, H a = some o) ∧ G a = none, some p⟩
theorem ent_slots {b : Bs} {G H : Hp} : ∀ {vs : List V} {ds : List D} {n : Nat}, DenA b.K G vs ds → ∀ (i : Nat) (x : Option V) (s : Sl), (vs.map some ++ List.replicate n none)[i]? = some x → (ds.map Sl.fz ++ List.replicate n .un)[i]? = some s → AtS b G H x s
  | [], [], n, _, i, x, s, h1, h2 => by
    rw [List.map_nil, List.nil_append] at h2
    have := List.eq_of_mem_replicate (List.mem_of_getElem? h2)
    subst this
    trivial
  | _, _, n, .cons k t, 0, x, s, h1, h2 => by
    cases h1
    cases h2
    exact ⟨_, rfl, k⟩
  | _, _, n, .cons k t, i + 1, x, s, h1, h2 => ent_slots t i x s h1 h2
theorem ent_now {ds : List D} {n : Nat} {i : Nat} {d : D} : (ds.map Sl.fz ++ List.replicate n Sl.un)[i]? ≠ some (Sl.ow d) := fun h => by
  rcases List.mem_append.mp (List.mem_of_getElem? h) with m | m
  · obtain ⟨x, _, e⟩ := List.mem_map.mp m
    cases e
  · cases List.eq_of_mem_replicate m
theorem ent_nob {ds : List D} {n : Nat} {i : Nat} {d : D} : (ds.map Sl.fz ++ List.replicate n Sl.un)[i]? ≠ some (Sl.bw d) := fun h => by
  rcases List.mem_append.mp (List.mem_of_getElem? h) with m | m
  · obtain ⟨x, _, e⟩ := List.mem_map.mp m
    cases e
  · cases List.eq_of_mem_replicate m
theorem Sr.entry {K : PySem.W.Frag} {G H : Hp} {N : List Str} {vs : List V} {ds : List D} (e : Same G H) (k : DenA K G vs ds) : Sr (bsP K G H) G H (L2.start N vs) (ent N.length ds) := by
  refine ⟨e, L2.Same.refl H, fun a n => n.2, fun a n => n.1, fun p h => (by cases h), fun i j d e h1 h2 => absurd h1 ent_nob, ?_, fun i x s h1 h2 => ?_, fun i j p q d e n h1 h2 h3 h4 => absurd h3 ent_now⟩
  · unfold L2.start ent
    rw [List.length_append, List.length_append, List.length_map, List.length_map, List.length_replicate, List.length_replicate, k.len]
  · unfold L2.start at h1
    unfold ent at h2
    rw [← k.len] at h2
    exact ent_slots (b := bsP K G H) k i x s h1 h2
theorem entry_ok {K : PySem.W.Frag} {E : XK} {G H : Hp} {N : List Str} {vs : List V} {ds : List D} {f : DC} {Q : VK} (e : Same G H) (k : DenA K G vs ds) (h : match runD f (ent N.length ds) with
    | .ok r => Cn K G H r Q
    | .err c fs => ∀ cls dd G' H', Grow G H G' H' → XAt K G' c fs cls dd → E cls dd H'
    | .bad => False) : tS (bsP K G H) (fun _ => E) f { nx := fun _ H' => Q .non H', rt := Q } (L2.start N vs) H := by
  refine ⟨G, ent N.length ds, Sr.entry e k, ?_⟩
  have grow : ∀ {σ : L2.St} {ρ : DS} {G' H' : Hp}, Sr (bsP K G H) G' H' σ ρ → Same G G' → Grow G H G' H' := fun S s => ⟨s, S.bh, S.gh, fun a o h1 h2 => S.gn a ⟨⟨o, h1⟩, h2⟩⟩
  unfold runD at h
  cases ef : f (ent N.length ds) with
  | bad => rw [ef] at h; exact h
  | err c fs ρ => rw [ef] at h; exact fun σ' cls dd G' H' S s x => h cls dd G' H' (grow S s) x
  | ok a ρ =>
    rw [ef] at h
    cases a with
    | nx => exact fun σ' G' H' S s => h _ G' H' (grow S s) .non
    | bk => exact h.elim
    | ct => exact h.elim
    | rt r =>
      intro x σ' G' H' S s
      cases r with
      | fz z =>
        obtain ⟨v, ev, kv⟩ := S.top
        cases ev
        exact h _ G' H' (grow S s) kv
      | ow z =>
        obtain ⟨p, ev, gp, bp, np, o⟩ := S.top
        cases ev
        exact h p G' H' (grow S s) bp gp o
end DL

set_option Elab.async false
set_option linter.all false
set_option autoImplicit false
set_option maxRecDepth 100000
set_option maxHeartbeats 4000000
/-! the mirror layer: calls, things changed in place -/
namespace DL
open PySem PySem.Spec PyProof.Rows L2 LK
/-- the thing in slot i is another one now -/
theorem Sr.chg {b : Bs} {G H G' H' : Hp} {σ : L2.St} {ρ : DS} (S : Sr b G H σ ρ) {i : Nat} {p : Addr} {c' : D} {s' : Sl} (hx : σ[i]? = some (some (.ref p)))
    (hs : (∃ c, ρ[i]? = some (.ow c) ∧ s' = .ow c') ∨ ∃ c, ρ[i]? = some (.bw c) ∧ s' = .bw c') (g : Same G G') (gh : Same G' H') (bt : But p H H') (n : ∀ a o, H a = some o → G a = none → G' a = none) (o : OwnAt b.K G' H' p c') : Sr b G' H' σ (ρ.set i s') := by
  -- p is neither below nor the frame's other own
  have facts : b.B p = none ∧ ∀ (j : Nat) (q : Addr) (d : D), j ≠ i → σ[j]? = some (some (.ref q)) → ρ[j]? = some (.ow d) → q ≠ p := by
    rcases hs with ⟨c, h1, _⟩ | ⟨c, h1, _⟩
    · obtain ⟨p', e, gp, bp, np, _⟩ := S.at_ i _ _ hx h1
      cases e
      exact ⟨bp, fun j q d n a1 a2 => S.dis j i q p d c n a1 hx a2 h1⟩
    · obtain ⟨p', ep, e, _⟩ := S.at_ i _ _ hx h1
      cases e
      obtain ⟨z1, z2⟩ := S.bp p ep
      refine ⟨z2, fun j q d n a1 a2 z => ?_⟩
      obtain ⟨q', e, _, _, nq, _⟩ := S.at_ j _ _ a1 a2
      cases e
      rw [z] at nq
      exact nq z1
  obtain ⟨bp, oth⟩ := facts
  have il : i < ρ.length := by
    rcases hs with ⟨c, h1, _⟩ | ⟨c, h1, _⟩
    · exact (List.getElem?_eq_some_iff.mp h1).1
    · exact (List.getElem?_eq_some_iff.mp h1).1
  have look : ∀ {j : Nat} {s : Sl}, (ρ.set i s')[j]? = some s → (j = i ∧ s = s') ∨ (j ≠ i ∧ ρ[j]? = some s) := fun {j s} h => by
    rw [List.getElem?_set] at h
    split at h
    · rename_i e
      first
        | exact .inl ⟨e.symm, (Option.some.inj h).symm⟩
        | (split at h
           · exact .inl ⟨e.symm, (Option.some.inj h).symm⟩
           · cases h)
    · rename_i e
      exact .inr ⟨fun z => e z.symm, h⟩
  have nH : ∀ a, b.N a → ∃ o, H' a = some o := fun a na => by
    by_cases ha : a = p
    · subst ha
      exact o.some
    · obtain ⟨u, hu⟩ := S.nh a na
      exact ⟨u, bt a u ha hu⟩
  refine ⟨gh, fun a u e => ?_, fun a na => ?_, nH, S.bp, fun j k d e h1 h2 => ?_, by rw [List.length_set]; exact S.len, fun j x s h1 h2 => ?_, fun j k q r d e ne h1 h2 h3 h4 => ?_⟩
  · have ha : a ≠ p := fun z => by rw [z, bp] at e; cases e
    exact bt a u ha (S.bh a u e)
  · obtain ⟨u, hu⟩ := S.nh a na
    exact n a u hu (S.gn a na)
  · rcases hs with ⟨c, z, rfl⟩ | ⟨c, z, rfl⟩
    · exact S.one j k d e (set_bw h1) (set_bw h2)
    · rcases look h1 with ⟨e1, _⟩ | ⟨n1, a1⟩
      · rcases look h2 with ⟨e2, _⟩ | ⟨n2, a2⟩
        · exact e1.trans e2.symm
        · exact e1.trans (S.one _ _ c e z a2)
      · rcases look h2 with ⟨e2, _⟩ | ⟨n2, a2⟩
        · exact (S.one _ _ d c a1 z).trans e2.symm
        · exact S.one _ _ d e a1 a2
  · rcases look h2 with ⟨rfl, rfl⟩ | ⟨nj, h2⟩
    · rw [hx] at h1
      cases h1
      rcases hs with ⟨c, z, rfl⟩ | ⟨c, z, rfl⟩
      · obtain ⟨p', e, gp, bp', np, oo⟩ := S.at_ j _ _ hx z
        cases e
        obtain ⟨u, hu⟩ := oo.some
        exact ⟨p, rfl, n p u hu gp, bp, np, o⟩
      · obtain ⟨p', ep, e, _⟩ := S.at_ j _ _ hx z
        cases e
        exact ⟨p, ep, rfl, o⟩
    · have z := S.at_ j x s h1 h2
      cases s with
      | un => trivial
      | fz d =>
        obtain ⟨v, e, k⟩ := z
        exact ⟨v, e, k.same g⟩
      | ow d =>
        obtain ⟨q, e, gq, bq, nq, oq⟩ := z
        subst e
        obtain ⟨u, hu⟩ := oq.some
        exact ⟨q, rfl, n q u hu gq, bq, nq, oq.same g fun u hu => bt q u (oth j q d nj h1 h2) hu⟩
      | bw d =>
        obtain ⟨q, ep, e, oq⟩ := z
        subst e
        have ne : q ≠ p := fun z => by
          rcases hs with ⟨c, h1', _⟩ | ⟨c, h1', _⟩
          · obtain ⟨p', e, _, _, np, _⟩ := S.at_ i _ _ hx h1'
            cases e
            rw [z] at ep
            exact np (S.bp p ep).1
          · exact nj (S.one j i d c h2 h1')
        exact ⟨q, ep, rfl, oq.same g fun u hu => bt q u ne hu⟩
  · rcases look h3 with ⟨e3, _⟩ | ⟨n3, a3⟩
    · rcases look h4 with ⟨e4, _⟩ | ⟨n4, a4⟩
      · exact absurd (e3.trans e4.symm) ne
      · rw [e3, hx] at h1
        cases h1
        exact (oth k r e n4 h2 a4).symm
    · rcases look h4 with ⟨e4, _⟩ | ⟨n4, a4⟩
      · rw [e4, hx] at h2
        cases h2
        exact oth j q d n3 h1 a3
      · exact S.dis j k q r d e ne h1 h2 a3 a4
end DL
namespace DL
open PySem PySem.Spec PyProof.Rows L2 LK
def ownL : Sl → Option (List D × (List D → Sl))
  | .ow (.lst ds) => some (ds, fun es => .ow (.lst es))
  | .bw (.lst ds) => some (ds, fun es => .bw (.lst es))
  | _ => none
theorem Sr.own {b : Bs} {G H : Hp} {σ : L2.St} {ρ : DS} (S : Sr b G H σ ρ) {i : Nat} {ds : List D} {mk : List D → Sl} (h : ownL (gs ρ i) = some (ds, mk)) : ∃ p vs, σ[i]? = some (some (.ref p)) ∧ H p = some (.lst vs) ∧ DenA b.K G vs ds ∧ G p = none ∧
    ∀ G' H' ws es, Same G G' → Same G' H' → But p H H' → (∀ a o, H a = some o → G a = none → G' a = none) → H' p = some (.lst ws) → DenA b.K G' ws es → Sr b G' H' σ (ρ.set i (mk es)) := by
  unfold ownL at h
  split at h
  · rename_i ds' e
    cases h
    obtain ⟨hr, p, hx, gp, bp, np, o⟩ := S.ow e
    cases o with
    | @lst vs _ h1 h2 => exact ⟨p, vs, hx, h1, h2, gp, fun G' H' ws es g gh bt n l k => S.chg hx (.inl ⟨_, hr, rfl⟩) g gh bt n (.lst l k)⟩
  · rename_i ds' e
    cases h
    obtain ⟨hr, p, ep, hx, o⟩ := S.bw e
    have gp := S.gn p (S.bp p ep).1
    cases o with
    | @lst vs _ h1 h2 => exact ⟨p, vs, hx, h1, h2, gp, fun G' H' ws es g gh bt n l k => S.chg hx (.inr ⟨_, hr, rfl⟩) g gh bt n (.lst l k)⟩
  · cases h
theorem same_but {G H H' : Hp} {p : Addr} (gh : Same G H) (gp : G p = none) (bt : But p H H') : Same G H' := fun a u e => bt a u (fun z => by rw [z, gp] at e; cases e) (gh a u e)
/-! ### calls of defs -/
def dCall (m : List D → Res Vl) (fs : DA) : DE := fun ρ => (fs ρ).bind fun ds ρ1 => RS.res (m ds) ρ1
def dCallB (m : D → List D → Res (Vl × D)) (i : Nat) (fs : DA) : DE := fun ρ => match ownL (gs ρ i) with
  | none => .bad
  | some _ => (fs ρ).bind fun ds ρ1 => match ownL (gs ρ1 i) with
    | none => .bad
    | some (cs, mk) => match m (.lst cs) ds with
      | .ok (r, .lst cs') => .ok r (ρ1.set i (mk cs'))
      | _ => .bad
theorem pAt {CX : CXT} {X : Cx} {E : XK} {σ : L2.St} (h : Passes CX X E) : PassesAt CX X σ E := fun pins H s e s' I c => h pins σ H s e s' I c
theorem pA0 {X : Cx} {E : XK} {σ : L2.St} : PassesAt CX0 X σ E := fun _ _ _ _ _ _ h => h.elim
theorem pAF {X : Cx} {σ : L2.St} : PassesAt (L2.CX X.prog X.w) X σ (E0' σ) := fun pins H s e s' I c => passF pins σ H s e s' I c
section
variable {X : Cx} {b : Bs} {E : XW} {e : Expr} {es : List Expr} {fs : DA} {x : Str} {p pos : Pos} {CX : CXT} {k : Nat} {f : Addr} {fd : FuncData} {ps : List Str} {m : List D → Res Vl}
theorem res_read {G H : Hp} {σ : L2.St} {ρ : DS} {G0 : Hp} {vs : List V} {ds : List D} {Q : VK} (S : Sr b G H σ ρ) (s : Same G0 G) (k : DenA b.K G vs ds) (w : Wp b E σ G0 (RS.res (m ds) ρ) fun r ρ' => ∀ x G' H', Sr b G' H' (some x :: σ) (r.s :: ρ') → Same G0 G' → Q x H') : spP b.K m vs H Q (E σ) := by
  refine ⟨G, ds, S.gh, k, ?_⟩
  cases em : m ds with
  | bad => rw [em] at w; exact w
  | err c fs => rw [em] at w; exact fun cls dd G' H' g x => w cls dd G' H' (S.grow g) (L2.Same.trans s g.g) x
  | ok r => rw [em] at w; exact Cn.of S fun x G' H' S' s' => w x G' H' S' (L2.Same.trans s s')
theorem d_call (F : FnOk X.prog X.w X.K X.mg X.base CX k f fd ps (spP b.K m)) (hr : Room k X.A) (hg : Gl X x) (hm : X.mg x = some (.ref f)) (hk : PySem.W.keepIn X.K (.ref f) = true) (hb : Binds X.K fd ps []) (hx : ∀ σ, PassesAt CX X σ (E σ)) (ha : PA X (e :: es) (tA b E fs))
    (hdb : (x == ("__debug__" : Str)) = false := by decide) (he : starEach (e :: es) X.env = (false, eval e X.env) :: starEach es X.env := by rfl) (hpl : (backTo pos (starEach es X.env)).any (·.1) = false := by rfl) : PE X (.Call (.Name x p) (e :: es) [] pos) (tW b E (dCall m fs)) :=
  PE.imp (pe_callSD F hr hg hm hk hb .nil hx ha hdb he hpl) fun σ H Q ⟨G, ρ, S, w⟩ => ⟨G, ρ, S, w.bind.mono (L2.Same.refl G) fun ds ρ1 w1 vs G1 H1 S1 s1 k1 => by
    show spP b.K m (vs ++ []) H1 Q (E σ)
    rw [List.append_nil]
    exact res_read S1 s1 k1 w1⟩
/-- with defaults dd behind what is given -/
def dCallD (m : List D → Res Vl) (dd : List D) (fs : DA) : DE := fun ρ => (fs ρ).bind fun ds ρ1 => RS.res (m (ds ++ dd)) ρ1
theorem d_callD {dvs : List V} {dus : List Value} {dd : List D} (F : FnOk X.prog X.w X.K X.mg X.base CX k f fd ps (spP b.K m)) (hr : Room k X.A) (hg : Gl X x) (hm : X.mg x = some (.ref f)) (hk : PySem.W.keepIn X.K (.ref f) = true) (hb : Binds X.K fd ps dus) (hd : Vals dvs dus) (hD : ∀ G, DenA b.K G dvs dd) (hx : ∀ σ, PassesAt CX X σ (E σ)) (ha : PA X (e :: es) (tA b E fs))
    (hdb : (x == ("__debug__" : Str)) = false := by decide) (he : starEach (e :: es) X.env = (false, eval e X.env) :: starEach es X.env := by rfl) (hpl : (backTo pos (starEach es X.env)).any (·.1) = false := by rfl) : PE X (.Call (.Name x p) (e :: es) [] pos) (tW b E (dCallD m dd fs)) :=
  PE.imp (pe_callSD F hr hg hm hk hb hd hx ha hdb he hpl) fun σ H Q ⟨G, ρ, S, w⟩ => ⟨G, ρ, S, w.bind.mono (L2.Same.refl G) fun ds ρ1 w1 vs G1 H1 S1 s1 k1 => res_read S1 s1 (k1.app (hD G1)) w1⟩
theorem d_call0 (F : FnOk X.prog X.w X.K X.mg X.base CX k f fd ps (spP b.K m)) (hr : Room k X.A) (hg : Gl X x) (hm : X.mg x = some (.ref f)) (hk : PySem.W.keepIn X.K (.ref f) = true) (hb : Binds X.K fd ps []) {E' : XK} (hE : ∀ σ, E σ = E') (hx : Passes CX X E')
    (hdb : (x == ("__debug__" : Str)) = false := by decide) : PE X (.Call (.Name x p) [] [] pos) (tW b E (dCall m dNil)) :=
  PE.imp (pe_call0 F hr hg hm hk hb .nil hx hdb) fun σ H Q ⟨G, ρ, S, w⟩ => by
    have w1 := w.bind
    have := res_read (b := b) (E := E) (vs := []) S (L2.Same.refl G) DenA.nil w1
    rw [hE] at this
    exact this
/-- with keywords: gD how the values come to the parameters -/
def dCallK (m : List D → Res Vl) (gD : List D → List D → List D) (fs fk : DA) : DE := fun ρ => (fs ρ).bind fun ds ρ1 => (fk ρ1).bind fun zs ρ2 => RS.res (m (gD ds zs)) ρ2
def tK (b : Bs) (E : XW) (f : DA) : TA := tA b E f
theorem dk_nil : PK X [] (tA b E dNil) := ⟨fun p pins s σ H Q I ⟨G, ρ, S, w⟩ => pk_nil.run p pins s σ H Q I (w [] G H S (L2.Same.refl G) .nil)⟩
theorem PK.imp {kws : List Keyword} {t t' : TA} (h : PK X kws t) (i : ∀ σ H Q, t' σ H Q → t σ H Q) : PK X kws t' := ⟨fun p pins s σ H Q I q => h.run p pins s σ H Q I (i σ H Q q)⟩
theorem dk_cons {kws : List Keyword} {nm : Option Str} {kpos : Pos} {fa : DE} (ha : PE X e (tW b E fa)) (hr : PK X kws (tA b E fs)) : PK X (⟨nm, e, kpos⟩ :: kws) (tA b E (dCons fa fs)) :=
  PK.imp (pk_cons (pe_z ha) hr) fun σ H Q ⟨G, ρ, S, w⟩ => ⟨G, ρ, S, w.bind.mono (L2.Same.refl G) fun a ρ1 w1 x G1 H1 S1 s1 k1 => ⟨G1, ρ1, S1, w1.bind.mono s1 fun ds ρ2 w2 ys G2 H2 S2 s2 k2 =>
    w2 (x :: ys) G2 H2 S2 (L2.Same.trans s1 s2) (.cons (k1.same s2) k2)⟩⟩
theorem d_callK {ks : List Str} {g : List Value → List Value → List Value} {gV : List V → List V → List V} {gD : List D → List D → List D} {kws : List Keyword} {fk : DA} (F : FnOk X.prog X.w X.K X.mg X.base CX k f fd ps (spP b.K m)) (hr : Room k X.A) (hg : Gl X x) (hm : X.mg x = some (.ref f)) (hk : PySem.W.keepIn X.K (.ref f) = true) (hb : KBinds X.K fd ps ks g gV) {E' : XK} (hE : ∀ σ, E σ = E') (hx : Passes CX X E')
    (hD : ∀ G vs ds zs es, DenA b.K G vs ds → DenA b.K G zs es → DenA b.K G (gV vs zs) (gD ds es)) (ha : PA X (e :: es) (tA b E fs)) (hkw : PK X kws (tA b E fk)) (hall : (backToKw pos (keywordEach kws X.env)).all (·.1.isSome) = true := by rfl) (hks : (backToKw pos (keywordEach kws X.env)).filterMap (·.1) = ks := by rfl)
    (hdb : (x == ("__debug__" : Str)) = false := by decide) (he : starEach (e :: es) X.env = (false, eval e X.env) :: starEach es X.env := by rfl)
    (hpl : ((backTo pos (starEach (e :: es) X.env)).any (·.1) || (backToKw pos (keywordEach kws X.env)).any (·.1.isNone)) = false := by rfl) : PE X (.Call (.Name x p) (e :: es) kws pos) (tW b E (dCallK m gD fs fk)) :=
  PE.imp (pe_callK F hr hg hm hk hb hx ha hkw hall hks hdb he hpl) fun σ H Q ⟨G, ρ, S, w⟩ => ⟨G, ρ, S, w.bind.mono (L2.Same.refl G) fun ds ρ1 w1 vs G1 H1 S1 s1 k1 => ⟨G1, ρ1, S1, w1.bind.mono s1 fun zs ρ2 w2 ys G2 H2 S2 s2 k2 => by
    have := res_read (b := b) (E := E) S2 (L2.Same.trans s1 s2) (hD G2 vs ds ys zs (k1.same s2) k2) w2
    rw [hE] at this
    exact this⟩⟩
theorem d_callK0 {ks : List Str} {g : List Value → List Value → List Value} {gV : List V → List V → List V} {gD : List D → List D → List D} {kws : List Keyword} {fk : DA} (F : FnOk X.prog X.w X.K X.mg X.base CX k f fd ps (spP b.K m)) (hr : Room k X.A) (hg : Gl X x) (hm : X.mg x = some (.ref f)) (hk : PySem.W.keepIn X.K (.ref f) = true) (hb : KBinds X.K fd ps ks g gV) {E' : XK} (hE : ∀ σ, E σ = E') (hx : Passes CX X E')
    (hD : ∀ G vs ds zs es, DenA b.K G vs ds → DenA b.K G zs es → DenA b.K G (gV vs zs) (gD ds es)) (hkw : PK X kws (tA b E fk)) (hall : (backToKw pos (keywordEach kws X.env)).all (·.1.isSome) = true := by rfl) (hks : (backToKw pos (keywordEach kws X.env)).filterMap (·.1) = ks := by rfl)
    (hdb : (x == ("__debug__" : Str)) = false := by decide) (hpl : ((backTo pos (starEach [] X.env)).any (·.1) || (backToKw pos (keywordEach kws X.env)).any (·.1.isNone)) = false := by rfl) : PE X (.Call (.Name x p) [] kws pos) (tW b E (dCallK m gD dNil fk)) :=
  PE.imp (pe_callK0 F hr hg hm hk hb hx hkw hall hks hdb hpl) fun σ H Q ⟨G, ρ, S, w⟩ => by
    have w1 : Wp b E σ G ((fk ρ).bind fun zs ρ2 => RS.res (m (gD [] zs)) ρ2) _ := w
    exact ⟨G, ρ, S, w1.bind.mono (L2.Same.refl G) fun zs ρ2 w2 ys G2 H2 S2 s2 k2 => by
      have := res_read (b := b) (E := E) S2 s2 (hD G2 [] [] ys zs .nil k2) w2
      rw [hE] at this
      exact this⟩
/-- the first argument lent -/
theorem d_callB {mB : D → List D → Res (Vl × D)} {e1 : Expr} {i : Nat} (F : FnOk X.prog X.w X.K X.mg X.base CX k f fd ps (spB b.K mB)) (hr : Room k X.A) (hg : Gl X x) (hm : X.mg x = some (.ref f)) (hk : PySem.W.keepIn X.K (.ref f) = true) (hb : Binds X.K fd ps []) (hx : ∀ σ, PassesAt CX X σ (E σ)) (h1 : PE X e1 (tVar i)) (ha : PA X es (tA b E fs))
    (hs : starEach (e1 :: es) X.env = (false, eval e1 X.env) :: starEach es X.env := by rfl) (hdb : (x == ("__debug__" : Str)) = false := by decide) (hpl : (backTo pos (starEach es X.env)).any (·.1) = false := by rfl) : PE X (.Call (.Name x p) (e1 :: es) [] pos) (tW b E (dCallB mB i fs)) :=
  PE.imp (pe_callSD F hr hg hm hk hb .nil hx (pa_cons h1 ha hs) hdb hs hpl) fun σ H Q ⟨G, ρ, S, w⟩ => by
    unfold dCallB at w
    cases eo : ownL (gs ρ i) with
    | none => rw [eo] at w; exact w.elim
    | some q =>
      rw [eo] at w
      dsimp only at w
      obtain ⟨p, vs, hx, hp, _, _, _⟩ := S.own (mk := q.2) (ds := q.1) eo
      refine ⟨.ref p, hx, G, ρ, S, w.bind.mono (L2.Same.refl G) fun ds ρ1 w1 ys G1 H1 S1 s1 k1 => ?_⟩
      cases eo1 : ownL (gs ρ1 i) with
      | none => rw [eo1] at w1; exact w1.elim
      | some q1 =>
        obtain ⟨cs, mk⟩ := q1
        rw [eo1] at w1
        dsimp only at w1
        obtain ⟨p', vs', hx', hp', kc, gp, next⟩ := S1.own eo1
        rw [hx] at hx'
        cases hx'
        rw [List.append_nil]
        refine ⟨G1, p, .lst cs, ys, ds, S1.gh, gp, rfl, .lst hp' kc, k1, ?_⟩
        cases em : mB (.lst cs) ds with
        | bad => rw [em] at w1; exact w1.elim
        | err c fs => rw [em] at w1; exact w1.elim
        | ok rc =>
          obtain ⟨r, c'⟩ := rc
          rw [em] at w1
          cases c' with
          | lst cs' =>
            intro y G' H' g gh bt n o kr
            cases o with
            | @lst ws _ l kl =>
              have S2 := next G' H' ws cs' g gh bt n l kl
              refine w1 y G' H' ?_ (L2.Same.trans s1 g)
              cases r with
              | fz z => exact S2.push kr
              | ow z =>
                obtain ⟨q, rfl, hq, gq, oq⟩ := kr
                -- a new thing: it was not there ahead of the call
                have bq : b.B q = none := by
                  cases eb : b.B q with
                  | none => rfl
                  | some u => rw [S1.bh q u eb] at hq; cases hq
                have nq : ¬ b.N q := fun z => by
                  obtain ⟨u, hu⟩ := S1.nh q z
                  rw [hq] at hu
                  cases hu
                refine ⟨S2.gh, S2.bh, S2.gn, S2.nh, S2.bp, fun i j d e h1 h2 => ?_, congrArg (· + 1) S2.len, fun j x s h1 h2 => ?_, fun j k q1 q2 d e ne h1 h2 h3 h4 => ?_⟩
                · cases i with
                  | zero => cases h1
                  | succ i =>
                    cases j with
                    | zero => cases h2
                    | succ j => exact congrArg (· + 1) (S2.one i j d e h1 h2)
                · cases j with
                  | zero =>
                    cases h1
                    cases h2
                    exact ⟨q, rfl, gq, bq, nq, oq⟩
                  | succ j => exact S2.at_ j x s h1 h2
                · have old : ∀ (k : Nat) (q' : Addr) (d' : D), σ[k]? = some (some (.ref q')) → (ρ1.set i (mk cs'))[k]? = some (Sl.ow d') → q' ≠ q := fun k q' d' a1 a2 z => by
                    have a3 : q' = p ∨ ∃ u, H1 q' = some u := by
                      rw [List.getElem?_set] at a2
                      split at a2
                      · rename_i e
                        rw [← e, hx] at a1
                        cases a1
                        exact .inl rfl
                      · obtain ⟨q3, e3, _, _, _, o3⟩ := S1.at_ k _ _ a1 a2
                        cases e3
                        exact .inr o3.some
                    rcases a3 with a3 | ⟨u, hu⟩
                    · rw [← z, a3, hp'] at hq
                      cases hq
                    · rw [z, hq] at hu
                      cases hu
                  cases j with
                  | zero =>
                    cases h1
                    cases k with
                    | zero => exact absurd rfl ne
                    | succ k => exact (old k q2 e h2 h4).symm
                  | succ j =>
                    cases k with
                    | zero =>
                      cases h2
                      exact old j q1 d h1 h3
                    | succ k => exact S2.dis j k q1 q2 d e (fun z => ne (congrArg (· + 1) z)) h1 h2 h3 h4
          | _ => exact w1.elim
end
/-! ### things changed in place -/
def dApp (i : Nat) (fe : DE) : DE := fun ρ => match ownL (gs ρ i) with
  | none => .bad
  | some _ => (fe ρ).bind fun a ρ1 => match ownL (gs ρ1 i) with
    | none => .bad
    | some (ds, mk) => if ds.length < sizeLine then .ok (.fz .non) (ρ1.set i (mk (ds ++ [a.z]))) else .bad
def dPop (i : Nat) : DE := fun ρ => match ownL (gs ρ i) with
  | none => .bad
  | some (ds, mk) => match ds.getLast? with
    | none => .bad
    | some d => .ok (.fz d) (ρ.set i (mk ds.dropLast))
def dSto (i : Nat) (fj fe : DE) : DC := fun ρ => (fe ρ).bind fun a ρ1 => match ownL (gs ρ1 i) with
  | none => .bad
  | some _ => (fj ρ1).bind fun k ρ2 => match ownL (gs ρ2 i), k.z with
    | some (ds, mk), .int j => (match ixN ds.length j with
      | some n => .ok .nx (ρ2.set i (mk (ds.set n a.z)))
      | none => .bad)
    | _, _ => .bad
def dAug (i : Nat) (f : D → D → Option D) (fe : DE) : DC := fun ρ => match gs ρ i with
  | .fz c => (fe ρ).bind fun a ρ1 => match f c a.z with
    | some d => .ok .nx (ρ1.set i (.fz d))
    | none => .bad
  | _ => .bad
section
variable {X : Cx} {b : Bs} {E : XW} {e o : Expr} {i : Nat} {fe fj : DE} {apos cpos pos : Pos}
theorem d_app (ho : PE X o (tVar i)) (he : PE X e (tW b E fe))
    (h1 : attributeBase o "append" X.env (eval o X.env) = eval o X.env := by rfl)
    (h2 : ((backTo cpos (starEach [e] X.env)).all (fun x => !x.1) && (backToKw cpos (keywordEach [] X.env)).all (fun x => x.1.isSome) && decide ([e].length + ([] : List Keyword).length + (if ([] : List Keyword).isEmpty then 0 else 1) < 30)) = true := by rfl)
    (h3 : (apos.endLine == cpos.line) = true := by rfl) (h4 : starEach [e] X.env = (false, eval e X.env) :: starEach [] X.env := by rfl) (h5 : (backTo cpos (starEach [] X.env)).any (·.1) = false := by rfl) (hK : X.K = b.K := by rfl) :
    PE X (.Call (.Attribute o "append" apos) [e] [] cpos) (tW b E (dApp i fe)) :=
  PE.imp (peBm (K := b.K) PySem.F.plainAttrs_list PySem.F.slot_list_append PySem.F.type_list_append mt_appendS ho (pa_cons (pe_z he) pa_nil h4) h1 h2 h3 h4 h5 hK) fun σ H Q ⟨G, ρ, S, w⟩ => by
    unfold dApp at w
    cases eo : ownL (gs ρ i) with
    | none => rw [eo] at w; exact w.elim
    | some q =>
      rw [eo] at w
      dsimp only at w
      obtain ⟨p, vs, hx, hp, _, _, _⟩ := S.own (mk := q.2) (ds := q.1) eo
      refine ⟨.ref p, hx, .inl ⟨rfl, vs, SqL.of hp⟩, G, ρ, S, w.bind.mono (L2.Same.refl G) fun a ρ1 w1 y G1 H1 S1 s1 k1 => ?_⟩
      cases eo1 : ownL (gs ρ1 i) with
      | none => rw [eo1] at w1; exact w1.elim
      | some q1 =>
        obtain ⟨ds, mk⟩ := q1
        rw [eo1] at w1
        dsimp only at w1
        obtain ⟨p', vs', hx', hp', kc, gp, next⟩ := S1.own eo1
        rw [hx] at hx'
        cases hx'
        split at w1
        · rename_i hl
          refine ⟨p, vs', y, rfl, rfl, hp', by rw [kc.len]; exact hl, fun H2 k2 b2 => ?_⟩
          exact w1 .non G1 H2 ((next G1 H2 (vs' ++ [y]) (ds ++ [a.z]) (L2.Same.refl G1) (same_but S1.gh gp b2) b2 (fun _ _ _ h => h) k2 (kc.snoc k1)).push .non) s1
        · exact w1.elim
theorem d_pop (ho : PE X o (tVar i)) (h1 : attributeBase o "pop" X.env (eval o X.env) = eval o X.env := by rfl) (h2 : (apos.endLine == cpos.line) = true := by rfl) (hK : X.K = b.K := by rfl) : PE X (.Call (.Attribute o "pop" apos) [] [] cpos) (tW b E (dPop i)) :=
  PE.imp (peBm0 (K := b.K) PySem.F.plainAttrs_list PySem.F.slot_list_pop PySem.F.type_list_pop mt_popS ho h1 h2 hK) fun σ H Q ⟨G, ρ, S, w⟩ => by
    unfold dPop at w
    cases eo : ownL (gs ρ i) with
    | none => rw [eo] at w; exact w.elim
    | some q =>
      obtain ⟨ds, mk⟩ := q
      rw [eo] at w
      dsimp only at w
      obtain ⟨p, vs, hx, hp, kc, gp, next⟩ := S.own eo
      cases el : ds.getLast? with
      | none => rw [el] at w; exact w.elim
      | some d =>
        rw [el] at w
        rw [List.getLast?_eq_getElem?] at el
        obtain ⟨y, hy, ky⟩ := kc.get el
        refine ⟨.ref p, hx, .inl ⟨rfl, vs, SqL.of hp⟩, p, vs, y, rfl, rfl, hp, by rw [kc.len]; exact hy, fun H2 k2 b2 => ?_⟩
        have kd : DenA b.K G vs.dropLast ds.dropLast := by
          rw [List.dropLast_eq_take, List.dropLast_eq_take, kc.len]
          exact kc.take _
        exact w y G H2 ((next G H2 vs.dropLast ds.dropLast (L2.Same.refl G) (same_but S.gh gp b2) b2 (fun _ _ _ h => h) k2 kd).push ky) (L2.Same.refl G)
theorem d_sto {j : Expr} {tpos : Pos} (ho : PE X o (tVar i)) (hj : PE X j (tW b E fj)) (he : PE X e (tW b E fe))
    (ha : ∀ v, assign (.Subscript o j tpos) X.env v = (do
      let ov ← holding [v] (eval o X.env)
      let iv ← holding [v, ov] (eval j X.env)
      standAt tpos
      holding [v, ov, iv] (setItem ov iv v)
      release [v, ov, iv] []) := by intro _; rfl) (hs : swapsWithSole [.Subscript o j tpos] e pos.line X.env = pure false := by rfl) (hw : swappedStores [.Subscript o j tpos] e X.env = pure none := by rfl)
    (h1 : (assignEach [.Subscript o j tpos] X.env).map (·.2) = [assign (.Subscript o j tpos) X.env] := by rfl) : PS X (.Assign [.Subscript o j tpos] e pos) (tS b E (dSto i fj fe)) :=
  PS.imp (ps_asg (pe_z he) (pg_sub ho (pe_z hj) set_M ha) hs hw h1) fun D σ H ⟨G, ρ, S, w⟩ => ⟨G, ρ, S, (Ws.bind w σ).mono (L2.Same.refl G) fun a ρ1 w1 v G1 H1 S1 s1 k1 => by
    cases eo : ownL (gs ρ1 i) with
    | none => rw [eo] at w1; exact w1.elim
    | some q =>
      rw [eo] at w1
      dsimp only at w1
      obtain ⟨p, vs, hx, hp, _, _, _⟩ := S1.own (mk := q.2) (ds := q.1) eo
      refine ⟨.ref p, hx, G1, ρ1, S1, (Ws.bind w1 σ).mono s1 fun k ρ2 w2 u G2 H2 S2 s2 k2 => ?_⟩
      cases eo1 : ownL (gs ρ2 i) with
      | none => rw [eo1] at w2; exact w2.elim
      | some q1 =>
        obtain ⟨ds, mk⟩ := q1
        rw [eo1] at w2
        obtain ⟨p', vs', hx', hp', kc, gp, next⟩ := S2.own eo1
        rw [hx] at hx'
        cases hx'
        cases ez : k.z with
        | int j' =>
          rw [ez] at w2 k2
          dsimp only at w2
          cases den_int k2
          cases en : ixN ds.length j' with
          | none => rw [en] at w2; exact w2.elim
          | some n =>
            rw [en] at w2
            refine ⟨p, vs', j', n, rfl, rfl, hp', by rw [kc.len]; exact en, ?_⟩
            have b2 : But p H2 (upd H2 p (.lst (vs'.set n v))) := fun c o h1 h2 => by rw [upd_ne h1]; exact h2
            exact w2 σ G2 _ (next G2 _ _ _ (L2.Same.refl G2) (same_but S2.gh gp b2) b2 (fun _ _ _ h => h) upd_same (kc.set n (k1.same s2))) (L2.Same.trans s1 s2)
        | _ => rw [ez] at w2; exact w2.elim⟩
def OpA (K : PySem.W.Frag) (ti : TIp) (f : D → D → Option D) : Prop := ∀ G H x y c a d Q, Same G H → Den K G x c → Den K G y a → f c a = some d → Cn K G H (.fz d) Q → ti x y H Q
theorem d_aug {x : Str} {op : Operator} {ti : TIp} {f : D → D → Option D} {pos' : Pos} (hf : OpA b.K ti f) (hN : X.N.Nodup) (hi : X.N[i]? = some x) (hx : Loc X.env.scope x) (he : PE X e (tW b E fe)) (ho : PIp X op ti) (hl : X.fn x = true ∨ X.env.scope.names.lookup x = some .local := by first | exact .inl rfl | exact .inr rfl | assumption) :
    PS X (.AugAssign (.Name x pos') op e pos) (tS b E (dAug i f fe)) := PS.imp (ps_aug hN hi hx (pe_z he) ho hl) fun D σ H ⟨G, ρ, S, w⟩ => by
  unfold dAug at w
  cases eg : gs ρ i with
  | fz c =>
    rw [eg] at w
    obtain ⟨v, hv, kv⟩ := S.fz eg
    refine ⟨v, hv, G, ρ, S, (Ws.bind w σ).mono (L2.Same.refl G) fun a ρ1 w1 y G1 H1 S1 s1 k1 => ?_⟩
    cases ef : f c a.z with
    | none => rw [ef] at w1; exact w1.elim
    | some d =>
      rw [ef] at w1
      exact hf G1 H1 v y c a.z d _ S1.gh (kv.same s1) k1 ef (Cn.of S1 fun z G2 H2 S2 s2 => w1 _ G2 H2 (S2.put i) (L2.Same.trans s1 s2))
  | _ => rw [eg] at w; exact w.elim
end
end DL

set_option Elab.async false
set_option linter.all false
set_option autoImplicit false
set_option maxRecDepth 100000
set_option maxHeartbeats 4000000
/-! the mirror layer: operations on data -/
namespace DL
open PySem PySem.Spec PyProof.Rows L2 LK
/-! ### data as the library's -/
mutual
def D.py : D → PyData
  | .non => .none
  | .bl b => .bool b
  | .int i => .int i
  | .str w => .str (toS w)
  | .lst ds => .list (D.pyA ds)
  | .tup ds => .tuple (D.pyA ds)
  | _ => .dict []
def D.pyA : List D → List PyData
  | [] => []
  | d :: ds => d.py :: D.pyA ds
end
/-- data that may be compared whole -/
def shp (d : D) : Bool := PySem.SeqAt.shaped d.py
mutual
theorem Den.dp {K : PySem.W.Frag} {G : Hp} : ∀ {v : V} {d : D}, Den K G v d → PyData.canLay0 d.py = true → Dp K G v d.py
  | _, _, .non, _ => .non
  | _, _, .bl b, _ => .bl b
  | _, _, .int i, _ => .int i
  | _, _, .str w, _ => .str _
  | _, _, .lst h t, c => .lst (SqL.of h) (DenA.dp t (by simpa [D.py, PyData.canLay0] using c))
  | _, _, .tup h t, c => .tup h (DenA.dp t (by simpa [D.py, PyData.canLay0] using c))
  | _, _, .scr _, c => by simp [D.py, PyData.canLay0] at c
  | _, _, .dK _ _ _, c => by simp [D.py, PyData.canLay0] at c
  | _, _, .exc0 _ _, c => by simp [D.py, PyData.canLay0] at c
  | _, _, .exc _ _ _ _ _, c => by simp [D.py, PyData.canLay0] at c
theorem DenA.dp {K : PySem.W.Frag} {G : Hp} : ∀ {vs : List V} {ds : List D}, DenA K G vs ds → PyData.canLayAll0 (D.pyA ds) = true → DpAll K G vs (D.pyA ds)
  | _, _, .nil, _ => .nil
  | _, _, .cons h t, c => by
    simp only [D.pyA, PyData.canLayAll0, Bool.and_eq_true] at c
    exact .cons (Den.dp h c.1) (DenA.dp t c.2)
end
theorem dp_same {K : PySem.W.Frag} {G H : Hp} {v : V} {d : D} (e : Same G H) (k : Den K G v d) (s : shp d = true) : Dp K H v d.py := (k.same e).dp (PySem.SeqAt.canLay_of_shaped s)
def eqv (a b : D) : Bool := PyData.eqv a.py b.py
/-! ### == -/
def eqSD : D → D → Option Bool
  | .int i, .int j => some (decide (i = j))
  | .str x, .str y => some (decide (x = y))
  | .bl a, .bl b => some (decide (a = b))
  | .non, .non => some true
  | .non, .int _ => some false
  | .int _, .non => some false
  | .non, .bl _ => some false
  | .bl _, .non => some false
  | .non, .str _ => some false
  | .str _, .non => some false
  | .int _, .str _ => some false
  | .str _, .int _ => some false
  | .bl _, .str _ => some false
  | .str _, .bl _ => some false
  | _, _ => none
def fEqB (a b : D) : Option Bool := match eqSD a b with
  | some c => some c
  | none => if shp a = true ∧ shp b = true then some (eqv a b) else none
def fEq (a b : D) : Option Vl := (fEqB a b).map fun c => .fz (.bl c)
def fNe (a b : D) : Option Vl := (fEqB a b).map fun c => .fz (.bl (!c))
theorem dec_iff {p q : Prop} [Decidable p] [Decidable q] (h : p ↔ q) : decide p = decide q := by
  rw [Bool.eq_iff_iff, decide_eq_true_eq, decide_eq_true_eq]
  exact h
theorem eqS_den {K : PySem.W.Frag} {G : Hp} {x y : V} {a b : D} {c : Bool} (k : Den K G x a) (l : Den K G y b) (h : eqSD a b = some c) : scal x y = true ∧ decide (x = y) = c := by
  cases k <;> cases l <;> simp only [eqSD, Option.some.injEq, reduceCtorEq] at h <;> subst h <;> refine ⟨rfl, ?_⟩ <;> first
    | rfl
    | exact dec_iff ⟨fun z => V.int.inj z, fun z => by rw [z]⟩
    | exact dec_iff ⟨fun z => V.bl.inj z, fun z => by rw [z]⟩
    | exact dec_iff ⟨fun z => toS_inj (V.str.inj z), fun z => by rw [z]⟩
    | exact decide_eq_false (fun z => by cases z)
theorem eq_ok {K : PySem.W.Frag} : Op2 K (rEqM K) fEq := fun G H x y a c z Q e k l h q => by
  obtain ⟨t, ht, rfl⟩ := Option.map_eq_some_iff.mp h
  unfold fEqB at ht
  split at ht
  · rename_i c' h'
    cases ht
    obtain ⟨h1, h2⟩ := eqS_den k l h'
    refine .inl ⟨h1, ?_⟩
    rw [h2]
    exact q.now e (.bl _)
  · split at ht
    · rename_i s
      cases ht
      exact .inr ⟨_, _, dp_same e k s.1, dp_same e l s.2, s.1, s.2, q.now e (.bl _)⟩
    · cases ht
theorem ne_ok {K : PySem.W.Frag} : Op2 K (rNeM K) fNe := fun G H x y a c z Q e k l h q => by
  obtain ⟨t, ht, rfl⟩ := Option.map_eq_some_iff.mp h
  unfold fEqB at ht
  split at ht
  · rename_i c' h'
    cases ht
    obtain ⟨h1, h2⟩ := eqS_den k l h'
    refine .inl ⟨h1, ?_⟩
    rw [h2]
    exact q.now e (.bl _)
  · split at ht
    · rename_i s
      cases ht
      exact .inr ⟨_, _, dp_same e k s.1, dp_same e l s.2, s.1, s.2, q.now e (.bl _)⟩
    · cases ht
/-! ### arithmetic -/
def fAdd : D → D → Option Vl
  | .int i, .int j => some (.fz (.int (i + j)))
  | .str x, .str y => if x.length + y.length ≤ sizeLine then some (.fz (.str (x ++ y))) else none
  | .lst x, .lst y => if x.length + y.length ≤ sizeLine then some (.ow (.lst (x ++ y))) else none
  | .tup x, .tup y => if x.length + y.length ≤ sizeLine then some (.fz (.tup (x ++ y))) else none
  | _, _ => none
theorem Cn.lay {K : PySem.W.Frag} {G H : Hp} {ds : List D} {vs : List V} {Q : VK} (h : Cn K G H (.fz (.tup ds)) Q) (e : Same G H) (k : DenA K G vs ds) : ∀ p, H p = none → Q (.ref p) (upd H p (.tup vs)) := fun p n => h.newT e n (Same.new n) upd_same k
theorem Cn.layL {K : PySem.W.Frag} {G H : Hp} {ds : List D} {vs : List V} {Q : VK} (h : Cn K G H (.ow (.lst ds)) Q) (e : Same G H) (k : DenA K G vs ds) : ∀ p, H p = none → Q (.ref p) (upd H p (.lst vs)) := fun p n => h.newL e n (Same.new n) upd_same k
theorem add_ok {K : PySem.W.Frag} : Op2 K (rAddM K) fAdd := fun G H x y a c z Q e k l h q => by
  cases k <;> cases l <;> simp only [fAdd, reduceCtorEq] at h
  · cases h
    exact q.now e (.int _)
  · split at h
    · rename_i hl
      cases h
      refine ⟨by rw [toS_len, toS_len]; exact hl, ?_⟩
      rw [toS_app]
      exact q.now e (.str _)
    · cases h
  · rename_i h1 t1 _ _ _ h2 t2
    split at h
    · rename_i hl
      cases h
      exact .inl ⟨_, _, e _ _ h1, e _ _ h2, by rw [t1.len, t2.len]; exact hl, q.layL e (t1.app t2)⟩
    · cases h
  · rename_i h1 t1 _ _ _ h2 t2
    split at h
    · rename_i hl
      cases h
      refine .inr ⟨_, _, _, _, rfl, rfl, seqT_same e h1, seqT_same e h2, by rw [t1.len, t2.len]; exact hl, fun z => ?_, fun _ z => ?_, fun _ _ => q.lay e (t1.app t2)⟩
      · subst z
        cases t1
        exact q.now e (.tup h2 t2)
      · subst z
        cases t2
        rw [List.append_nil] at q
        exact q.now e (.tup h1 t1)
    · cases h
def fI (f : Int → Int → Option Int) : D → D → Option Vl
  | .int i, .int j => (f i j).map fun r => .fz (.int r)
  | _, _ => none
theorem fI_of {f : Int → Int → Option Int} {a c : D} {z : Vl} (h : fI f a c = some z) : ∃ i j r, a = .int i ∧ c = .int j ∧ f i j = some r ∧ z = .fz (.int r) := by
  unfold fI at h
  split at h
  · obtain ⟨r, hr, rfl⟩ := Option.map_eq_some_iff.mp h
    exact ⟨_, _, r, rfl, rfl, hr, rfl⟩
  · cases h
def iSub (i j : Int) : Option Int := some (i - j)
def iMul (i j : Int) : Option Int := if ((-(2 ^ 64) < i ∧ i < 2 ^ 64) ∨ (-(2 ^ 64) < j ∧ j < 2 ^ 64)) ∨ i.natAbs.log2 + j.natAbs.log2 < 1000000 then some (i * j) else none
def iDiv (i j : Int) : Option Int := if (j ≠ 0 ∧ j.natAbs < 1073741824) ∨ (0 < j ∧ j.natAbs.log2 < 9000) then some (i.fdiv j) else none
def iMod (i j : Int) : Option Int := if j ≠ 0 then some (i.fmod j) else none
def iPow (i j : Int) : Option Int := if 0 ≤ j ∧ j ≤ 1000000 ∧ i.natAbs < 2 ^ 64 then some (i ^ j.toNat) else none
theorem i_ok {K : PySem.W.Frag} {C : Int → Int → Prop} {g : Int → Int → Int} {f : Int → Int → Option Int} (hf : ∀ i j r, f i j = some r → C i j ∧ g i j = r) : Op2 K (rI C fun i j => .int (g i j)) (fI f) := fun G H x y a c z Q e k l h q => by
  obtain ⟨i, j, r, rfl, rfl, hr, rfl⟩ := fI_of h
  cases den_int k
  cases den_int l
  obtain ⟨hc, rfl⟩ := hf i j r hr
  exact ⟨i, j, rfl, rfl, hc, q.now e (.int _)⟩
theorem sub_ok {K : PySem.W.Frag} : Op2 K (rI0 fun i j => .int (i - j)) (fI iSub) := fun G H x y a c z Q e k l h q => by
  obtain ⟨i, j, r, rfl, rfl, hr, rfl⟩ := fI_of h
  cases den_int k
  cases den_int l
  cases hr
  exact ⟨i, j, rfl, rfl, q.now e (.int _)⟩
theorem ite_some {p : Prop} [Decidable p] {α : Type} {a r : α} (h : (if p then some a else none) = some r) : p ∧ a = r := by
  split at h
  · rename_i hp
    exact ⟨hp, Option.some.inj h⟩
  · cases h
def rDivM : R2 := rI (fun i j => CDivN i j ∨ CDivW i j) fun i j => .int (i.fdiv j)
theorem op_divM {X : Cx} : OpR X (binaryOp .FloorDiv) rDivM := by
  intro pins s σ H x y v u Q I rx ry ⟨i, j, ex, ey, hc, q⟩
  rcases hc with hc | hc
  · exact op_fdivN pins s σ H x y v u Q I rx ry ⟨i, j, ex, ey, hc, q⟩
  · refine op_fdivW pins s σ H x y v u Q I rx ry ⟨i, j, ex, ey, hc, ?_⟩
    show Q (V.int (i / j)) H
    rw [← Int.fdiv_eq_ediv_of_nonneg i (Int.le_of_lt hc.1)]
    exact q
theorem div_ok {K : PySem.W.Frag} : Op2 K rDivM (fI iDiv) := i_ok fun i j r h => by
  obtain ⟨h1, h2⟩ := ite_some h
  exact ⟨h1, h2⟩
theorem mod_ok {K : PySem.W.Frag} : Op2 K (rI (fun _ j => j ≠ 0) fun i j => .int (i.fmod j)) (fI iMod) := i_ok fun i j r h => by
  obtain ⟨h1, h2⟩ := ite_some h
  exact ⟨h1, h2⟩
theorem pow_ok {K : PySem.W.Frag} : Op2 K (rI CPow fun i j => .int (i ^ j.toNat)) (fI iPow) := i_ok fun i j r h => by
  obtain ⟨h1, h2⟩ := ite_some h
  exact ⟨h1, h2⟩
def fMul : D → D → Option Vl
  | .lst x, .int k => if k < 2 ^ 63 ∧ -(2 ^ 63) ≤ k ∧ x.length * k.toNat ≤ sizeLine then some (.ow (.lst (List.replicate k.toNat x).flatten)) else none
  | a, c => fI iMul a c
theorem DenA.rep {K : PySem.W.Frag} {G : Hp} {vs : List V} {ds : List D} (k : DenA K G vs ds) : ∀ n : Nat, DenA K G (List.replicate n vs).flatten (List.replicate n ds).flatten
  | 0 => .nil
  | n + 1 => by
    rw [List.replicate_succ, List.replicate_succ, List.flatten_cons, List.flatten_cons]
    exact k.app (DenA.rep k n)
theorem mul_ok {K : PySem.W.Frag} : Op2 K (rMulM K) fMul := fun G H x y a c z Q e k l h q => by
  unfold fMul at h
  split at h
  · rename_i ds n
    obtain ⟨hl, rfl⟩ := ite_some h
    obtain ⟨p, vs, rfl, hp, t⟩ := den_lst k
    cases den_int l
    exact ⟨vs, e _ _ hp, hl.2.1, hl.1, by rw [t.len]; exact hl.2.2, q.layL e (t.rep _)⟩
  · obtain ⟨i, j, r, rfl, rfl, hr, rfl⟩ := fI_of h
    cases den_int k
    cases den_int l
    obtain ⟨hc, rfl⟩ := ite_some hr
    exact ⟨hc, q.now e (.int _)⟩
def fNeg : D → Option Vl
  | .int i => some (.fz (.int (-i)))
  | _ => none
/-! ### order -/
def fCmp (pi : Int → Int → Bool) (ps : List Nat → List Nat → Bool) : D → D → Option Vl
  | .int i, .int j => some (.fz (.bl (pi i j)))
  | .str x, .str y => some (.fz (.bl (ps x y)))
  | _, _ => none
theorem cmp_ok {K : PySem.W.Frag} {pi : Int → Int → Bool} {ps : List Nat → List Nat → Bool} : Op2 K (rCmpM pi fun i j => ps i.cps.toList j.cps.toList) (fCmp pi ps) := fun G H x y a c z Q e k l h q => by
  cases k <;> cases l <;> simp only [fCmp, reduceCtorEq] at h <;> cases h
  · exact q.now e (.bl _)
  · exact q.now e (.bl _)
abbrev fLt := fCmp (fun i j => decide (i < j)) fun x y => decide (x < y)
abbrev fLe := fCmp (fun i j => decide (i ≤ j)) fun x y => !decide (y < x)
abbrev fGt := fCmp (fun i j => decide (j < i)) fun x y => decide (y < x)
abbrev fGe := fCmp (fun i j => decide (j ≤ i)) fun x y => !decide (x < y)
/-! ### is -/
def fIsN : D → D → Option Vl
  | .non, .non => some (.fz (.bl true))
  | .exc _ _, .non => some (.fz (.bl false))
  | .lst _, .non => some (.fz (.bl false))
  | .tup _, .non => some (.fz (.bl false))
  | .dct _, .non => some (.fz (.bl false))
  | .int _, .non => some (.fz (.bl false))
  | .bl _, .non => some (.fz (.bl false))
  | .str _, .non => some (.fz (.bl false))
  | _, _ => none
def fNoN (a c : D) : Option Vl := match fIsN a c with
  | some (.fz (.bl t)) => some (.fz (.bl (!t)))
  | _ => none
theorem isN_ok {K : PySem.W.Frag} : Op2 K (fun x y H Q => y = .non ∧ Q (.bl (decide (x = .non))) H) fIsN := fun G H x y a c z Q e k l h q => by
  cases k <;> cases l <;> simp only [fIsN, reduceCtorEq] at h <;> cases h <;> refine ⟨rfl, ?_⟩ <;> exact q.now e (.bl _)
theorem noN_ok {K : PySem.W.Frag} : Op2 K (fun x y H Q => y = .non ∧ Q (.bl (!decide (x = .non))) H) fNoN := fun G H x y a c z Q e k l h q => by
  cases k <;> cases l <;> simp only [fNoN, fIsN, reduceCtorEq] at h <;> cases h <;> refine ⟨rfl, ?_⟩ <;> exact q.now e (.bl _)
def fIsB : D → D → Option Vl
  | .bl a, .bl c => some (.fz (.bl (decide (a = c))))
  | _, _ => none
def fNoB : D → D → Option Vl
  | .bl a, .bl c => some (.fz (.bl (!decide (a = c))))
  | _, _ => none
/-! ### places -/
def fIx : D → D → Option Vl
  | .lst ds, .int i => (atI ds i).map Vl.fz
  | .tup ds, .int i => (atI ds i).map Vl.fz
  | .str w, .int i => if w.length ≤ sizeLine then (atI w i).map fun c => .fz (.str [c]) else none
  | .scr ns, .int i => (atI ns i).map fun n => .fz (.int n)
  | _, _ => none
theorem DenA.at {K : PySem.W.Frag} {G : Hp} {vs : List V} {ds : List D} {i : Int} {d : D} (k : DenA K G vs ds) (h : atI ds i = some d) : ∃ v, atI vs i = some v ∧ Den K G v d := by
  unfold atI at h ⊢
  rw [k.len]
  obtain ⟨j, hj, hd⟩ := Option.bind_eq_some_iff.mp h
  obtain ⟨v, h1, h2⟩ := k.get hd
  exact ⟨v, by rw [hj]; exact h1, h2⟩
theorem ix_ok {K : PySem.W.Frag} : Op2 K (rIx K) fIx := fun G H x y a c z Q e k l h q => by
  cases l with
  | int i =>
    cases k with
    | @lst p vs ds hp t =>
      obtain ⟨d, hd, rfl⟩ := Option.map_eq_some_iff.mp (show (atI ds i).map Vl.fz = some z from h)
      obtain ⟨v, h1, h2⟩ := t.at hd
      exact .inl ⟨p, vs, i, v, rfl, rfl, SqL.of (e _ _ hp), h1, q.now e h2⟩
    | @tup p vs ds hp t =>
      obtain ⟨d, hd, rfl⟩ := Option.map_eq_some_iff.mp (show (atI ds i).map Vl.fz = some z from h)
      obtain ⟨v, h1, h2⟩ := t.at hd
      exact .inr (.inl ⟨p, vs, i, v, rfl, rfl, seqT_same e hp, h1, q.now e h2⟩)
    | str w =>
      change (if w.length ≤ sizeLine then (atI w i).map fun c => .fz (.str [c]) else none) = some z at h
      split at h
      · rename_i hl
        obtain ⟨c, hc, rfl⟩ := Option.map_eq_some_iff.mp h
        exact .inr (.inr ⟨_, i, c, rfl, rfl, by rw [toS_len]; exact hl, hc, q.now e (.str [c])⟩)
      · cases h
    | @scr p ns hp =>
      obtain ⟨n, hn, rfl⟩ := Option.map_eq_some_iff.mp (show (atI ns i).map (fun n => Vl.fz (.int n)) = some z from h)
      refine .inl ⟨p, _, i, .int n, rfl, rfl, e.seq hp, ?_, q.now e (.int n)⟩
      unfold atI at hn ⊢
      rw [List.length_map]
      obtain ⟨j, hj, hd⟩ := Option.bind_eq_some_iff.mp hn
      rw [hj]
      show (ns.map V.int)[j]? = _
      rw [List.getElem?_map, hd]
      rfl
    | _ => cases h
  | _ => cases k <;> cases h
/-! ### pieces -/
def cutG {α : Type} (xs : List α) (lo hi : Option Int) : List α := (xs.drop (HT.sIx xs.length 0 lo)).take (HT.sIx xs.length xs.length hi - HT.sIx xs.length 0 lo)
def fSl (a : D) (lo hi : Option Int) : Option Vl := match a with
  | .lst ds => some (.ow (.lst (cutG ds lo hi)))
  | .tup ds => some (.fz (.tup (cutG ds lo hi)))
  | .str w => if w.length ≤ sizeLine then some (.fz (.str (cutG w lo hi))) else none
  | _ => none
theorem DenA.cut {K : PySem.W.Frag} {G : Hp} {vs : List V} {ds : List D} (k : DenA K G vs ds) (lo hi : Option Int) : DenA K G (cutV vs lo hi) (cutG ds lo hi) := by
  unfold cutV cutG
  rw [k.len]
  exact (k.drop _).take _
theorem sl_ok {K : PySem.W.Frag} {G H : Hp} {x : V} {a : D} {lo hi : Option Int} {z : Vl} {Q : VK} (e : Same G H) (k : Den K G x a) (h : fSl a lo hi = some z) (q : Cn K G H z Q) : rSlM K x lo hi H Q := by
  cases k with
  | @lst p vs ds hp t =>
    cases h
    exact .inl ⟨p, vs, rfl, SqL.of (e _ _ hp), q.layL e (t.cut lo hi)⟩
  | @tup p vs ds hp t =>
    cases h
    refine .inr (.inl ⟨p, vs, rfl, seqT_same e hp, fun w => ?_, fun _ => q.lay e (t.cut lo hi)⟩)
    have w2 : cutG ds lo hi = ds := by
      unfold cutG
      rw [t.len] at w
      rw [w.1, w.2, List.drop_zero, Nat.sub_zero, List.take_length]
    rw [w2] at q
    exact q.now e (.tup hp t)
  | str w =>
    obtain ⟨hl, rfl⟩ := ite_some (show (if w.length ≤ sizeLine then some (Vl.fz (.str (cutG w lo hi))) else none) = some z from h)
    refine .inr (.inr ⟨_, rfl, by rw [toS_len]; exact hl, ?_⟩)
    have : cutS (toS w) lo hi = toS (cutG w lo hi) := by
      unfold cutS cutG
      rw [toS_len]
    rw [this]
    exact q.now e (.str _)
  | _ => cases h
abbrev DO := DS → RS (Option Int)
def tOd (b : Bs) (E : XW) (f : DO) : TO := fun σ H Q => ∃ G ρ, Sr b G H σ ρ ∧ Wp b E σ G (f ρ) fun o ρ' => ∀ G' H', Sr b G' H' σ ρ' → Same G G' → Q o H'
def dOn : DO := fun ρ => .ok none ρ
def dInt : D → Option Int
  | .int i => some i
  | _ => none
def dOs (f : DE) : DO := fun ρ => (f ρ).bind fun a ρ1 => RS.of ((dInt a.z).map some) ρ1
def dSl (fa : DE) (fl fh : DO) : DE := fun ρ => (fa ρ).bind fun a ρ1 => (fl ρ1).bind fun l ρ2 => (fh ρ2).bind fun h ρ3 => RS.of (fSl a.z l h) ρ3
section
variable {X : Cx} {b : Bs} {E : XW} {e : Expr} {lo hi : Option Expr} {fa : DE} {fl fh : DO} {pos pos' : Pos}
theorem PO.imp {o : Option Expr} {t t' : TO} (h : PO X o t) (i : ∀ σ H Q, t' σ H Q → t σ H Q) : PO X o t' := ⟨fun pins s σ H Q I q => h.run pins s σ H Q I (i σ H Q q)⟩
theorem do_n : PO X none (tOd b E dOn) := PO.imp po_none fun σ H Q ⟨G, ρ, S, w⟩ => w G H S (L2.Same.refl G)
theorem do_s (h : PE X e (tW b E fa)) : PO X (some e) (tOd b E (dOs fa)) := PO.imp (po_some (pe_z h)) fun σ H Q ⟨G, ρ, S, w⟩ => ⟨G, ρ, S, w.bind.mono (L2.Same.refl G) fun a ρ1 w1 x G1 H1 S1 s1 k1 => by
  obtain ⟨o, ho, q⟩ := w1.of
  obtain ⟨i, hi, rfl⟩ := Option.map_eq_some_iff.mp ho
  cases ea : a.z with
  | int j =>
    rw [ea] at hi k1
    cases hi
    exact ⟨i, den_int k1, q G1 H1 S1 s1⟩
  | _ => rw [ea] at hi; cases hi⟩
theorem d_sl (he : PE X e (tW b E fa)) (hl : PO X lo (tOd b E fl)) (hh : PO X hi (tOd b E fh)) (hK : X.K = b.K := by rfl) : PE X (.Subscript e (.Slice lo hi none pos') pos) (tW b E (dSl fa fl fh)) :=
  PE.imp (pe_slice (slM (K := b.K) hK) (pe_z he) hl hh) fun σ H Q ⟨G, ρ, S, w⟩ => ⟨G, ρ, S, w.bind.mono (L2.Same.refl G) fun a ρ1 w1 x G1 H1 S1 s1 k1 => ⟨G1, ρ1, S1, w1.bind.mono s1 fun l ρ2 w2 G2 H2 S2 s2 => ⟨G2, ρ2, S2, w2.bind.mono (L2.Same.trans s1 s2) fun h ρ3 w3 G3 H3 S3 s3 => by
    obtain ⟨z, ez, q⟩ := w3.of
    exact sl_ok S3.gh (k1.same (L2.Same.trans s2 s3)) ez (Cn.of S3 fun v G4 H4 S4 s4 => q v G4 H4 S4 (L2.Same.trans s1 (L2.Same.trans s2 (L2.Same.trans s3 s4))))⟩⟩⟩
end
end DL

set_option Elab.async false
set_option linter.all false
set_option autoImplicit false
set_option maxRecDepth 100000
set_option maxHeartbeats 4000000
/-! the mirror layer: more operations on data -/
namespace DL
open PySem PySem.Spec PyProof.Rows L2 LK
/-! ### in -/
def flatD : D → Bool
  | .non => true
  | .bl _ => true
  | .int _ => true
  | .str _ => true
  | _ => false
def fInB (x y : D) : Option Bool := match y with
  | .str z => (match x with
    | .str [c] => some (decide (c ∈ z))
    | .str w => some (!(Builtin.Str.occurrences (toS z) (toS w) 0 z.length 1).isEmpty)
    | _ => none)
  | .lst ds => if flatD x = true ∧ ds.all flatD = true then some (ds.any fun d => eqv d x) else none
  | .tup ds => if flatD x = true ∧ ds.all flatD = true then some (ds.any fun d => eqv d x) else none
  | _ => none
def fIn (x y : D) : Option Vl := (fInB x y).map fun c => .fz (.bl c)
def fNin (x y : D) : Option Vl := (fInB x y).map fun c => .fz (.bl (!c))
theorem flat_den {K : PySem.W.Frag} {G : Hp} {v : V} {d : D} (k : Den K G v d) (h : flatD d = true) : flatV v = true := by
  cases k <;> first | rfl | cases h
theorem eqV_den {K : PySem.W.Frag} {G : Hp} {v u : V} {c d : D} (k : Den K G v c) (l : Den K G u d) (h1 : flatD c = true) (h2 : flatD d = true) : eqV v u = eqv c d := by
  cases k <;> cases l <;> first | cases h1 | cases h2 | skip
  all_goals first
    | rfl
    | (simp only [eqv, D.py, PyData.eqv, eqV]; done)
    | (simp [eqv, D.py, PyData.eqv, eqV]; done)
theorem inV_den {K : PySem.W.Frag} {G : Hp} {v : V} {c : D} (k : Den K G v c) (h : flatD c = true) : ∀ {vs : List V} {ds : List D}, DenA K G vs ds → ds.all flatD = true → vs.all flatV = true ∧ inV v vs = ds.any fun d => eqv d c
  | _, _, .nil, _ => ⟨rfl, rfl⟩
  | _, _, .cons kd t, ha => by
    rw [List.all_cons, Bool.and_eq_true] at ha
    obtain ⟨i1, i2⟩ := inV_den k h t ha.2
    refine ⟨by rw [List.all_cons, flat_den kd ha.1, i1]; rfl, ?_⟩
    unfold inV at i2 ⊢
    rw [List.any_cons, List.any_cons, i2, eqV_den kd k ha.1 h]
theorem in_ok {K : PySem.W.Frag} (neg : Bool) : Op2 K (rInM K neg) (fun x y => (fInB x y).map fun c => .fz (.bl (if neg then !c else c))) := fun G H x y a c z Q e k l h q => by
  obtain ⟨t, ht, rfl⟩ := Option.map_eq_some_iff.mp h
  have qq := q.now e (.bl _)
  unfold fInB at ht
  split at ht
  · rename_i z
    cases den_str l
    split at ht
    · rename_i c
      cases ht
      cases den_str k
      refine ⟨_, rfl, ?_⟩
      rw [sign_in]
      exact qq
    · rename_i w _
      cases ht
      cases den_str k
      refine ⟨_, rfl, ?_⟩
      rw [toS_len]
      exact qq
    · cases ht
  · obtain ⟨hf, rfl⟩ := ite_some ht
    obtain ⟨p, vs, rfl, hp, t⟩ := den_lst l
    obtain ⟨i1, i2⟩ := inV_den k hf.1 t hf.2
    refine ⟨p, vs, rfl, .inl (SqL.of (e _ _ hp)), flat_den k hf.1, i1, ?_⟩
    rw [i2]
    exact qq
  · obtain ⟨hf, rfl⟩ := ite_some ht
    obtain ⟨p, vs, rfl, hp, t⟩ := den_tup l
    obtain ⟨i1, i2⟩ := inV_den k hf.1 t hf.2
    refine ⟨p, vs, rfl, .inr (seqT_same e hp), flat_den k hf.1, i1, ?_⟩
    rw [i2]
    exact qq
  · cases ht
theorem inn_ok {K : PySem.W.Frag} : Op2 K (rInM K false) fIn := in_ok false
theorem nin_ok {K : PySem.W.Frag} : Op2 K (rInM K true) fNin := in_ok true
/-! ### built-ins -/
def fLen : List D → Option Vl
  | [.str w] => if w.length ≤ sizeLine then some (.fz (.int (w.length : Nat))) else none
  | [.lst ds] => some (.fz (.int (ds.length : Nat)))
  | [.tup ds] => some (.fz (.int (ds.length : Nat)))
  | [.scr ns] => some (.fz (.int (ns.length : Nat)))
  | _ => none
theorem len_ok {K : PySem.W.Frag} : OpN K (LK.rLen K) fLen := fun G H xs ds z Q e kk h q => by
  unfold fLen at h
  split at h
  · obtain ⟨x, rfl, k⟩ := den1 kk
    cases den_str k
    obtain ⟨hl, rfl⟩ := ite_some h
    exact ⟨_, _, rfl, ⟨by rw [toS_len]; exact hl, (toS_len _).symm⟩, q.now e (.int _)⟩
  · obtain ⟨x, rfl, k⟩ := den1 kk
    obtain ⟨p, vs, rfl, hp, t⟩ := den_lst k
    cases h
    exact ⟨_, _, rfl, .inl ⟨vs, SqL.of (e _ _ hp), t.len.symm⟩, q.now e (.int _)⟩
  · obtain ⟨x, rfl, k⟩ := den1 kk
    obtain ⟨p, vs, rfl, hp, t⟩ := den_tup k
    cases h
    exact ⟨_, _, rfl, .inr ⟨vs, seqT_same e hp, t.len.symm⟩, q.now e (.int _)⟩
  · obtain ⟨x, rfl, k⟩ := den1 kk
    cases k with
    | scr hp =>
      cases h
      exact ⟨_, _, rfl, .inl ⟨_, e.seq hp, by rw [List.length_map]⟩, q.now e (.int _)⟩
  · cases h
inductive Ty where
  | int | str | tup | lst | bool | dct
def Ty.n : Ty → String
  | .int => "int"
  | .str => "str"
  | .tup => "tuple"
  | .lst => "list"
  | .bool => "bool"
  | .dct => "dict"
def isT : Ty → D → Option Bool
  | .int, .int _ => some true
  | .int, .bl _ => some true
  | .str, .str _ => some true
  | .tup, .tup _ => some true
  | .lst, .lst _ => some true
  | .bool, .bl _ => some true
  | _, .non => some false
  | _, .bl _ => some false
  | _, .int _ => some false
  | _, .str _ => some false
  | _, .lst _ => some false
  | _, .tup _ => some false
  | _, _ => none
def fIsT (t : Ty) (d : D) : Option Vl := (isT t d).map fun c => .fz (.bl c)
theorem tyT_of {K : PySem.W.Frag} {H : Hp} {a : Addr} {xs : List V} (h : SqT K H a xs) : TyX K H (.ref a) (.type "tuple") := by
  rcases h with (h | ⟨o, h⟩) | ⟨o, its, n, h, c, _⟩
  · exact .base (.tup h)
  · exact .fTuple h
  · exact .kTuple h c
theorem isT_ok {K : PySem.W.Frag} {t : Ty} {G H : Hp} {x : V} {d : D} {c : Bool} (e : Same G H) (k : Den K G x d) (h : isT t d = some c) : ∃ u, TyX K H x u ∧ PySem.W.kitOne K u (.type t.n) = some c := by
  cases k with
  | non => cases t <;> cases h <;> exact ⟨_, .base .non, kit_ty (by decide +kernel)⟩
  | bl b => cases t <;> cases h <;> exact ⟨_, .base (.bl b), kit_ty (by decide +kernel)⟩
  | int i => cases t <;> cases h <;> exact ⟨_, .base (.int i), kit_ty (by decide +kernel)⟩
  | str w => cases t <;> cases h <;> exact ⟨_, .base (.str _), kit_ty (by decide +kernel)⟩
  | lst hp _ => cases t <;> cases h <;> exact ⟨_, .base (.lst (e _ _ hp)), kit_ty (by decide +kernel)⟩
  | tup hp _ => cases t <;> cases h <;> exact ⟨_, tyT_of (seqT_same e hp), kit_ty (by decide +kernel)⟩
  | _ => cases t <;> cases h
section
variable {X : Cx} {b : Bs} {E : XW} {e e2 : Expr} {es : List Expr} {fe : DE} {fs : DA} {pos p : Pos} {x : Str}
theorem d_b {id : String} {r : List V → Hp → VK → Prop} {f : List D → Option Vl} (hc : CallR X (.builtin id) r) (hf : OpN b.K r f) (hg : Gl X x) (hm : X.mg x = none) (hv : bootBuiltins x = some (.builtin id)) (ha : PA X (e :: es) (tA b E fs)) (hn : x ≠ "__name__" := by decide) (hdb : (x == ("__debug__" : Str)) = false := by decide)
    (he : starEach (e :: es) X.env = (false, eval e X.env) :: starEach es X.env := by rfl) (hpl : (backTo pos (starEach es X.env)).any (·.1) = false := by rfl) : PE X (.Call (.Name x p) (e :: es) [] pos) (tW b E (dOpN f fs)) :=
  PE.imp (pe_callB hc hg hm hv ha hn hdb he hpl) (rdN hf)
theorem d_ty {T : String} {r : List V → Hp → VK → Prop} {f : List D → Option Vl} (hc : CallR X (.type T) r) (hf : OpN b.K r f) (hg : Gl X x) (hm : X.mg x = none) (hv : bootBuiltins x = some (.type T)) (ha : PA X (e :: es) (tA b E fs)) (hn : x ≠ "__name__" := by decide) (hdb : (x == ("__debug__" : Str)) = false := by decide)
    (he : starEach (e :: es) X.env = (false, eval e X.env) :: starEach es X.env := by rfl) (hpl : (backTo pos (starEach es X.env)).any (·.1) = false := by rfl) : PE X (.Call (.Name x p) (e :: es) [] pos) (tW b E (dOpN f fs)) :=
  PE.imp (pe_callTy hc hg hm hv ha hn hdb he hpl) (rdN hf)
theorem d_isT {t : Ty} (h2 : PE X e2 (tC (.ty t.n))) (ha : PE X e (tW b E fe)) (hg : Gl X "isinstance") (hm : X.mg "isinstance" = none) (hK : X.K = b.K := by rfl)
    (hs : starEach [e, e2] X.env = (false, eval e X.env) :: starEach [e2] X.env := by rfl) (hs2 : starEach [e2] X.env = (false, eval e2 X.env) :: starEach [] X.env := by rfl) (hpl : (backTo pos (starEach [e2] X.env)).any (·.1) = false := by rfl) :
    PE X (.Call (.Name "isinstance" p) [e, e2] [] pos) (tW b E (dOp1 (fIsT t) fe)) :=
  PE.imp (pe_callB (cIsi (K := b.K) hK) hg hm (by decide +kernel) (pa_cons (pe_z ha) (pa_cons h2 pa_nil hs2) hs) (by decide) (by decide) hs hpl) fun σ H Q ⟨G, ρ, S, w⟩ => ⟨G, ρ, S, w.bind.mono (L2.Same.refl G) fun a ρ1 w1 x G1 H1 S1 s1 k1 => by
    obtain ⟨z, ez, q⟩ := w1.of
    obtain ⟨c, hc, rfl⟩ := Option.map_eq_some_iff.mp ez
    obtain ⟨u, hu, hk⟩ := isT_ok S1.gh k1 hc
    exact ⟨x, _, u, _, c, rfl, .ty _, hu, hk, q _ G1 H1 (S1.push (.bl _)) s1⟩⟩
end
def fInt : List D → Option Vl
  | [.int i] => some (.fz (.int i))
  | [.bl b] => some (.fz (.int (if b then 1 else 0)))
  | [.str w] => if w.length ≤ 640 then (PySem.intText? (toS w)).map fun n => .fz (.int n) else none
  | _ => none
theorem int_ok {K : PySem.W.Frag} : OpN K rIntS fInt := fun G H xs ds z Q e kk h q => by
  unfold fInt at h
  split at h
  · obtain ⟨x, rfl, k⟩ := den1 kk
    cases den_int k
    cases h
    exact .inl (.inl ⟨_, rfl, q.now e (.int _)⟩)
  · obtain ⟨x, rfl, k⟩ := den1 kk
    cases den_bl k
    cases h
    exact .inl (.inr ⟨_, rfl, q.now e (.int _)⟩)
  · obtain ⟨x, rfl, k⟩ := den1 kk
    cases den_str k
    split at h
    · rename_i hl
      obtain ⟨n, hn, rfl⟩ := Option.map_eq_some_iff.mp h
      exact .inr ⟨_, n, rfl, hn, by rw [toS_len]; exact hl, q.now e (.int _)⟩
    · cases h
  · cases h
def fTupl : List D → Option Vl
  | [.lst ds] => some (.fz (.tup ds))
  | [.tup ds] => some (.fz (.tup ds))
  | _ => none
theorem tupl_ok {K : PySem.W.Frag} : OpN K (rTupOf K) fTupl := fun G H xs ds z Q e kk h q => by
  unfold fTupl at h
  split at h
  · obtain ⟨x, rfl, k⟩ := den1 kk
    obtain ⟨p, vs, rfl, hp, t⟩ := den_lst k
    cases h
    exact ⟨p, vs, rfl, .inl ⟨SqL.of (e _ _ hp), q.lay e t⟩⟩
  · obtain ⟨x, rfl, k⟩ := den1 kk
    obtain ⟨p, vs, rfl, hp, t⟩ := den_tup k
    cases h
    exact ⟨p, vs, rfl, .inr ⟨seqT_same e hp, q.now e (.tup hp t)⟩⟩
  · cases h
def fList : List D → Option Vl
  | [.lst ds] => some (.ow (.lst ds))
  | [.tup ds] => some (.ow (.lst ds))
  | [.str w] => if w.length ≤ sizeLine then some (.ow (.lst (w.map fun c => .str [c]))) else none
  | _ => none
theorem signs_den {K : PySem.W.Frag} {G : Hp} : ∀ w : List Nat, DenA K G (w.map fun c => V.str ⟨#[c]⟩) (w.map fun c => D.str [c])
  | [] => .nil
  | c :: w => .cons (.str [c]) (signs_den w)
theorem list_ok {K : PySem.W.Frag} : OpN K (rListM K) fList := fun G H xs ds z Q e kk h q => by
  unfold fList at h
  split at h
  · obtain ⟨x, rfl, k⟩ := den1 kk
    obtain ⟨p, vs, rfl, hp, t⟩ := den_lst k
    cases h
    exact .inl ⟨p, vs, rfl, .inl (SqL.of (e _ _ hp)), q.layL e t⟩
  · obtain ⟨x, rfl, k⟩ := den1 kk
    obtain ⟨p, vs, rfl, hp, t⟩ := den_tup k
    cases h
    exact .inl ⟨p, vs, rfl, .inr (seqT_same e hp), q.layL e t⟩
  · obtain ⟨x, rfl, k⟩ := den1 kk
    cases den_str k
    obtain ⟨hl, rfl⟩ := ite_some h
    exact .inr ⟨_, rfl, by rw [toS_len]; exact hl, q.layL e (signs_den _)⟩
  · cases h
/-- a list of truths -/
def blsD : List D → Option (List Bool)
  | [] => some []
  | .bl c :: ds => (blsD ds).map (c :: ·)
  | _ => none
theorem bls_den {K : PySem.W.Frag} {G : Hp} : ∀ {vs : List V} {ds : List D} {bs : List Bool}, DenA K G vs ds → blsD ds = some bs → vs = bs.map V.bl
  | _, _, _, .nil, h => by cases h; rfl
  | _, _, _, .cons (d := d) kd t, h => by
    cases d with
    | bl c =>
      obtain ⟨bs, hb, rfl⟩ := Option.map_eq_some_iff.mp (show (blsD _).map (c :: ·) = some _ from h)
      cases den_bl kd
      rw [bls_den t hb]
      rfl
    | _ => cases h
def fAll : List D → Option Vl
  | [.lst ds] => (blsD ds).map fun bs => .fz (.bl (bs.all id))
  | _ => none
def fAny : List D → Option Vl
  | [.lst ds] => (blsD ds).map fun bs => .fz (.bl (bs.any id))
  | _ => none
theorem all_ok {K : PySem.W.Frag} : OpN K (rAll K) fAll := fun G H xs ds z Q e kk h q => by
  unfold fAll at h
  split at h
  · obtain ⟨x, rfl, k⟩ := den1 kk
    obtain ⟨p, vs, rfl, hp, t⟩ := den_lst k
    obtain ⟨bs, hb, rfl⟩ := Option.map_eq_some_iff.mp h
    exact ⟨p, bs, rfl, bls_den t hb ▸ SqL.of (e _ _ hp), q.now e (.bl _)⟩
  · cases h
theorem any_ok {K : PySem.W.Frag} : OpN K (rAny K) fAny := fun G H xs ds z Q e kk h q => by
  unfold fAny at h
  split at h
  · obtain ⟨x, rfl, k⟩ := den1 kk
    obtain ⟨p, vs, rfl, hp, t⟩ := den_lst k
    obtain ⟨bs, hb, rfl⟩ := Option.map_eq_some_iff.mp h
    exact ⟨p, bs, rfl, bls_den t hb ▸ SqL.of (e _ _ hp), q.now e (.bl _)⟩
  · cases h
def fMin2 : List D → Option Vl
  | [.int i, .int j] => some (.fz (.int (if j < i then j else i)))
  | _ => none
def fMax2 : List D → Option Vl
  | [.int i, .int j] => some (.fz (.int (if j > i then j else i)))
  | _ => none
theorem min2_ok {K : PySem.W.Frag} : OpN K rMin2 fMin2 := fun G H xs ds z Q e kk h q => by
  unfold fMin2 at h
  split at h
  · obtain ⟨x, y, rfl, k, l⟩ := den2 kk
    cases den_int k
    cases den_int l
    cases h
    exact ⟨_, _, rfl, q.now e (.int _)⟩
  · cases h
theorem max2_ok {K : PySem.W.Frag} : OpN K rMax2 fMax2 := fun G H xs ds z Q e kk h q => by
  unfold fMax2 at h
  split at h
  · obtain ⟨x, y, rfl, k, l⟩ := den2 kk
    cases den_int k
    cases den_int l
    cases h
    exact ⟨_, _, rfl, q.now e (.int _)⟩
  · cases h
/-! ### texts put together, cut -/
def strsD : List D → Option (List (List Nat))
  | [] => some []
  | .str w :: ds => (strsD ds).map (w :: ·)
  | _ => none
theorem strs_den {K : PySem.W.Frag} {G : Hp} : ∀ {vs : List V} {ds : List D} {ws : List (List Nat)}, DenA K G vs ds → strsD ds = some ws → vs = (ws.map toS).map V.str
  | _, _, _, .nil, h => by cases h; rfl
  | _, _, _, .cons (d := d) kd t, h => by
    cases d with
    | str c =>
      obtain ⟨bs, hb, rfl⟩ := Option.map_eq_some_iff.mp (show (strsD _).map (c :: ·) = some _ from h)
      cases den_str kd
      rw [strs_den t hb]
      rfl
    | _ => cases h
def glue (s : List Nat) : List (List Nat) → List Nat
  | [] => []
  | [w] => w
  | w :: v :: ws => w ++ s ++ glue s (v :: ws)
theorem glue_foldl (s w : List Nat) : ∀ ws : List (List Nat), glue s (w :: ws) = ws.foldl (fun acc v => acc ++ s ++ v) w
  | [] => rfl
  | v :: ws => by
    have h : ∀ (a : List Nat) (l : List (List Nat)) (x : List Nat), a ++ l.foldl (fun acc v => acc ++ s ++ v) x = l.foldl (fun acc v => acc ++ s ++ v) (a ++ x) := by
      intro a l
      induction l with
      | nil => intro x; rfl
      | cons y l ih =>
        intro x
        rw [List.foldl_cons, List.foldl_cons, ih]
        simp [List.append_assoc]
    show w ++ s ++ glue s (v :: ws) = _
    rw [glue_foldl s v ws, h, List.foldl_cons]
theorem join_glue (s : List Nat) (ws : List (List Nat)) : Txt.join (toS s) (ws.map toS) = toS (glue s ws) := by
  cases ws with
  | nil => rfl
  | cons w ws =>
    rw [glue_foldl]
    have key : ∀ (l : List (List Nat)) (acc : Array Nat), ((l.map toS).foldl (fun acc p => acc ++ (toS s).cps ++ p.cps) acc) = (l.foldl (fun acc v => acc ++ s ++ v) acc.toList).toArray := by
      intro l
      induction l with
      | nil => intro acc; simp
      | cons y l ih =>
        intro acc
        rw [List.map_cons, List.foldl_cons, ih, List.foldl_cons]
        simp
    show Str.mk ((ws.map toS).foldl (fun acc p => acc ++ (toS s).cps ++ p.cps) (toS w).cps) = _
    rw [key]
/-- a text's method of one value -/
def dM1 (f : List Nat → D → Option Vl) (fo fe : DE) : DE := fun ρ => (fo ρ).bind fun a ρ1 => match a.z with
  | .str s => (fe ρ1).bind fun c ρ2 => RS.of (f s c.z) ρ2
  | _ => .bad
def fJoin (s : List Nat) (d : D) : Option Vl := match d with
  | .lst ds => (strsD ds).bind fun ws => if (ws.map List.length).sum + ws.length * s.length ≤ 16777216 then some (.fz (.str (glue s ws))) else none
  | .tup ds => (strsD ds).bind fun ws => if (ws.map List.length).sum + ws.length * s.length ≤ 16777216 then some (.fz (.str (glue s ws))) else none
  | _ => none
theorem len_map (ws : List (List Nat)) : ((ws.map toS).map (·.length)) = ws.map List.length := by
  rw [List.map_map]
  exact List.map_congr_left fun w _ => toS_len w
section
variable {X : Cx} {b : Bs} {E : XW} {e o : Expr} {fo fe : DE} {apos pos : Pos}
/-- what such a method asks and gives -/
def OpS (K : PySem.W.Frag) (r : V → List V → Hp → VK → Prop) (f : List Nat → D → Option Vl) : Prop := ∀ G H s y c z Q, Same G H → Den K G y c → f s c = some z → Cn K G H z Q → r (.str (toS s)) [y] H Q
theorem rdM1 {r : V → List V → Hp → VK → Prop} {f : List Nat → D → Option Vl} (hf : OpS b.K r f) : ∀ σ H Q, tW b E (dM1 f fo fe) σ H Q → tM1 r (tD b E fo) (tD b E fe) σ H Q := fun σ H Q ⟨G, ρ, S, w⟩ => ⟨G, ρ, S, w.bind.mono (L2.Same.refl G) fun a ρ1 w1 x G1 H1 S1 s1 k1 => by
    cases ea : a.z with
    | str s =>
      rw [ea] at k1 w1
      cases den_str k1
      have w1 : Wp b E σ G ((fe ρ1).bind fun c ρ2 => RS.of (f s c.z) ρ2) _ := w1
      exact ⟨⟨_, rfl⟩, G1, ρ1, S1, w1.bind.mono s1 fun c ρ2 w3 y G2 H2 S2 s2 k2 => by
        obtain ⟨z, ez, q⟩ := w3.of
        exact hf G2 H2 s y _ z Q S2.gh k2 ez (Cn.of S2 fun v G3 H3 S3 s3 => q v G3 H3 S3 (L2.Same.trans s1 (L2.Same.trans s2 s3)))⟩
    | _ => rw [ea] at w1; exact w1.elim⟩
theorem join_ok {K : PySem.W.Frag} : OpS K (rJoin K) fJoin := fun G H s y c z Q e k h q => by
  unfold fJoin at h
  split at h
  · obtain ⟨ws, hw, hz⟩ := Option.bind_eq_some_iff.mp h
    obtain ⟨hl, rfl⟩ := ite_some hz
    obtain ⟨p, vs, rfl, hp, t⟩ := den_lst k
    refine ⟨_, p, ws.map toS, rfl, rfl, .inl (strs_den t hw ▸ SqL.of (e _ _ hp)), ?_, ?_⟩
    · rw [len_map, List.length_map, toS_len]
      exact hl
    · rw [join_glue]
      exact q.now e (.str _)
  · obtain ⟨ws, hw, hz⟩ := Option.bind_eq_some_iff.mp h
    obtain ⟨hl, rfl⟩ := ite_some hz
    obtain ⟨p, vs, rfl, hp, t⟩ := den_tup k
    refine ⟨_, p, ws.map toS, rfl, rfl, .inr (strs_den t hw ▸ seqT_same e hp), ?_, ?_⟩
    · rw [len_map, List.length_map, toS_len]
      exact hl
    · rw [join_glue]
      exact q.now e (.str _)
  · cases h
theorem d_join (ho : PE X o (tW b E fo)) (he : PE X e (tW b E fe)) (hs : starEach [e] X.env = [(false, eval e X.env)] := by rfl) (hbase : attributeBase o "join" X.env (eval o X.env) = eval o X.env := by rfl)
    (hline : (apos.endLine == pos.line) = true := by rfl) (hK : X.K = b.K := by rfl) : PE X (.Call (.Attribute o "join" apos) [e] [] pos) (tW b E (dM1 fJoin fo fe)) :=
  PE.imp (peJoin (K := b.K) (pe_z ho) (pe_z he) hs hbase hline hK) (rdM1 join_ok)
/-- the pieces of a text between the places of another one -/
def splitW (s t : List Nat) : List (List Nat) := (Txt.split (toS s) (toS t)).map fun z => z.cps.toList
def fSplit (s : List Nat) (d : D) : Option Vl := match d with
  | .str t => if t ≠ [] ∧ s.length + 2 ≤ sizeLine then some (.ow (.lst ((splitW s t).map .str))) else none
  | _ => none
theorem strs_vals {K : PySem.W.Frag} {G : Hp} : ∀ ys : List Str, DenA K G (ys.map V.str) ((ys.map fun z => z.cps.toList).map .str)
  | [] => .nil
  | y :: ys => by
    have h := Den.str (K := K) (G := G) y.cps.toList
    rw [← toS_of] at h
    exact .cons h (strs_vals ys)
theorem split_ok {K : PySem.W.Frag} : OpS K (fun x xs H Q => ∃ a b, x = .str a ∧ xs = [.str b] ∧ (b.length == 0) = false ∧ a.length + 2 ≤ sizeLine ∧ rNewStrs (Txt.split a b) H Q) fSplit := fun G H s y c z Q e k h q => by
  unfold fSplit at h
  split at h
  · rename_i t
    obtain ⟨hl, rfl⟩ := ite_some h
    cases den_str k
    refine ⟨_, _, rfl, rfl, ?_, by rw [toS_len]; exact hl.2, q.layL e (strs_vals _)⟩
    rw [toS_len]
    cases t with
    | nil => exact absurd rfl hl.1
    | cons a t => rfl
  · cases h
theorem d_split (ho : PE X o (tW b E fo)) (he : PE X e (tW b E fe)) (hs : starEach [e] X.env = [(false, eval e X.env)] := by rfl) (hbase : attributeBase o "split" X.env (eval o X.env) = eval o X.env := by rfl) (hline : (apos.endLine == pos.line) = true := by rfl) : PE X (.Call (.Attribute o "split" apos) [e] [] pos) (tW b E (dM1 fSplit fo fe)) :=
  PE.imp (pe_split (pe_z ho) (pe_z he) hs hbase hline) (rdM1 split_ok)
/-- the first place of a text in another one -/
def fIndexS (s : List Nat) (d : D) : Option Vl := match d with
  | .str t => (Builtin.Str.occurrences (toS s) (toS t) 0 s.length 1).head?.map fun i => .fz (.int (i : Nat))
  | _ => none
theorem index_ok {K : PySem.W.Frag} : OpS K (fun x xs H Q => ∃ a b i rest, x = .str a ∧ xs = [.str b] ∧ Builtin.Str.occurrences a b 0 a.length 1 = i :: rest ∧ Q (.int (i : Nat)) H) fIndexS := fun G H s y c z Q e k h q => by
  unfold fIndexS at h
  split at h
  · rename_i t
    obtain ⟨i, hi, rfl⟩ := Option.map_eq_some_iff.mp h
    cases den_str k
    cases ho : Builtin.Str.occurrences (toS s) (toS t) 0 s.length 1 with
    | nil => rw [ho] at hi; cases hi
    | cons j rest =>
      rw [ho] at hi
      cases hi
      exact ⟨_, _, _, rest, rfl, rfl, by rw [toS_len]; exact ho, q.now e (.int _)⟩
  · cases h
theorem d_indexS (ho : PE X o (tW b E fo)) (he : PE X e (tW b E fe)) (hs : starEach [e] X.env = [(false, eval e X.env)] := by rfl) (hbase : attributeBase o "index" X.env (eval o X.env) = eval o X.env := by rfl) (hline : (apos.endLine == pos.line) = true := by rfl) : PE X (.Call (.Attribute o "index" apos) [e] [] pos) (tW b E (dM1 fIndexS fo fe)) :=
  PE.imp (pe_m1 PySem.F.slot_str_index PySem.F.type_str_index mt_sindex (pe_z ho) (pe_z he) hs hbase hline) (rdM1 index_ok)
end
end DL

set_option Elab.async false
set_option linter.all false
set_option autoImplicit false
set_option maxRecDepth 100000
set_option maxHeartbeats 4000000
/-! the mirror layer: chains, constants of the module, errors -/
namespace DL
open PySem PySem.Spec PyProof.Rows L2 LK
/-! ### chains of comparisons -/
def dChain (f f' : D → D → Option Vl) (fa fb fc : DE) : DE := fun ρ => (fa ρ).bind fun a ρ1 => (fb ρ1).bind fun c ρ2 => match f a.z c.z with
  | some (.fz (.bl true)) => (fc ρ2).bind fun d ρ3 => RS.of (f' c.z d.z) ρ3
  | some (.fz (.bl false)) => .ok (.fz (.bl false)) ρ2
  | _ => .bad
section
variable {X : Cx} {b : Bs} {E : XW} {e1 e2 e3 e : Expr} {fa fb fc fe : DE} {pos : Pos}
theorem rdChain {r r' : R2} {f f' : D → D → Option Vl} (hf : Op2 b.K r f) (hf' : Op2 b.K r' f') : ∀ σ H Q, tW b E (dChain f f' fa fb fc) σ H Q → tChain r r' (tD b E fa) (tD b E fb) (tD b E fc) σ H Q := fun σ H Q ⟨G, ρ, S, w⟩ =>
  ⟨G, ρ, S, w.bind.mono (L2.Same.refl G) fun a ρ1 w1 x G1 H1 S1 s1 k1 => ⟨G1, ρ1, S1, w1.bind.mono s1 fun c ρ2 w2 y G2 H2 S2 s2 k2 => by
    have go : ∀ t : Bool, f a.z c.z = some (.fz (.bl t)) → (∀ G3 H3, Sr b G3 H3 σ ρ2 → Same G2 G3 → (if t = true then (tD b E fc) σ H3 fun w' H4 => r' y w' H4 Q else Q (.bl false) H3)) → r x y H2 fun z H3 => ∃ k, z = .bl k ∧ (if k = true then (tD b E fc) σ H3 fun w' H4 => r' y w' H4 Q else Q (.bl false) H3) := fun t et h => by
      refine hf G2 H2 x y a.z c.z (.fz (.bl t)) _ S2.gh (k1.same s2) k2 et (Cn.of S2 fun v G3 H3 S3 s3 => ?_)
      obtain ⟨v', ev, kv⟩ := S3.top
      cases ev
      exact ⟨t, den_bl kv, h G3 H3 S3.pop s3⟩
    split at w2
    · rename_i et
      refine go true et fun G3 H3 S3 s3 => ?_
      rw [if_pos rfl]
      refine ⟨G3, ρ2, S3, w2.bind.mono (L2.Same.trans s1 (L2.Same.trans s2 s3)) fun d ρ3 w3 z G4 H4 S4 s4 k4 => ?_⟩
      obtain ⟨q, eq, hq⟩ := w3.of
      exact hf' G4 H4 y z c.z d.z q Q S4.gh (k2.same (L2.Same.trans s3 s4)) k4 eq (Cn.of S4 fun v G5 H5 S5 s5 => hq v G5 H5 S5 (L2.Same.trans s1 (L2.Same.trans s2 (L2.Same.trans s3 (L2.Same.trans s4 s5)))))
    · rename_i et
      refine go false et fun G3 H3 S3 s3 => ?_
      rw [if_neg Bool.false_ne_true]
      exact w2 (.bl false) G3 H3 (S3.push (.bl _)) (L2.Same.trans s1 (L2.Same.trans s2 s3))
    · exact w2.elim⟩⟩
theorem d_chain {op op' : CmpOp} {r r' : R2} {f f' : D → D → Option Vl} (ho : OpR X (compareOp op) r) (hf : Op2 b.K r f) (ho' : OpR X (compareOp op') r') (hf' : Op2 b.K r' f') (ha : PE X e1 (tW b E fa)) (hb : PE X e2 (tW b E fb)) (hc : PE X e3 (tW b E fc))
    (hm : lastMarks [op, op'] [e2, e3] = false := by with_unfolding_all rfl) : PE X (.Compare e1 [op, op'] [e2, e3] pos) (tW b E (dChain f f' fa fb fc)) := PE.imp (pe_chain ho ho' (pe_z ha) (pe_z hb) (pe_z hc) hm) (rdChain hf hf')
theorem rdTb {f : DE} {t : TE} (h : ∀ σ H Q, tW b E f σ H Q → t σ H Q) : ∀ σ H Q, tT b E (dTb f) σ H Q → tTest t σ H Q := fun σ H Q ⟨G, ρ, S, w⟩ => h σ H _ ⟨G, ρ, S, w.bind.mono (L2.Same.refl G) fun a ρ1 w1 x G1 H1 S1 s1 => by
    obtain ⟨c, ec, q⟩ := w1.of
    obtain ⟨G2, s2, S2, k⟩ := S1.z
    refine ⟨c, ?_, q G2 H1 S2 (L2.Same.trans s1 s2)⟩
    cases ez : a.z with
    | bl c' =>
      rw [ez] at ec k
      cases ec
      exact den_bl k
    | _ => rw [ez] at ec; cases ec⟩
theorem dt_chain {op op' : CmpOp} {r r' : R2} {f f' : D → D → Option Vl} (ho : OpR X (compareOp op) r) (hf : Op2 b.K r f) (ho' : OpR X (compareOp op') r') (hf' : Op2 b.K r' f') (ha : PE X e1 (tW b E fa)) (hb : PE X e2 (tW b E fb)) (hc : PE X e3 (tW b E fc))
    (hm : lastMarks [op, op'] [e2, e3] = false := by with_unfolding_all rfl) : PT X (.Compare e1 [op, op'] [e2, e3] pos) (tT b E (dTb (dChain f f' fa fb fc))) := PT.imp (pt_chain ho ho' (pe_z ha) (pe_z hb) (pe_z hc) hm) (rdTb (rdChain hf hf'))
/-! ### constants of the module -/
theorem d_gl {v : V} {d : D} (h : PE X e (tC v)) (k : ∀ G, Den b.K G v d) : PE X e (tW b E (dC d)) := PE.imp h (rdC k)
theorem d_glS {z : Str} {w : List Nat} (h : PE X e (tC (.str z))) (k : z = toS w) : PE X e (tW b E (dC (.str w))) := d_gl h fun G => by rw [k]; exact .str w
theorem d_glI {i : Int} (h : PE X e (tC (.int i))) : PE X e (tW b E (dC (.int i))) := d_gl h fun G => .int i
theorem den_strs {K : PySem.W.Frag} {G : Hp} : ∀ {zs : List V} {ws : List (List Nat)}, zs = ws.map (fun w => V.str (toS w)) → DenA K G zs (ws.map .str)
  | _, [], h => by subst h; exact .nil
  | _, w :: ws, h => by subst h; exact .cons (.str w) (den_strs rfl)
theorem d_glT {a : Addr} {zs : List V} {ws : List (List Nat)} (h : PE X e (tC (.ref a))) (q : ∀ G, SqT b.K G a zs) (k : zs = ws.map (fun w => V.str (toS w))) : PE X e (tW b E (dC (.tup (ws.map .str)))) := d_gl h fun G => .tup (q G) (den_strs k)
/-! ### errors raised -/
def dRaN (c : Str) (fs : DA) : DC := fun ρ => (fs ρ).bind fun ds ρ1 => if ds.length ≤ 1000 then .err c [] ρ1 else .bad
/-- fields as handed in by places, or by names in order -/
def dRaP (c : Str) (ns : List Str) (fs : DA) : DC := fun ρ => (fs ρ).bind fun ds ρ1 => if ds.length = ns.length then .err c (ns.reverse.zip ds.reverse) ρ1 else .bad
theorem DenA.rev {K : PySem.W.Frag} {G : Hp} : ∀ {vs : List V} {ds : List D}, DenA K G vs ds → DenA K G vs.reverse ds.reverse
  | _, _, .nil => .nil
  | _, _, .cons h t => by
    rw [List.reverse_cons, List.reverse_cons]
    exact (DenA.rev t).snoc h
theorem zip_rev {α β : Type} : ∀ {l : List α} {m : List β}, l.length = m.length → (l.zip m).reverse = l.reverse.zip m.reverse
  | [], [], _ => rfl
  | a :: l, c :: m, h => by
    have h' : l.length = m.length := Nat.succ.inj h
    rw [List.zip_cons_cons, List.reverse_cons, List.reverse_cons, List.reverse_cons, zip_rev h', List.zip_append (by rw [List.length_reverse, List.length_reverse]; exact h')]
    rfl
/-- a new error's dict -/
theorem raise_read {K : PySem.W.Frag} {G H : Hp} {c : Str} {ns : List Str} {xs : List V} {ds : List D} {E1 : XK} (e : Same G H) (k : DenA K G xs ds) (hl : xs.length = ns.length)
    (h : ∀ cls dd G' H', Grow G H G' H' → XAt K G' c (ns.reverse.zip ds.reverse) cls dd → E1 cls dd H') : ∀ d H', H d = none → Same H H' → H' d = some (.xd (ns.zip xs).reverse) → E1 (.ref (He.ga K c)) (some d) H' := fun d H' n s l =>
  h _ _ _ _ (Grow.lay e n s l) (.fs (by rw [upd_same, zip_rev hl.symm]) (by rw [List.length_reverse, List.length_reverse]; exact hl.symm) ((k.same (Same.new (free_of e n))).rev))
section
variable {c : Str} {es : List Expr} {kws : List Keyword} {fs : DA} {x : Str} {p : Pos} {tk : Takes X fun cls d σ H => E σ cls d H}
theorem d_raN (hc : X.calm = true) (tk : Takes X fun cls d σ H => E σ cls d H) (cm : CallMk X (.ref (He.ga b.K c)) [] (rRaN (He.ga b.K c))) (hg : Gl X x) (hm : X.mg x = some (.ref (He.ga b.K c))) (hk : PySem.W.keepIn X.K (.ref (He.ga b.K c)) = true) (ha : PA X (e :: es) (tA b E fs))
    (hall : (backToKw p (keywordEach [] X.env)).all (·.1.isSome) = true := by rfl) (hks : (backToKw p (keywordEach [] X.env)).filterMap (·.1) = [] := by rfl) (hdb : (x == ("__debug__" : Str)) = false := by decide)
    (he : starEach (e :: es) X.env = (false, eval e X.env) :: starEach es X.env := by rfl) (hpl : ((backTo p (starEach (e :: es) X.env)).any (·.1) || (backToKw p (keywordEach [] X.env)).any (·.1.isNone)) = false := by rfl) {p' : Pos} :
    PS X (.Raise (some (.Call (.Name x p') (e :: es) [] p)) none pos) (tS b E (dRaN c fs)) :=
  PS.imp (ps_raise hc tk (pmk_gk (ks := []) (r := rRaN (He.ga b.K c)) cm hg hm hk ha pk_nil hall hks hdb he hpl)) fun D σ H ⟨G, ρ, S, w⟩ => ⟨G, ρ, S, (Ws.bind w σ).mono (L2.Same.refl G) fun ds ρ1 w1 xs G1 H1 S1 s1 k1 => by
    split at w1
    · rename_i hl
      exact ⟨rfl, by rw [k1.len]; exact hl, w1 σ _ _ G1 H1 S1 s1 .no⟩
    · exact w1.elim⟩
theorem d_raP {n : Nat} {ns : List Str} {gV : List V → List V → List V} (hc : X.calm = true) (tk : Takes X fun cls d σ H => E σ cls d H) (cm : CallMk X (.ref (He.ga b.K c)) [] (rRaO (He.ga b.K c) n [] ns gV)) (hn : n = ns.length) (hgV : ∀ a xs, xs.length = n → gV (.ref a :: xs) [] = .ref a :: xs)
    (hg : Gl X x) (hm : X.mg x = some (.ref (He.ga b.K c))) (hk : PySem.W.keepIn X.K (.ref (He.ga b.K c)) = true) (ha : PA X (e :: es) (tA b E fs))
    (hall : (backToKw p (keywordEach [] X.env)).all (·.1.isSome) = true := by rfl) (hks : (backToKw p (keywordEach [] X.env)).filterMap (·.1) = [] := by rfl) (hdb : (x == ("__debug__" : Str)) = false := by decide)
    (he : starEach (e :: es) X.env = (false, eval e X.env) :: starEach es X.env := by rfl) (hpl : ((backTo p (starEach (e :: es) X.env)).any (·.1) || (backToKw p (keywordEach [] X.env)).any (·.1.isNone)) = false := by rfl) {p' : Pos} :
    PS X (.Raise (some (.Call (.Name x p') (e :: es) [] p)) none pos) (tS b E (dRaP c ns fs)) :=
  PS.imp (ps_raise hc tk (pmk_gk (ks := []) (r := rRaO (He.ga b.K c) n [] ns gV) cm hg hm hk ha pk_nil hall hks hdb he hpl)) fun D σ H ⟨G, ρ, S, w⟩ => ⟨G, ρ, S, (Ws.bind w σ).mono (L2.Same.refl G) fun ds ρ1 w1 xs G1 H1 S1 s1 k1 => by
    split at w1
    · rename_i hl
      have hx : xs.length = ns.length := k1.len.trans hl
      exact ⟨hx.trans hn.symm, rfl, xs, fun a => hgV a xs (hx.trans hn.symm), hx, raise_read S1.gh k1 hx fun cls dd G' H' g x => w1 σ cls dd G' H' (S1.grow g) (L2.Same.trans s1 g.g) x⟩
    · exact w1.elim⟩
theorem d_raK {ks ns : List Str} {gV : List V → List V → List V} (hc : X.calm = true) (tk : Takes X fun cls d σ H => E σ cls d H) (cm : CallMk X (.ref (He.ga b.K c)) ks (rRaO (He.ga b.K c) 0 ks ns gV)) (hn : ks.length = ns.length) (hgV : ∀ a zs, zs.length = ns.length → gV [.ref a] zs = .ref a :: zs)
    (hg : Gl X x) (hm : X.mg x = some (.ref (He.ga b.K c))) (hk : PySem.W.keepIn X.K (.ref (He.ga b.K c)) = true) (hkw : PK X kws (tA b E fs))
    (hall : (backToKw p (keywordEach kws X.env)).all (·.1.isSome) = true := by rfl) (hks : (backToKw p (keywordEach kws X.env)).filterMap (·.1) = ks := by rfl) (hdb : (x == ("__debug__" : Str)) = false := by decide)
    (hpl : ((backTo p (starEach [] X.env)).any (·.1) || (backToKw p (keywordEach kws X.env)).any (·.1.isNone)) = false := by rfl) {p' : Pos} :
    PS X (.Raise (some (.Call (.Name x p') [] kws p)) none pos) (tS b E (dRaP c ns fs)) :=
  PS.imp (ps_raise hc tk (pmk_gk0 (ks := ks) (r := rRaO (He.ga b.K c) 0 ks ns gV) cm hg hm hk hkw hall hks hdb hpl)) fun D σ H ⟨G, ρ, S, w⟩ => ⟨G, ρ, S, (Ws.bind w σ).mono (L2.Same.refl G) fun ds ρ1 w1 xs G1 H1 S1 s1 k1 => by
    split at w1
    · rename_i hl
      have hx : xs.length = ns.length := k1.len.trans hl
      exact ⟨rfl, hx.trans hn.symm, xs, fun a => hgV a xs hx, hx, raise_read S1.gh k1 hx fun cls dd G' H' g x => w1 σ cls dd G' H' (S1.grow g) (L2.Same.trans s1 g.g) x⟩
    · exact w1.elim⟩
end
/-! ### try .. except C as e -/
def dTry (i : Nat) (cs : List Str) (f g : DC) : DC := fun ρ => match f ρ with
  | .err c fs ρ1 => if c ∈ cs then (match g (ρ1.set i (.fz (.exc c fs))) with
      | .ok .nx ρ2 => .ok .nx (ρ2.set i .un)
      | .ok (.rt r) ρ2 => .ok (.rt r) ρ2
      | .ok .bk ρ2 => .ok .bk (ρ2.set i .un)
      | .ok .ct ρ2 => .ok .ct (ρ2.set i .un)
      | .err _ _ _ => .bad
      | .bad => .bad) else .bad
  | r => r
theorem Sr.caught {b : Bs} {G H H2 : Hp} {σ : L2.St} {ρ : DS} {a : Addr} {c : Str} {fs : List (Str × D)} {cls : Value} {dd : Option Addr} (S : Sr b G H σ ρ) (x : XAt b.K G c fs cls dd) (n : H a = none) (s : Same H H2) (l : H2 a = some (exK a cls dd false)) (i : Nat) :
    ∃ G', Same G G' ∧ Sr b G' H2 (σ.set i (some (.ref a))) (ρ.set i (.fz (.exc c fs))) := by
  have g := Grow.lay S.gh n s l
  refine ⟨_, g.g, Sr.put (r := .fz (.exc c fs)) ((S.grow g).push ?_) i⟩
  cases x with
  | no => exact .exc0 upd_same rfl
  | @fs d ns xs ds h hl k =>
    have na : d ≠ a := fun z => by
      rw [z, free_of S.gh n] at h
      cases h
    exact .exc upd_same rfl (by rw [upd_ne na]; exact h) hl (k.same g.g)
section
variable {f g : DC} {i : Nat} {n : Str} {cl : Value} {body suite : List Stmt} {b₀ : Stmt} {x : Str} {np pos' : Pos}
theorem d_try {cs : List Str} (hs : X.stack = X.env :: X.outer) (hf : X.env.frame = some X.env.locals) (hN : X.N.Nodup) (hi : X.N[i]? = some n) (hln : X.env.kindOf n = some .local) (hc : Names X x cl) (hcs : ∀ c ∈ cs, PySem.W.exmOne X.K (.ref (He.ga b.K c)) cl = some true) {E0 : WX} (tk : Takes X E0)
    (hb : ∀ (W : WX) (pn : List (Addr × Obj)) (xe : Value → Shared → Prop), Takes (X.tr pn xe) W → PassesOwn (model X.prog X.w) X.A X.env xe → PSs (X.tr pn xe) body (tS b (WE W) f))
    (hsu : ∀ (a : Addr) (pn : List (Addr × Obj)), PSs (X.suite a pn) (b₀ :: suite) (tS b E g)) :
    PS X (.Try body [.ExceptHandler (some (.Name x np)) (some n) (b₀ :: suite) pos'] [] [] pos) (tS b E (dTry i cs f g)) :=
  PS.imp (ps_try_asK hs hf hN hi hln hc tk hb hsu) fun D σ H ⟨G, ρ, S, w⟩ => ⟨G, ρ, S, by
    unfold dTry at w
    cases ef : f ρ with
    | bad => rw [ef] at w; exact w
    | ok a ρ1 =>
      rw [ef] at w
      cases a with
      | nx => exact w
      | rt r => exact w
      | bk => exact w
      | ct => exact w
    | err c fs ρ1 =>
      rw [ef] at w
      dsimp only at w
      intro σ1 cls dd G1 H1 S1 s1 xa
      split at w
      · rename_i hcc
        have ec : cls = .ref (He.ga b.K c) := by cases xa <;> rfl
        refine ⟨true, by rw [ec]; exact hcs c hcc, fun _ a H2 n s l => ?_, fun z => (by cases z)⟩
        obtain ⟨G2, s2, S2⟩ := S1.caught xa n s l i
        refine ⟨G2, _, S2, ?_⟩
        have s12 := L2.Same.trans s1 s2
        cases eg : g (ρ1.set i (.fz (.exc c fs))) with
        | bad => rw [eg] at w; exact w
        | err c' fs' ρ2 => rw [eg] at w; exact w.elim
        | ok a ρ2 =>
          rw [eg] at w
          cases a with
          | nx => exact fun σ' G' H' S' s' => w (σ'.set i none) G' H' (S'.un i none) (L2.Same.trans s12 s')
          | rt r => exact fun x σ' G' H' S' s' => w x σ' G' H' S' (L2.Same.trans s12 s')
          | bk => exact fun σ' G' H' S' s' => w (σ'.set i none) G' H' (S'.un i none) (L2.Same.trans s12 s')
          | ct => exact fun σ' G' H' S' s' => w (σ'.set i none) G' H' (S'.un i none) (L2.Same.trans s12 s')
      · exact w.elim⟩
end
/-! ### e.f of an error -/
def fAttr (cs : List Str) (n : Str) : D → Option Vl
  | .exc c fs => if c ∈ cs then (fs.lookup n).map .fz else none
  | _ => none
theorem zip_look {K : PySem.W.Frag} {G : Hp} {n : Str} {d : D} : ∀ {ns : List Str} {xs : List V} {ds : List D}, DenA K G xs ds → (ns.zip ds).lookup n = some d → ∃ v, (ns.zip xs).lookup n = some v ∧ Den K G v d
  | [], _, _, _, h => by cases h
  | _ :: _, _, _, .nil, h => by cases h
  | m :: ns, _, _, .cons k t, h => by
    rw [List.zip_cons_cons, List.lookup_cons] at h ⊢
    split at h
    · rename_i e
      cases h
      exact ⟨_, rfl, k⟩
    · rename_i e
      exact zip_look t h
theorem d_attr {cs : List Str} {n : Str} (he : PE X e (tW b E fe)) (hcs : ∀ c ∈ cs, ExcC b.K (He.ga b.K c) ∧ PySem.W.findIn b.K (.ref (He.ga b.K c)) n = some none) (hb : attributeBase e n X.env (eval e X.env) = eval e X.env := by rfl) (hK : X.K = b.K := by rfl) : PE X (.Attribute e n pos) (tW b E (dOp1 (fAttr cs n) fe)) :=
  PE.imp (pe_xfK (K := b.K) (pe_z he) hb hK) fun σ H Q ⟨G, ρ, S, w⟩ => ⟨G, ρ, S, w.bind.mono (L2.Same.refl G) fun a ρ1 w1 x G1 H1 S1 s1 k1 => by
    obtain ⟨z, ez, q⟩ := w1.of
    cases ea : a.z with
    | exc c fs =>
      rw [ea] at ez k1
      change (if c ∈ cs then (fs.lookup n).map Vl.fz else none) = some z at ez
      split at ez
      · rename_i hc
        obtain ⟨d, hd, rfl⟩ := Option.map_eq_some_iff.mp ez
        cases k1 with
        | exc0 h1 h2 => cases hd
        | @exc a C dd _ fr ns xs ds h1 h2 h3 h4 t =>
          obtain ⟨v, hv, kv⟩ := zip_look t hd
          subst h2
          exact ⟨⟨a, _, dd, fr, _, v, rfl, ExcC.xf (hcs c hc).1, (hcs c hc).2, S1.gh _ _ h1, S1.gh _ _ h3, hv, q v G1 H1 (S1.push kv) s1⟩⟩
      · cases ez
    | _ => rw [ea] at ez; cases ez⟩
end
end DL

set_option Elab.async false
set_option linter.all false
set_option autoImplicit false
set_option maxRecDepth 100000
set_option maxHeartbeats 4000000
/-! the mirror layer: defs by their mirrors -/
namespace DL
open PySem PySem.Spec PyProof.Rows L2 LK
theorem neg_ok {K : PySem.W.Frag} : Op1 K (rU fun i => .int (-i)) fNeg := fun G H x a z Q e k h q => by
  unfold fNeg at h
  split at h
  · cases den_int k
    cases h
    exact ⟨_, rfl, q.now e (.int _)⟩
  · cases h
theorem lt_ok {K : PySem.W.Frag} : Op2 K (rCmpM (fun i j => decide (i < j)) fun i j => decide (i.cps.toList < j.cps.toList)) fLt := cmp_ok (ps := fun x y => decide (x < y))
theorem le_ok {K : PySem.W.Frag} : Op2 K (rCmpM (fun i j => decide (i ≤ j)) fun i j => !decide (j.cps.toList < i.cps.toList)) fLe := cmp_ok (ps := fun x y => !decide (y < x))
theorem gt_ok {K : PySem.W.Frag} : Op2 K (rCmpM (fun i j => decide (j < i)) fun i j => decide (j.cps.toList < i.cps.toList)) fGt := cmp_ok (ps := fun x y => decide (y < x))
theorem ge_ok {K : PySem.W.Frag} : Op2 K (rCmpM (fun i j => decide (j ≤ i)) fun i j => !decide (i.cps.toList < j.cps.toList)) fGe := cmp_ok (ps := fun x y => !decide (x < y))
theorem isB_ok {K : PySem.W.Frag} : Op2 K rIsB fIsB := fun G H x y a c z Q e k l h q => by
  unfold fIsB at h
  split at h
  · cases den_bl k
    cases den_bl l
    cases h
    exact ⟨_, _, rfl, rfl, q.now e (.bl _)⟩
  · cases h
theorem noB_ok {K : PySem.W.Frag} : Op2 K rNotB fNoB := fun G H x y a c z Q e k l h q => by
  unfold fNoB at h
  split at h
  · cases den_bl k
    cases den_bl l
    cases h
    exact ⟨_, _, rfl, rfl, q.now e (.bl _)⟩
  · cases h
/-! ### a, b = x, y -/
def dPar (i j : Nat) (fs : DA) : DC := fun ρ => (fs ρ).bind fun ds ρ1 => match ds with
  | [c, d] => .ok .nx ((ρ1.set i (.fz c)).set j (.fz d))
  | _ => .bad
def dPar3 (i j l : Nat) (fs : DA) : DC := fun ρ => (fs ρ).bind fun ds ρ1 => match ds with
  | [c, d, e] => .ok .nx (((ρ1.set i (.fz c)).set j (.fz d)).set l (.fz e))
  | _ => .bad
section
variable {X : Cx} {b : Bs} {E : XW} {st : Stmt} {fs : DA}
theorem d_par {i j : Nat} (h : PS X st (tPar i j (tA b E fs))) : PS X st (tS b E (dPar i j fs)) := PS.imp h fun D σ H ⟨G, ρ, S, w⟩ => ⟨G, ρ, S, (Ws.bind w σ).mono (L2.Same.refl G) fun ds ρ1 w1 xs G1 H1 S1 s1 k1 => by
  split at w1
  · obtain ⟨x, y, rfl, k, l⟩ := den2 k1
    refine ⟨x, y, rfl, w1 _ G1 H1 ?_ s1⟩
    have T := Sr.put (r := .fz _) (S1.push k) i
    exact Sr.put (r := .fz _) (T.push l) j
  · exact w1.elim⟩
theorem d_par3 {i j m : Nat} (h : PS X st (tPar3 i j m (tA b E fs))) : PS X st (tS b E (dPar3 i j m fs)) := PS.imp h fun D σ H ⟨G, ρ, S, w⟩ => ⟨G, ρ, S, (Ws.bind w σ).mono (L2.Same.refl G) fun ds ρ1 w1 xs G1 H1 S1 s1 k1 => by
  split at w1
  · cases k1 with
    | cons ka kb =>
      obtain ⟨x, y, rfl, k, l⟩ := den2 kb
      refine ⟨_, x, y, rfl, w1 _ G1 H1 ?_ s1⟩
      have T := Sr.put (r := .fz _) (S1.push ka) i
      have T2 := Sr.put (r := .fz _) (T.push k) j
      exact Sr.put (r := .fz _) (T2.push l) m
  · exact w1.elim⟩
end
/-! ### defs -/
/-- n parameters, N slots -/
def mP (n N : Nat) (c : DC) : List D → Res Vl := fun ds => if ds.length = n then runD c (ent N ds) else .bad
/-- .. that lets no error out -/
def mL (n N : Nat) (c : DC) : List D → Res Vl := fun ds => if ds.length = n then (match runD c (ent N ds) with
  | .ok r => .ok r
  | _ => .bad) else .bad
def entB (n : Nat) (c : D) (ds : List D) : DS := .bw c :: (ds.map Sl.fz ++ List.replicate (n - 1 - ds.length) .un)
def runB' (f : DC) (ρ : DS) : Res (Vl × D) := match f ρ with
  | .ok (.rt r) ρ' => (match gs ρ' 0 with
    | .bw c => .ok (r, c)
    | _ => .bad)
  | .ok .nx ρ' => (match gs ρ' 0 with
    | .bw c => .ok (.fz .non, c)
    | _ => .bad)
  | _ => .bad
def mB (n N : Nat) (f : DC) : D → List D → Res (Vl × D) := fun c ds => if ds.length + 1 = n then runB' f (entB N c ds) else .bad
theorem Sr.entryB {K : PySem.W.Frag} {G H : Hp} {N : List Str} {p : Addr} {c : D} {vs : List V} {ds : List D} (e : Same G H) (gp : G p = none) (o : OwnAt K G H p c) (k : DenA K G vs ds) : Sr (bsB K G H p) G H (L2.start N (.ref p :: vs)) (entB N.length c ds) := by
  have key : ∀ (i : Nat) (d : D), (entB N.length c ds)[i]? ≠ some (Sl.ow d) := fun i d h => by
    cases i with
    | zero => cases h
    | succ i => exact ent_now h
  have keyb : ∀ (i : Nat) (d : D), (entB N.length c ds)[i]? = some (Sl.bw d) → i = 0 := fun i d h => by
    cases i with
    | zero => rfl
    | succ i => exact absurd h ent_nob
  have hl : N.length - (V.ref p :: vs).length = N.length - 1 - ds.length := by
    rw [List.length_cons, k.len]
    omega
  refine ⟨e, fun a u z => ?_, fun a n => n.2, fun a n => n.1, fun q eq => ?_, fun i j d e h1 h2 => (keyb i d h1).trans (keyb j e h2).symm, ?_, fun i x s h1 h2 => ?_, fun i j q r d e n h1 h2 h3 h4 => absurd h3 (key i d)⟩
  · change (if a = p then none else H a) = some u at z
    split at z
    · cases z
    · exact z
  · cases eq
    obtain ⟨u, hu⟩ := o.some
    exact ⟨⟨⟨u, hu⟩, gp⟩, if_pos rfl⟩
  · unfold L2.start entB
    rw [hl, List.map_cons, List.cons_append, List.length_cons, List.length_cons, List.length_append, List.length_append, List.length_map, List.length_map, List.length_replicate, List.length_replicate, k.len]
  · unfold L2.start at h1
    rw [hl, List.map_cons, List.cons_append] at h1
    cases i with
    | zero =>
      cases h1
      cases h2
      exact ⟨p, rfl, rfl, o⟩
    | succ i => exact ent_slots (b := bsB K G H p) k i x s h1 h2
theorem entry_okB {K : PySem.W.Frag} {E : XK} {G H : Hp} {N : List Str} {p : Addr} {c : D} {vs : List V} {ds : List D} {f : DC} {Q : VK} (e : Same G H) (gp : G p = none) (o : OwnAt K G H p c) (k : DenA K G vs ds) (h : match runB' f (entB N.length c ds) with
    | .ok (r, c') => ∀ x G' H', Same G G' → Same G' H' → But p H H' → (∀ a o, H a = some o → G a = none → G' a = none) → OwnAt K G' H' p c' → (match r with
        | .fz z => Den K G' x z
        | .ow z => ∃ q, x = .ref q ∧ H q = none ∧ G' q = none ∧ OwnAt K G' H' q z) → Q x H'
    | _ => False) : tS (bsB K G H p) (fun _ => E) f { nx := fun _ H' => Q .non H', rt := Q } (L2.start N (.ref p :: vs)) H := by
  refine ⟨G, entB N.length c ds, Sr.entryB e gp o k, ?_⟩
  have but : ∀ {σ : L2.St} {ρ : DS} {G' H' : Hp}, Sr (bsB K G H p) G' H' σ ρ → But p H H' := fun S a u ha hu => S.bh a u (by show (if a = p then none else H a) = some u; rw [if_neg ha]; exact hu)
  have gn : ∀ {σ : L2.St} {ρ : DS} {G' H' : Hp}, Sr (bsB K G H p) G' H' σ ρ → ∀ a o, H a = some o → G a = none → G' a = none := fun S a o h1 h2 => S.gn a ⟨⟨o, h1⟩, h2⟩
  unfold runB' at h
  cases ef : f (entB N.length c ds) with
  | bad => rw [ef] at h; exact h.elim
  | err c fs ρ => rw [ef] at h; exact h.elim
  | ok a ρ =>
    rw [ef] at h
    cases a with
    | bk => exact h.elim
    | ct => exact h.elim
    | nx =>
      intro σ' G' H' S s
      dsimp only at h
      cases eg : gs ρ 0 with
      | bw c' =>
        rw [eg] at h
        obtain ⟨_, p', ep, _, o'⟩ := S.bw eg
        cases ep
        exact h _ G' H' s S.gh (but S) (gn S) o' .non
      | _ => rw [eg] at h; exact h.elim
    | rt r =>
      intro x σ' G' H' S s
      dsimp only at h
      cases eg : gs ρ 0 with
      | bw c' =>
        rw [eg] at h
        obtain ⟨_, p', ep, _, o'⟩ := S.pop.bw eg
        cases ep
        refine h _ G' H' s S.gh (but S) (gn S) o' ?_
        cases r with
        | fz z =>
          obtain ⟨v, ev, kv⟩ := S.top
          cases ev
          exact kv
        | ow z =>
          obtain ⟨q, ev, gq, bq, nq, oq⟩ := S.top
          cases ev
          refine ⟨q, rfl, ?_, gq, oq⟩
          change (if q = p then none else H q) = none at bq
          split at bq
          · rename_i z
            subst z
            obtain ⟨u, hu⟩ := o.some
            exact absurd ⟨⟨u, hu⟩, gp⟩ nq
          · exact bq
      | _ => rw [eg] at h; exact h.elim
section
variable {P : Program} {w : World} {K : PySem.W.Frag} {mg : Str → Option Value} {base : Heap} {CX : CXT} {x qual : Str} {params : Arguments} {body : List Stmt} {scope : Scope} {dvs : List V} {kws : List (Str × V)} {f : Addr} {fd : FuncData} {N ps : List Str} {k : Nat} {c : DC}
theorem if_len {n : Nat} {ds : List D} {α : Type} {r : Res α} {R : Res α → Prop} (hb : ¬ R .bad) (h : R (if ds.length = n then r else .bad)) : ds.length = n ∧ R r := by
  split at h
  · rename_i e
    exact ⟨e, h⟩
  · exact absurd h hb
theorem okP (F : FunD K x qual params body scope dvs kws f fd) (S : FnScope N ps scope)
    (hb : ∀ (cdv : Value) (A : Around) (outer : List Env) (s : Shared) (H : Hp) (E : XK) (G : Hp), Room k (A.deeper (envOfC qual scope s.heap.objs.size f cdv)) → PSs (cxOf CX P w K mg base N qual scope f cdv A outer s H E) body (tS (bsP K G H) (fun _ => E) c)) :
    FnOk P w K mg base CX (k + 1) f fd ps (spP K (mP ps.length N.length c)) := by
  refine F.ok S (fun vs H Q E h => ?_) (fun cdv A outer s H vs Q E hr h => ?_)
  · obtain ⟨G, ds, e, kd, h⟩ := h
    exact kd.len.trans (if_len (R := fun r => match r with | .ok r => Cn K G H r Q | .err c fs => ∀ cls dd G' H', Grow G H G' H' → XAt K G' c fs cls dd → E cls dd H' | .bad => False) id h).1
  · obtain ⟨G, ds, e, kd, h⟩ := h
    exact ⟨_, hb cdv A outer s H E G hr, entry_ok e kd (if_len (R := fun r => match r with | .ok r => Cn K G H r Q | .err c fs => ∀ cls dd G' H', Grow G H G' H' → XAt K G' c fs cls dd → E cls dd H' | .bad => False) id h).2⟩
theorem okB (F : FunD K x qual params body scope dvs kws f fd) (S : FnScope N ps scope)
    (hb : ∀ (cdv : Value) (A : Around) (outer : List Env) (s : Shared) (H : Hp) (E : XK) (G : Hp) (p : Addr), Room k (A.deeper (envOfC qual scope s.heap.objs.size f cdv)) → PSs (cxOf CX P w K mg base N qual scope f cdv A outer s H E) body (tS (bsB K G H p) (fun _ => E) c)) :
    FnOk P w K mg base CX (k + 1) f fd ps (spB K (mB ps.length N.length c)) := by
  refine F.ok S (fun vs H Q E h => ?_) (fun cdv A outer s H vs Q E hr h => ?_)
  · obtain ⟨G, p, c0, ws, ds, e, gp, rfl, o, kd, h⟩ := h
    rw [List.length_cons, kd.len]
    unfold mB at h
    split at h
    · rename_i r c' em
      split at em
      · rename_i hl
        exact hl
      · cases em
    · exact h.elim
  · obtain ⟨G, p, c0, ws, ds, e, gp, rfl, o, kd, h⟩ := h
    refine ⟨_, hb cdv A outer s H E G p hr, entry_okB e gp o kd ?_⟩
    by_cases hl : ds.length + 1 = ps.length
    · have em : mB ps.length N.length c c0 ds = runB' c (entB N.length c0 ds) := if_pos hl
      rw [em] at h
      exact h
    · have em : mB ps.length N.length c c0 ds = .bad := if_neg hl
      rw [em] at h
      exact h.elim
theorem okL (F : FunD K x qual params body scope dvs kws f fd) (S : FnScope N ps scope)
    (hb : ∀ (cdv : Value) (A : Around) (outer : List Env) (s : Shared) (H : Hp) (E : XK) (G : Hp), Room k (A.deeper (envOfC qual scope s.heap.objs.size f cdv)) → PSs (cxOf CX P w K mg base N qual scope f cdv A outer s H E) body (tS (bsP K G H) E0' c)) :
    FnOk P w K mg base CX (k + 1) f fd ps (spP K (mL ps.length N.length c)) := by
  refine F.ok S (fun vs H Q E h => ?_) (fun cdv A outer s H vs Q E hr h => ?_)
  · obtain ⟨G, ds, e, kd, h⟩ := h
    exact kd.len.trans (if_len (R := fun r => match r with | .ok r => Cn K G H r Q | .err c fs => ∀ cls dd G' H', Grow G H G' H' → XAt K G' c fs cls dd → E cls dd H' | .bad => False) id h).1
  · obtain ⟨G, ds, e, kd, h⟩ := h
    have h2 := (if_len (R := fun r => match r with | .ok r => Cn K G H r Q | .err c fs => ∀ cls dd G' H', Grow G H G' H' → XAt K G' c fs cls dd → E cls dd H' | .bad => False) id h).2
    refine ⟨_, hb cdv A outer s H E G hr, entry_ok (E := fun _ _ _ => False) e kd ?_⟩
    cases er : runD c (ent N.length ds) with
    | ok r => rw [er] at h2; exact h2
    | err c fs => rw [er] at h2; exact h2.elim
    | bad => rw [er] at h2; exact h2
end
/-! ### keywords, no defaults -/
def gi (n m : Nat) (g : {α : Type} → List α → List α → List α) {α : Type} (us ws : List α) : List α := if us.length = n ∧ ws.length = m then g us ws else []
theorem kb_any {K : PySem.W.Frag} {x qual : Str} {params : Arguments} {body : List Stmt} {scope : Scope} {f : Addr} {fd : FuncData} {ps : List Str} (F : FunD K x qual params body scope [] [] f fd) (n : Nat) (ks : List Str) (g : {α : Type} → List α → List α → List α) (hp : ps ≠ [])
    (hrel : ∀ {vs zs : List V} {us ws : List Value}, Vals vs us → Vals zs ws → Vals (g vs zs) (g us ws))
    (h : ∀ (kV doc pm : Value) (an : Option Addr) (cdv ct : Value) (us ws : List Value), us.length = n → ws.length = ks.length → bindArgs (PySem.W.fnOf x qual params body scope .none kV doc pm an cdv ct) ⟨us, ks.zip ws⟩ = pure (ps.zip (g us ws))) :
    KBinds K fd ps ks (gi n ks.length g) (gi n ks.length g) := by
  obtain ⟨oc, od, dV, kV, doc, pm, an, cdv, ct, osl, rfl, lk, hcd, hD, hK⟩ := F.ex
  rcases hD with ⟨_, rfl⟩ | ⟨e, _⟩
  · refine ⟨fun s us ws _ hl => ?_, fun {vs us zs ws} r1 r2 => ?_⟩
    · unfold gi at hl ⊢
      split at hl
      · rename_i hh
        rw [if_pos hh]
        exact .of_eq (h _ _ _ _ _ _ us ws hh.1 hh.2)
      · rw [List.length_nil] at hl
        exact absurd (List.length_eq_zero_iff.mp hl.symm) hp
    · unfold gi
      rw [r1.length, r2.length]
      split
      · exact hrel r1 r2
      · exact .nil
  · exact absurd rfl e
theorem gi_den {K : PySem.W.Frag} {n m : Nat} {g : {α : Type} → List α → List α → List α} (hrel : ∀ {G : Hp} {vs zs : List V} {us ws : List D}, DenA K G vs us → DenA K G zs ws → DenA K G (g vs zs) (g us ws)) : ∀ G vs ds zs es, DenA K G vs ds → DenA K G zs es → DenA K G (gi n m g vs zs) (gi n m g ds es) := fun G vs ds zs es k l => by
  unfold gi
  rw [k.len, l.len]
  split
  · exact hrel k l
  · exact .nil
end DL
namespace DL
open PySem PySem.Spec PyProof.Rows L2 LK
def FUEL : Nat := 1000000
def aAdd : D → D → Option D
  | .int i, .int j => some (.int (i + j))
  | _, _ => none
def aSub : D → D → Option D
  | .int i, .int j => some (.int (i - j))
  | _, _ => none
theorem ipAdd_ok {K : PySem.W.Frag} : OpA K (ipI fun i j => i + j) aAdd := fun G H x y c a d Q e k l h q => by
  unfold aAdd at h
  split at h
  · cases den_int k
    cases den_int l
    cases h
    exact ⟨_, _, rfl, rfl, q.now e (.int _)⟩
  · cases h
theorem ipSub_ok {K : PySem.W.Frag} : OpA K (ipI fun i j => i - j) aSub := fun G H x y c a d Q e k l h q => by
  unfold aSub at h
  split at h
  · cases den_int k
    cases den_int l
    cases h
    exact ⟨_, _, rfl, rfl, q.now e (.int _)⟩
  · cases h
end DL
namespace DL
open PySem PySem.Spec PyProof.Rows L2 LK
/-- a promise of nothing -/
theorem ok_bad {P : Program} {w : World} {K : PySem.W.Frag} {mg : Str → Option Value} {base : Heap} {CX : CXT} {k : Nat} {f : Addr} {fd : FuncData} {ps : List Str} {m : List D → Res Vl} (h : m = fun _ => .bad) : FnOk P w K mg base CX k f fd ps (spP K m) := by
  subst h
  exact ⟨fun vs H Q E ⟨_, _, _, _, z⟩ => z.elim, fun A outer s H args us vs Q E _ _ _ _ ⟨_, _, _, _, z⟩ => z.elim⟩
end DL

set_option Elab.async false
set_option linter.all false
set_option autoImplicit false
set_option maxRecDepth 100000
set_option maxHeartbeats 4000000
/-! the mirror layer: how mirrors are reckoned with -/
namespace DL
open PySem PySem.Spec PyProof.Rows L2 LK
theorem rs_bind_ok {α β : Type} (a : α) (ρ : DS) (f : α → DS → RS β) : (RS.ok a ρ).bind f = f a ρ := rfl
theorem rs_bind_err {α β : Type} (c : Str) (fs : List (Str × D)) (ρ : DS) (f : α → DS → RS β) : (RS.err c fs ρ).bind f = .err c fs ρ := rfl
theorem rs_bind_bad {α β : Type} (f : α → DS → RS β) : (RS.bad).bind f = .bad := rfl
theorem rs_of_some {α : Type} (a : α) (ρ : DS) : RS.of (some a) ρ = .ok a ρ := rfl
theorem rs_of_none {α : Type} (ρ : DS) : RS.of (none : Option α) ρ = .bad := rfl
theorem rs_res_ok {α : Type} (a : α) (ρ : DS) : RS.res (.ok a) ρ = .ok a ρ := rfl
theorem rs_res_err {α : Type} (c : Str) (fs : List (Str × D)) (ρ : DS) : RS.res (.err c fs : Res α) ρ = .err c fs ρ := rfl
theorem gs_0 (s : Sl) (ρ : DS) : gs (s :: ρ) 0 = s := rfl
theorem gs_1 (a s : Sl) (ρ : DS) : gs (a :: s :: ρ) 1 = s := rfl
theorem gs_2 (a b s : Sl) (ρ : DS) : gs (a :: b :: s :: ρ) 2 = s := rfl
theorem gs_3 (a b c s : Sl) (ρ : DS) : gs (a :: b :: c :: s :: ρ) 3 = s := rfl
theorem gs_4 (a b c d s : Sl) (ρ : DS) : gs (a :: b :: c :: d :: s :: ρ) 4 = s := rfl
theorem gs_5 (a b c d e s : Sl) (ρ : DS) : gs (a :: b :: c :: d :: e :: s :: ρ) 5 = s := rfl
theorem gs_6 (a b c d e f s : Sl) (ρ : DS) : gs (a :: b :: c :: d :: e :: f :: s :: ρ) 6 = s := rfl
theorem gs_7 (a b c d e f g s : Sl) (ρ : DS) : gs (a :: b :: c :: d :: e :: f :: g :: s :: ρ) 7 = s := rfl
theorem gs_8 (a b c d e f g h s : Sl) (ρ : DS) : gs (a :: b :: c :: d :: e :: f :: g :: h :: s :: ρ) 8 = s := rfl
theorem gs_9 (a b c d e f g h i s : Sl) (ρ : DS) : gs (a :: b :: c :: d :: e :: f :: g :: h :: i :: s :: ρ) 9 = s := rfl
theorem gs_10 (a b c d e f g h i j s : Sl) (ρ : DS) : gs (a :: b :: c :: d :: e :: f :: g :: h :: i :: j :: s :: ρ) 10 = s := rfl
theorem iMul_l {i j : Int} (h1 : -(2 ^ 64) < i) (h2 : i < 2 ^ 64) : iMul i j = some (i * j) := if_pos (.inl (.inl ⟨h1, h2⟩))
theorem iMul_r {i j : Int} (h1 : -(2 ^ 64) < j) (h2 : j < 2 ^ 64) : iMul i j = some (i * j) := if_pos (.inl (.inr ⟨h1, h2⟩))
theorem iMod_p {i j : Int} (h : 0 < j) : iMod i j = some (i.fmod j) := if_pos (Int.ne_of_gt h)
theorem iDiv_p {i j : Int} (h : 0 < j) (h2 : j < 1073741824) : iDiv i j = some (i.fdiv j) := if_pos (.inl ⟨Int.ne_of_gt h, by omega⟩)
end DL

set_option Elab.async false
set_option linter.all false
set_option autoImplicit false
set_option maxRecDepth 100000
set_option maxHeartbeats 4000000
/-! the mirror layer: least and greatest of a list or tuple, texts repeated, zip of a list and a tuple -/
namespace DL
open PySem PySem.Spec PyProof.Rows L2 LK
/-! ### min, max of one -/
section
variable {prog : Program} {w : World} {A : Around} {E : Value → Shared → Prop} {s : Shared} {l : Addr} {its : List Value} {ns : List Int} {Q : Value → Shared → Prop}
theorem tup_fp {h : Heap} {l : Addr} {xs : Array Value} (hl : h.IsTuple l xs) : l < h.objs.size ∧ ∀ b ∈ [h.objs.size, l], b < (h.push { cls := .type "tuple_iterator", data := .fields #[.ref l, .int 0 0] }).objs.size := by
  have hlt : l < h.objs.size := by
    obtain ⟨_, e, _⟩ := hl
    exact Heap.lt_size e
  refine ⟨hlt, fun b hb => ?_⟩
  rw [Heap.size_push]
  rcases List.mem_cons.mp hb with rfl | hb
  · omega
  · rw [List.mem_singleton.mp hb]
    exact Nat.lt_succ_of_lt hlt
theorem tup_kept {h h' : Heap} {l : Addr} (hk : ∀ b o, b ∉ [h.objs.size] → (h.push { cls := .type "tuple_iterator", data := .fields #[.ref l, .int 0 0] }).get? b = some o → h'.get? b = some o) : ∀ b o, h.get? b = some o → h'.get? b = some o := fun b o e =>
  hk b o (fun z => by
    rw [List.mem_singleton.mp z] at e
    exact absurd (Heap.lt_size e) (Nat.lt_irrefl _)) (Heap.get?_push_of_some _ e)
theorem minT_raw (hh : A.handled = none) (hl : s.heap.IsTuple l its.toArray) (hi : IntsAre its ns) (hne : 0 < ns.length)
    (h : ∀ h' tk M t', (∀ b o, s.heap.get? b = some o → h'.get? b = some o) → M ∈ ns → (∀ a, a ∈ ns → M ≤ a) → Q (.int M t') { s with heap := h', toks := tk }) : wpAny (model prog w) A (call (.builtin "min") [.ref l]) Q E s := by
  obtain ⟨xs, e⟩ := hi.allInts.items
  have hn : numsOf (intItems xs).toList = ns := by rw [← e]; exact hi.numsOf
  rw [nums_intItems] at hn
  subst hn
  rw [e] at hl
  have hsz : 0 < xs.size := by simpa using hne
  obtain ⟨hlt, hfp⟩ := tup_fp hl
  refine call_min_walk (wpAny_pyIter_tuple hl ⟨_, _, _, _, _, _, _, rfl, Walks.tuple (A := A.in1) hh s.heap.objs.size l (Nat.ne_of_lt hlt) (intItems xs), ⟨⟨_, Heap.get?_push_size _ rfl, rfl, rfl⟩, hl.push _⟩, hfp, by simpa [intItems] using hsz, CmpOf.ints_lt (numAt xs) (fun _ _ => intItems_at), fun v h' tk hP hk => ?_⟩)
  have hv : (intItems xs)[argBest (fun i j => decide (numAt xs i < numAt xs j)) (xs.size - 1)]? = some v := by simpa [intItems] using hP
  obtain ⟨t, rfl⟩ := intItems_at hv
  obtain ⟨h1, h2⟩ := argBest_lt (numAt xs) (xs.size - 1)
  refine h h' tk _ t (tup_kept hk) ?_ fun a ha => ?_
  · rw [numAt_eq]
    exact PySem.getD_mem (by rw [List.length_map, Array.length_toList]; omega)
  · obtain ⟨j, hj, rfl⟩ := mem_getD ha
    rw [List.length_map, Array.length_toList] at hj
    rw [← numAt_eq]
    exact h2 j (by omega)
theorem maxT_raw (hh : A.handled = none) (hl : s.heap.IsTuple l its.toArray) (hi : IntsAre its ns) (hne : 0 < ns.length)
    (h : ∀ h' tk M t', (∀ b o, s.heap.get? b = some o → h'.get? b = some o) → M ∈ ns → (∀ a, a ∈ ns → a ≤ M) → Q (.int M t') { s with heap := h', toks := tk }) : wpAny (model prog w) A (call (.builtin "max") [.ref l]) Q E s := by
  obtain ⟨xs, e⟩ := hi.allInts.items
  have hn : numsOf (intItems xs).toList = ns := by rw [← e]; exact hi.numsOf
  rw [nums_intItems] at hn
  subst hn
  rw [e] at hl
  have hsz : 0 < xs.size := by simpa using hne
  obtain ⟨hlt, hfp⟩ := tup_fp hl
  refine call_max_walk (wpAny_pyIter_tuple hl ⟨_, _, _, _, _, _, _, rfl, Walks.tuple (A := A.in1) hh s.heap.objs.size l (Nat.ne_of_lt hlt) (intItems xs), ⟨⟨_, Heap.get?_push_size _ rfl, rfl, rfl⟩, hl.push _⟩, hfp, by simpa [intItems] using hsz, CmpOf.ints_gt (numAt xs) (fun _ _ => intItems_at), fun v h' tk hP hk => ?_⟩)
  have hv : (intItems xs)[argBest (fun i j => decide (numAt xs i > numAt xs j)) (xs.size - 1)]? = some v := by simpa [intItems] using hP
  obtain ⟨t, rfl⟩ := intItems_at hv
  obtain ⟨h1, h2⟩ := argBest_gt (numAt xs) (xs.size - 1)
  refine h h' tk _ t (tup_kept hk) ?_ fun a ha => ?_
  · rw [numAt_eq]
    exact PySem.getD_mem (by rw [List.length_map, Array.length_toList]; omega)
  · obtain ⟨j, hj, rfl⟩ := mem_getD ha
    rw [List.length_map, Array.length_toList] at hj
    rw [← numAt_eq]
    exact h2 j (by omega)
end
def intsD : List D → Option (List Int)
  | [] => some []
  | .int i :: ds => (intsD ds).map (i :: ·)
  | _ => none
theorem ints_den {K : PySem.W.Frag} {G : Hp} : ∀ {vs : List V} {ds : List D} {ns : List Int}, DenA K G vs ds → intsD ds = some ns → vs = ns.map V.int
  | _, _, _, .nil, h => by cases h; rfl
  | _, _, _, .cons (d := d) kd t, h => by
    cases d with
    | int c =>
      obtain ⟨bs, hb, rfl⟩ := Option.map_eq_some_iff.mp (show (intsD _).map (c :: ·) = some _ from h)
      cases den_int kd
      rw [ints_den t hb]
      rfl
    | _ => cases h
theorem intsD_map (ns : List Int) : intsD (ns.map .int) = some ns := by
  induction ns with
  | nil => rfl
  | cons n ns ih =>
    show (intsD (ns.map .int)).map (n :: ·) = _
    rw [ih]
    rfl
def minI : List Int → Int
  | [] => 0
  | n :: ns => ns.foldl min n
def maxI : List Int → Int
  | [] => 0
  | n :: ns => ns.foldl max n
theorem foldl_min (ns : List Int) : ∀ n : Int, (ns.foldl min n = n ∨ ns.foldl min n ∈ ns) ∧ ns.foldl min n ≤ n ∧ ∀ a ∈ ns, ns.foldl min n ≤ a := by
  induction ns with
  | nil => exact fun n => ⟨.inl rfl, Int.le_refl _, fun a h => by cases h⟩
  | cons m ns ih =>
    intro n
    obtain ⟨h1, h2, h3⟩ := ih (min n m)
    rw [List.foldl_cons]
    refine ⟨?_, by omega, fun a ha => ?_⟩
    · rcases h1 with h1 | h1
      · rw [h1]
        by_cases hm : n ≤ m
        · exact .inl (by omega)
        · exact .inr (List.mem_cons.mpr (.inl (by omega)))
      · exact .inr (List.mem_cons_of_mem _ h1)
    · rcases List.mem_cons.mp ha with rfl | ha
      · omega
      · exact h3 a ha
theorem foldl_max (ns : List Int) : ∀ n : Int, (ns.foldl max n = n ∨ ns.foldl max n ∈ ns) ∧ n ≤ ns.foldl max n ∧ ∀ a ∈ ns, a ≤ ns.foldl max n := by
  induction ns with
  | nil => exact fun n => ⟨.inl rfl, Int.le_refl _, fun a h => by cases h⟩
  | cons m ns ih =>
    intro n
    obtain ⟨h1, h2, h3⟩ := ih (max n m)
    rw [List.foldl_cons]
    refine ⟨?_, by omega, fun a ha => ?_⟩
    · rcases h1 with h1 | h1
      · rw [h1]
        by_cases hm : m ≤ n
        · exact .inl (by omega)
        · exact .inr (List.mem_cons.mpr (.inl (by omega)))
      · exact .inr (List.mem_cons_of_mem _ h1)
    · rcases List.mem_cons.mp ha with rfl | ha
      · omega
      · exact h3 a ha
theorem minI_is {ns : List Int} {m : Int} (h1 : m ∈ ns) (h2 : ∀ a ∈ ns, m ≤ a) : minI ns = m := by
  cases ns with
  | nil => cases h1
  | cons n ns =>
    obtain ⟨a1, a2, a3⟩ := foldl_min ns n
    show ns.foldl min n = m
    have z : m ≤ ns.foldl min n := by
      rcases a1 with a1 | a1
      · rw [a1]
        exact h2 n (List.mem_cons_self ..)
      · exact h2 _ (List.mem_cons_of_mem _ a1)
    have z2 : ns.foldl min n ≤ m := by
      rcases List.mem_cons.mp h1 with rfl | h1
      · exact a2
      · exact a3 m h1
    omega
theorem maxI_is {ns : List Int} {m : Int} (h1 : m ∈ ns) (h2 : ∀ a ∈ ns, a ≤ m) : maxI ns = m := by
  cases ns with
  | nil => cases h1
  | cons n ns =>
    obtain ⟨a1, a2, a3⟩ := foldl_max ns n
    show ns.foldl max n = m
    have z : ns.foldl max n ≤ m := by
      rcases a1 with a1 | a1
      · rw [a1]
        exact h2 n (List.mem_cons_self ..)
      · exact h2 _ (List.mem_cons_of_mem _ a1)
    have z2 : m ≤ ns.foldl max n := by
      rcases List.mem_cons.mp h1 with rfl | h1
      · exact a2
      · exact a3 m h1
    omega
def fMin1 : List D → Option Vl
  | [.lst ds] => (intsD ds).bind fun ns => if ns ≠ [] then some (.fz (.int (minI ns))) else none
  | [.tup ds] => (intsD ds).bind fun ns => if ns ≠ [] then some (.fz (.int (minI ns))) else none
  | _ => none
def fMax1 : List D → Option Vl
  | [.lst ds] => (intsD ds).bind fun ns => if ns ≠ [] then some (.fz (.int (maxI ns))) else none
  | [.tup ds] => (intsD ds).bind fun ns => if ns ≠ [] then some (.fz (.int (maxI ns))) else none
  | _ => none
def rMin1 (K : PySem.W.Frag) : List V → Hp → VK → Prop := fun vs H Q => ∃ (a : Addr) (ns : List Int), vs = [V.ref a] ∧ (SqL K H a (ns.map V.int) ∨ SqT K H a (ns.map V.int)) ∧ ns ≠ [] ∧ Q (.int (minI ns)) H
def rMax1 (K : PySem.W.Frag) : List V → Hp → VK → Prop := fun vs H Q => ∃ (a : Addr) (ns : List Int), vs = [V.ref a] ∧ (SqL K H a (ns.map V.int) ∨ SqT K H a (ns.map V.int)) ∧ ns ≠ [] ∧ Q (.int (maxI ns)) H
theorem cMin1 {X : Cx} {K : PySem.W.Frag} (hc : X.calm = true) (hK : X.K = K := by rfl) : CallR X (.builtin "min") (rMin1 K) := by
  subst hK
  intro pins s σ H vs us Q I r h
  obtain ⟨a, ns, rfl, hs, hne, q⟩ := h
  have hl : 0 < ns.length := List.length_pos_iff.mpr hne
  rw [Vals.ref1 r]
  rcases hs with hs | hs
  · obtain ⟨its, rv, hl', _⟩ := I.list hs
    exact min_raw (I.ok.hd hc) hl'.isList rv.ints hl fun h' tk m t' hk h1 h2 => ⟨.int _, H, I.kept hk, ⟨_, rfl⟩, by rw [minI_is h1 h2] at q; exact q⟩
  · obtain ⟨its, rv, hl', _⟩ := I.tuple hs
    exact minT_raw (I.ok.hd hc) hl' rv.ints hl fun h' tk m t' hk h1 h2 => ⟨.int _, H, I.kept hk, ⟨_, rfl⟩, by rw [minI_is h1 h2] at q; exact q⟩
theorem cMax1 {X : Cx} {K : PySem.W.Frag} (hc : X.calm = true) (hK : X.K = K := by rfl) : CallR X (.builtin "max") (rMax1 K) := by
  subst hK
  intro pins s σ H vs us Q I r h
  obtain ⟨a, ns, rfl, hs, hne, q⟩ := h
  have hl : 0 < ns.length := List.length_pos_iff.mpr hne
  rw [Vals.ref1 r]
  rcases hs with hs | hs
  · obtain ⟨its, rv, hl', _⟩ := I.list hs
    exact max_raw (I.ok.hd hc) hl'.isList rv.ints hl fun h' tk m t' hk h1 h2 => ⟨.int _, H, I.kept hk, ⟨_, rfl⟩, by rw [maxI_is h1 h2] at q; exact q⟩
  · obtain ⟨its, rv, hl', _⟩ := I.tuple hs
    exact maxT_raw (I.ok.hd hc) hl' rv.ints hl fun h' tk m t' hk h1 h2 => ⟨.int _, H, I.kept hk, ⟨_, rfl⟩, by rw [maxI_is h1 h2] at q; exact q⟩
theorem min1_ok {K : PySem.W.Frag} : OpN K (rMin1 K) fMin1 := fun G H xs ds z Q e kk h q => by
  unfold fMin1 at h
  split at h
  · obtain ⟨x, rfl, k⟩ := den1 kk
    obtain ⟨p, vs, rfl, hp, t⟩ := den_lst k
    obtain ⟨ns, hn, hz⟩ := Option.bind_eq_some_iff.mp h
    obtain ⟨hne, rfl⟩ := ite_some hz
    exact ⟨p, ns, rfl, .inl (ints_den t hn ▸ SqL.of (e _ _ hp)), hne, q.now e (.int _)⟩
  · obtain ⟨x, rfl, k⟩ := den1 kk
    obtain ⟨p, vs, rfl, hp, t⟩ := den_tup k
    obtain ⟨ns, hn, hz⟩ := Option.bind_eq_some_iff.mp h
    obtain ⟨hne, rfl⟩ := ite_some hz
    exact ⟨p, ns, rfl, .inr (ints_den t hn ▸ seqT_same e hp), hne, q.now e (.int _)⟩
  · cases h
theorem max1_ok {K : PySem.W.Frag} : OpN K (rMax1 K) fMax1 := fun G H xs ds z Q e kk h q => by
  unfold fMax1 at h
  split at h
  · obtain ⟨x, rfl, k⟩ := den1 kk
    obtain ⟨p, vs, rfl, hp, t⟩ := den_lst k
    obtain ⟨ns, hn, hz⟩ := Option.bind_eq_some_iff.mp h
    obtain ⟨hne, rfl⟩ := ite_some hz
    exact ⟨p, ns, rfl, .inl (ints_den t hn ▸ SqL.of (e _ _ hp)), hne, q.now e (.int _)⟩
  · obtain ⟨x, rfl, k⟩ := den1 kk
    obtain ⟨p, vs, rfl, hp, t⟩ := den_tup k
    obtain ⟨ns, hn, hz⟩ := Option.bind_eq_some_iff.mp h
    obtain ⟨hne, rfl⟩ := ite_some hz
    exact ⟨p, ns, rfl, .inr (ints_den t hn ▸ seqT_same e hp), hne, q.now e (.int _)⟩
  · cases h
end DL

set_option Elab.async false
set_option linter.all false
set_option autoImplicit false
set_option maxRecDepth 100000
set_option maxHeartbeats 4000000
/-! the mirror layer: zip of what has items, a list beside a tuple -/
namespace DL
open PySem PySem.Spec PyProof.Rows L2 LK RZ
open PySem.Sem (wp)
/-- an iterator i over what lies at l -/
structure Src (prog : Program) (w : World) (i l : Addr) (xs : Array Value) (At : Nat → Heap → Prop) : Prop where
  keep : ∀ {k h h'}, At k h → (∀ o, h.get? i = some o → h'.get? i = some o) → (∀ o, h.get? l = some o → h'.get? l = some o) → At k h'
  item : ∀ {A : Around} {E : Value → Shared → Prop} {s : Shared} {Q : Value → Shared → Prop} {k x}, At k s.heap → xs[k]? = some x → i ≠ l → (∀ h', At (k + 1) h' → Heap.SameBut i s.heap h' → Q x { s with heap := h' }) → wpAny (model prog w) A (Builtin.SmallTypes.nextOf (.ref i)) Q E s
  stop : ∀ {A : Around} {E : Value → Shared → Prop} {s : Shared} {Q : Value → Shared → Prop} {k}, A.handled = none → At k s.heap → xs[k]? = none → (∀ h' e, Heap.ExtBut i s.heap h' → (∃ o, h'.get? e = some o ∧ o.cls = .type "StopIteration") → E (.ref e) { s with heap := h' }) → wpAny (model prog w) A (Builtin.SmallTypes.nextOf (.ref i)) Q E s
theorem srcL {prog : Program} {w : World} {i l : Addr} {xs : Array Value} : Src prog w i l xs (fun k h => h.IsListIter i l k ∧ h.IsList l xs) where
  keep := fun a e1 e2 => ⟨a.1.at e1, a.2.at e2⟩
  item := fun a hx n q => wpAny_nextOf_list_item a.1 a.2 hx fun h' h1 sb => q h' ⟨h1, a.2.extBut sb.extBut n.symm⟩ sb
  stop := fun hh a hx q => wpAny_nextOf_list_end hh a.1 a.2 hx q
theorem srcT {prog : Program} {w : World} {i l : Addr} {xs : Array Value} : Src prog w i l xs (fun k h => h.IsTupleIter i l k ∧ h.IsTuple l xs) where
  keep := fun a e1 e2 => ⟨a.1.at e1, a.2.at e2⟩
  item := fun a hx n q => nextOf_tuple_item a.1 a.2 hx fun h' h1 sb => q h' ⟨h1, a.2.extBut sb.extBut n.symm⟩ sb
  stop := fun hh a hx q => nextOf_tuple_end hh a.1 a.2 hx q
section
variable {prog : Program} {w : World} {A : Around} {E : Value → Shared → Prop} {s : Shared} {z TI TO i1 i2 l1 l2 : Addr} {k1 k2 : Nat} {xs ys : Array Value} {x y a b : Value} {A1 A2 : Nat → Heap → Prop}
theorem Src.ext {i l c : Addr} {k : Nat} {At : Nat → Heap → Prop} {h h' : Heap} (S : Src prog w i l xs At) (a : At k h) (e : Heap.ExtBut c h h') (n1 : i ≠ c) (n2 : l ≠ c) : At k h' := S.keep a (fun o => e _ o n1) (fun o => e _ o n2)
theorem zipS_item {Q : Value → Shared → Prop} (D : ZipApart z TI TO i1 i2 l1 l2) (S1 : Src prog w i1 l1 xs A1) (S2 : Src prog w i2 l2 ys A2)
    (hz : IsZip s.heap z TI TO .none) (hTI : IsPair s.heap TI (.ref i1) (.ref i2)) (hTO : IsPair s.heap TO a b) (h1 : A1 k1 s.heap) (h2 : A2 k2 s.heap) (hx : xs[k1]? = some x) (hy : ys[k2]? = some y)
    (hQ : ∀ h', IsZip h' z TI TO (rawInt s.heap.objs.size) → IsPair h' TO x y → A1 (k1 + 1) h' → A2 (k2 + 1) h' → IsPair h' s.heap.objs.size x y → h'.objs.size = s.heap.objs.size + 1 →
      (∀ c o, c ≠ z → c ≠ TO → c ≠ i1 → c ≠ i2 → s.heap.get? c = some o → h'.get? c = some o) → Q (.ref s.heap.objs.size) { s with heap := h' }) :
    wpAny (model prog w) A (Builtin.«zip.__next__» ⟨[.ref z], []⟩) (fun fin s' => ∃ v, fin = .done (.ret v) ∧ Q v s') E s := by
  show wpAny _ _ (field (.ref z) 2 >>= _) _ _ _
  refine wpAny_bind (wpAny_field hz rfl (x := .bool false) rfl ?_)
  show wpAny _ _ (field (.ref z) 3 >>= _) _ _ _
  refine wpAny_bind (wpAny_field hz rfl (x := .ref TI) rfl (wpAny_bind (wpAny_seqItems hTI rfl ?_)))
  show wpAny _ _ (Builtin.SmallTypes.ownedTupleIsFree (.ref z) >>= _) _ _ _
  unfold Builtin.SmallTypes.ownedTupleIsFree
  refine wpAny_bind (wpAny_bind (wpAny_field hz rfl (x := .none) rfl (wpAny_pure ?_)))
  simp only [if_true]
  refine wpAny_bind (wpAny_rule (wpAny_bind (wpAny_field hz rfl (x := .ref TO) rfl (wpAny_bind (wpAny_setField_rec hz (by simp) fun g1 zg1 b1 => wpAny_bind ?_)))))
  simp only [List.zipIdx_cons, List.zipIdx_nil, List.forIn_cons, List.forIn_nil]
  refine wpAny_bind (wpAny_bind (wpAny_onRaise ?_))
  show wpAny _ _ (Builtin.SmallTypes.nextOf (.ref i1) >>= _) _ _ _
  refine wpAny_bind (S1.item (S1.ext h1 b1.extBut D.i1z D.l1z) hx D.l1i1.symm fun g2 a2 b2 => wpAny_pure ?_)
  have p2 : IsPair g2 TO a b := b2.extBut _ _ D.TOi1 (b1.extBut _ _ D.TOz hTO)
  refine wpAny_bind (wpAny_seqItems p2 rfl (wpAny_bind (wpAny_updateSeq_pair p2 fun g3 p3 b3 => wpAny_bind (wpAny_letGo (wpAny_pure ?_)))))
  replace p3 : IsPair g3 TO x b := p3
  refine wpAny_bind (wpAny_bind (wpAny_onRaise ?_))
  show wpAny _ _ (Builtin.SmallTypes.nextOf (.ref i2) >>= _) _ _ _
  have c3 : A2 k2 g3 := S2.ext (S2.ext (S2.ext h2 b1.extBut D.i2z D.l2z) b2.extBut D.i12.symm D.l2i1) b3.extBut D.TOi2.symm D.l2TO
  refine wpAny_bind (S2.item c3 hy D.l2i2.symm fun g4 c4 b4 => wpAny_pure ?_)
  have p4 : IsPair g4 TO x b := b4.extBut _ _ D.TOi2 p3
  refine wpAny_bind (wpAny_seqItems p4 rfl (wpAny_bind (wpAny_updateSeq_pair p4 fun g5 p5 b5 => wpAny_bind (wpAny_letGo (wpAny_pure (wpAny_pure ?_))))))
  replace p5 : IsPair g5 TO x y := p5
  refine wpAny_bind (wpAny_seqItems p5 rfl (wpAny_bind (wpAny_newTuple ?_)))
  have hsz : g5.objs.size = s.heap.objs.size := by rw [b5.1, b4.1, b3.1, b2.1, b1.1]
  have z5 : IsZip g5 z TI TO .ellipsis := b5.extBut _ _ D.TOz.symm (b4.extBut _ _ D.i2z.symm (b3.extBut _ _ D.TOz.symm (b2.extBut _ _ D.i1z.symm zg1)))
  have u5 : ∀ c o, c ≠ z → c ≠ TO → c ≠ i1 → c ≠ i2 → s.heap.get? c = some o → g5.get? c = some o := fun c o n1 n2 n3 n4 e =>
    b5.extBut _ _ n2 (b4.extBut _ _ n4 (b3.extBut _ _ n2 (b2.extBut _ _ n3 (b1.extBut _ _ n1 e))))
  have a5 : A1 (k1 + 1) g5 := S1.ext (S1.ext (S1.ext a2 b3.extBut D.TOi1.symm D.l1TO) b4.extBut D.i12 D.l1i2) b5.extBut D.TOi1.symm D.l1TO
  have c5 : A2 (k2 + 1) g5 := S2.ext c4 b5.extBut D.TOi2.symm D.l2TO
  have hzlt : z < g5.objs.size := Heap.lt_size z5
  show wpAny _ _ (Builtin.SmallTypes.ownedTupleHandOut (.ref z) (.ref g5.objs.size) >>= _) _ _ _
  unfold Builtin.SmallTypes.ownedTupleHandOut
  have z6 : IsZip (g5.push { cls := .type "tuple", data := .seq #[x, y] }) z TI TO .ellipsis := Heap.get?_push_of_some _ z5
  refine wpAny_bind (wpAny_bind (wpAny_setField_rec z6 (by simp) fun g7 z7 b7 => ?_))
  replace z7 : IsZip g7 z TI TO (rawInt g5.objs.size) := z7
  refine wpAny_setField_rec z7 (by simp) fun g8 z8 b8 => ?_
  replace z8 : IsZip g8 z TI TO (rawInt g5.objs.size) := z8
  have up : ∀ c o, c ≠ z → g5.get? c = some o → g8.get? c = some o := fun c o n e => b8.extBut _ _ n (b7.extBut _ _ n (Heap.get?_push_of_some _ e))
  have t8 : IsPair g8 g5.objs.size x y := b8.extBut _ _ (Nat.ne_of_gt hzlt) (b7.extBut _ _ (Nat.ne_of_gt hzlt) (Heap.get?_push_size _ rfl))
  have s8 : g8.objs.size = g5.objs.size + 1 := by rw [b8.1, b7.1, Heap.size_push]
  rw [hsz] at z8 t8 s8
  refine wpAny_pure ⟨_, rfl, ?_⟩
  show Q (.ref g5.objs.size) _
  rw [hsz]
  exact hQ g8 z8 (up _ _ D.TOz p5) (S1.keep a5 (fun o => up _ o D.i1z) fun o => up _ o D.l1z) (S2.keep c5 (fun o => up _ o D.i2z) fun o => up _ o D.l2z) t8 s8 fun c o n1 n2 n3 n4 e => up c o n1 (u5 c o n1 n2 n3 n4 e)
theorem zipS_end {Q : Fin → Shared → Prop} (hh : A.handled = none) (D : ZipApart z TI TO i1 i2 l1 l2) (S1 : Src prog w i1 l1 xs A1) (S2 : Src prog w i2 l2 ys A2)
    (hz : IsZip s.heap z TI TO .none) (hTI : IsPair s.heap TI (.ref i1) (.ref i2)) (hTO : IsPair s.heap TO a b) (h1 : A1 k1 s.heap) (h2 : A2 k2 s.heap) (hend : xs[k1]? = none ∨ ys[k2]? = none)
    (hE : ∀ h' e, (∀ c o, c ≠ z → c ≠ TO → c ≠ i1 → c ≠ i2 → s.heap.get? c = some o → h'.get? c = some o) → (∃ o, h'.get? e = some o ∧ o.cls = .type "StopIteration") → E (.ref e) { s with heap := h' }) :
    wpAny (model prog w) A (Builtin.«zip.__next__» ⟨[.ref z], []⟩) Q E s := by
  show wpAny _ _ (field (.ref z) 2 >>= _) _ _ _
  refine wpAny_bind (wpAny_field hz rfl (x := .bool false) rfl ?_)
  show wpAny _ _ (field (.ref z) 3 >>= _) _ _ _
  refine wpAny_bind (wpAny_field hz rfl (x := .ref TI) rfl (wpAny_bind (wpAny_seqItems hTI rfl ?_)))
  show wpAny _ _ (Builtin.SmallTypes.ownedTupleIsFree (.ref z) >>= _) _ _ _
  unfold Builtin.SmallTypes.ownedTupleIsFree
  refine wpAny_bind (wpAny_bind (wpAny_field hz rfl (x := .none) rfl (wpAny_pure ?_)))
  simp only [if_true]
  refine wpAny_bind (wpAny_rule (wpAny_bind (wpAny_field hz rfl (x := .ref TO) rfl (wpAny_bind (wpAny_setField_rec hz (by simp) fun g1 zg1 b1 => wpAny_bind ?_)))))
  replace zg1 : IsZip g1 z TI TO .ellipsis := zg1
  simp only [List.zipIdx_cons, List.zipIdx_nil, List.forIn_cons, List.forIn_nil]
  refine wpAny_bind (wpAny_bind (wpAny_onRaise ?_))
  show wpAny _ _ (Builtin.SmallTypes.nextOf (.ref i1) >>= _) _ _ _
  have fin : ∀ {g : Heap} {e : Addr}, IsZip g z TI TO .ellipsis → (∃ o, g.get? e = some o ∧ o.cls = .type "StopIteration") → e ≠ z := fun zg he n => by
    subst n
    obtain ⟨o, e1, e2⟩ := he
    rw [zg] at e1
    cases e1
    simp at e2
  cases hx : xs[k1]? with
  | none =>
    refine wpAny_bind (S1.stop hh (S1.ext h1 b1.extBut D.i1z D.l1z) hx fun g2 e b2 he => ?_)
    have z2 : IsZip g2 z TI TO .ellipsis := b2 _ _ D.i1z.symm zg1
    have ne := fin z2 he
    obtain ⟨o, ho, hc⟩ := he
    exact wpAny_setField_rec z2 (by simp) fun g3 _ b3 => hE g3 e (fun c o n1 _ n3 _ u => b3.extBut _ _ n1 (b2 _ _ n3 (b1.extBut _ _ n1 u))) ⟨o, b3.extBut _ _ ne ho, hc⟩
  | some x =>
    have hy : ys[k2]? = none := hend.resolve_left (by rw [hx]; exact fun u => nomatch u)
    refine wpAny_bind (S1.item (S1.ext h1 b1.extBut D.i1z D.l1z) hx D.l1i1.symm fun g2 a2 b2 => wpAny_pure ?_)
    have p2 : IsPair g2 TO a b := b2.extBut _ _ D.TOi1 (b1.extBut _ _ D.TOz hTO)
    refine wpAny_bind (wpAny_seqItems p2 rfl (wpAny_bind (wpAny_updateSeq_pair p2 fun g3 p3 b3 => wpAny_bind (wpAny_letGo (wpAny_pure ?_)))))
    refine wpAny_bind (wpAny_bind (wpAny_onRaise ?_))
    show wpAny _ _ (Builtin.SmallTypes.nextOf (.ref i2) >>= _) _ _ _
    have c3 : A2 k2 g3 := S2.ext (S2.ext (S2.ext h2 b1.extBut D.i2z D.l2z) b2.extBut D.i12.symm D.l2i1) b3.extBut D.TOi2.symm D.l2TO
    refine wpAny_bind (S2.stop hh c3 hy fun g4 e b4 he => ?_)
    have z4 : IsZip g4 z TI TO .ellipsis := b4 _ _ D.i2z.symm (b3.extBut _ _ D.TOz.symm (b2.extBut _ _ D.i1z.symm zg1))
    have ne := fin z4 he
    obtain ⟨o, ho, hc⟩ := he
    exact wpAny_setField_rec z4 (by simp) fun g5 _ b5 => hE g5 e (fun c o n1 n2 n3 n4 u => b5.extBut _ _ n1 (b4 _ _ n4 (b3.extBut _ _ n2 (b2.extBut _ _ n3 (b1.extBut _ _ n1 u))))) ⟨o, b5.extBut _ _ ne ho, hc⟩
theorem nextS_item {Q : Option Value → Shared → Prop} (D : ZipApart z TI TO i1 i2 l1 l2) (S1 : Src prog w i1 l1 xs A1) (S2 : Src prog w i2 l2 ys A2)
    (hz : IsZip s.heap z TI TO .none) (hTI : IsPair s.heap TI (.ref i1) (.ref i2)) (hTO : IsPair s.heap TO a b) (h1 : A1 k1 s.heap) (h2 : A2 k2 s.heap) (hx : xs[k1]? = some x) (hy : ys[k2]? = some y)
    (hQ : ∀ h', IsZip h' z TI TO (rawInt s.heap.objs.size) → IsPair h' TO x y → A1 (k1 + 1) h' → A2 (k2 + 1) h' → IsPair h' s.heap.objs.size x y → h'.objs.size = s.heap.objs.size + 1 →
      (∀ c o, c ≠ z → c ≠ TO → c ≠ i1 → c ≠ i2 → s.heap.get? c = some o → h'.get? c = some o) → Q (some (.ref s.heap.objs.size)) { s with heap := h' }) :
    wpAny (model prog w) A (pyNext (.ref z)) Q E s := by
  have hT : s.TypeIs (.ref z) "zip" := ⟨_, hz, rfl⟩
  unfold pyNext
  exact wpAny_bind (wpAny_attempt (wpAny_callSpecial?_slot (name := Str.ofString "__next__") hT F.slot_zip_next
    (wpAny_call_entry F.slot_zip_next hT F.entry_zip_next (zipS_item D S1 S2 hz hTI hTO h1 h2 hx hy fun h' q1 q2 q3 q4 q5 q6 q7 => wpAny_pure (hQ h' q1 q2 q3 q4 q5 q6 q7)) (F.args_zip_next_1 _))))
theorem nextS_end {Q : Option Value → Shared → Prop} (hh : A.handled = none) (D : ZipApart z TI TO i1 i2 l1 l2) (S1 : Src prog w i1 l1 xs A1) (S2 : Src prog w i2 l2 ys A2)
    (hz : IsZip s.heap z TI TO .none) (hTI : IsPair s.heap TI (.ref i1) (.ref i2)) (hTO : IsPair s.heap TO a b) (h1 : A1 k1 s.heap) (h2 : A2 k2 s.heap) (hend : xs[k1]? = none ∨ ys[k2]? = none)
    (hQ : ∀ h', (∀ c o, c ≠ z → c ≠ TO → c ≠ i1 → c ≠ i2 → s.heap.get? c = some o → h'.get? c = some o) → Q none { s with heap := h' }) : wpAny (model prog w) A (pyNext (.ref z)) Q E s := by
  have hT : s.TypeIs (.ref z) "zip" := ⟨_, hz, rfl⟩
  unfold pyNext
  refine wpAny_bind (wpAny_attempt (wpAny_callSpecial?_slot (name := Str.ofString "__next__") hT F.slot_zip_next
    (wpAny_call_entry F.slot_zip_next hT F.entry_zip_next (zipS_end hh D S1 S2 hz hTI hTO h1 h2 hend fun h' e hk he => ?_) (F.args_zip_next_1 _))))
  obtain ⟨o, ho, hc⟩ := he
  exact wpAny_bind (wpAny_isInstance (T := "StopIteration") (b := true) ⟨o, ho, hc⟩ isSubtype_stop (wpAny_pure (hQ _ hk)))
end
/-! ### of a list and a tuple -/
def ItzM (K : PySem.W.Frag) (a b : Addr) : It :=
  ⟨fun i H => ∃ (xs ys : List V) (x y : V), SqL K H a xs ∧ SqT K H b ys ∧ xs[i]? = some x ∧ ys[i]? = some y,
    fun i H v H' => ∃ T x y, v = .ref T ∧ H T = none ∧ H' = upd H T (.tup [x, y]) ∧ (∀ xs, SqL K H a xs → xs[i]? = some x) ∧ ∀ ys, SqT K H b ys → ys[i]? = some y,
    fun i H => ∃ xs ys : List V, SqL K H a xs ∧ SqT K H b ys ∧ (xs.length ≤ i ∨ ys.length ≤ i)⟩
theorem mem5 {c z TI TO i1 i2 : Addr} (h : c ∈ [z, TI, TO, i1, i2]) : c = z ∨ c = TI ∨ c = TO ∨ c = i1 ∨ c = i2 := by simpa using h
theorem turn_zipM {P : Program} {w : World} {K : PySem.W.Frag} {elts : List Expr} {kk : Nat} {tpos : Pos} {a b z TI TO i1 i2 : Addr} (D : ZipApart z TI TO i1 i2 a b) :
    Turn P w K (.Tuple elts kk tpos) (ItzM K a b) [z, TI, TO, i1, i2] z (fun i h => IsZip h z TI TO .none ∧ IsPair h TI (.ref i1) (.ref i2) ∧ (∃ x y, IsPair h TO x y) ∧ h.IsListIter i1 a i ∧ h.IsTupleIter i2 b i) where
  mem := by simp
  obj := fun i h ⟨hz, hTI, ⟨x, y, hTO⟩, ⟨o1, e1, _, d1⟩, ⟨o2, e2, _, d2⟩⟩ c hc => by
    rcases mem5 hc with rfl | rfl | rfl | rfl | rfl
    · exact ⟨_, hz, fun v q => nomatch q⟩
    · exact ⟨_, hTI, fun v q => nomatch q⟩
    · exact ⟨_, hTO, fun v q => nomatch q⟩
    · exact ⟨o1, e1, fun v q => by rw [d1] at q; cases q⟩
    · exact ⟨o2, e2, fun v q => by rw [d2] at q; cases q⟩
  keep := fun i h h' ⟨hz, hTI, ⟨x, y, hTO⟩, h1, h2⟩ k => ⟨k z (by simp) _ hz, k TI (by simp) _ hTI, ⟨x, y, k TO (by simp) _ hTO⟩, h1.at fun o q => k i1 (by simp) o q, h2.at fun o q => k i2 (by simp) o q⟩
  item := by
    intro X hP hw hK hc i pins s σ H E I hf st hg
    subst hP hw hK
    obtain ⟨hz, hTI, ⟨x0, y0, hTO⟩, h1, h2⟩ := st
    obtain ⟨xs, ys, x, y, hqx, hqy, hx, hy⟩ := hg
    obtain ⟨its, rv, p, _⟩ := I.list hqx
    obtain ⟨its2, rv2, p2, _⟩ := I.tuple hqy
    obtain ⟨u, hu, ru⟩ := rv.get hx
    obtain ⟨u2, hu2, ru2⟩ := rv2.get hy
    have hzl : z < s.heap.objs.size := Heap.lt_size hz
    refine nextS_item D (srcL (xs := its.toArray)) (srcT (xs := its2.toArray)) hz hTI hTO ⟨h1, p.isList⟩ ⟨h2, p2⟩ (x := u) (y := u2) (by simpa using hu) (by simpa using hu2) fun h' z' TO' h1' h2' hT hsz hk => ?_
    refine ⟨_, rfl, wpAny_letOwnedTupleGo_zip (s := { s with heap := h' }) z' fun h'' z'' sb => ?_⟩
    have hT2 : h''.get? s.heap.objs.size = some { cls := .type "tuple", data := .seq #[u, u2] } := (sb.2 _ (Nat.ne_of_gt hzl)).trans hT
    have new : ObjOk X.prog X.w (upd H s.heap.objs.size (.tup [x, y])) h'' s.heap.objs.size (.tup [x, y]) :=
      ⟨by show 2 ≤ sizeLine; decide, [u, u2], .cons ru (.cons ru2 .nil), ⟨_, hT2, rfl, _, rfl⟩⟩
    have I1 : Inv X pins σ (upd H s.heap.objs.size (.tup [x, y])) { s with heap := h'' } :=
      I.turnedNew (t' := s.toks) (ch := [z, TI, TO, i1, i2]) (fun c o hb q => (sb.2 c (fun q' => hb (by simp [q']))).trans (hk c o (fun q' => hb (by simp [q'])) (fun q' => hb (by simp [q'])) (fun q' => hb (by simp [q'])) (fun q' => hb (by simp [q'])) q)) hf (Nat.le_refl _) new
    refine ⟨.ref s.heap.objs.size, _, I1, rfl, ⟨_, x, y, rfl, I.hok.fresh (Nat.le_refl _), rfl, fun l hl => by rw [I.list_inj hl hqx]; exact hx, fun l hl => by rw [I.tuple_inj hl hqy]; exact hy⟩, ⟨z'', (sb.2 _ D.TIz).trans (hk _ _ D.TIz D.TITO D.TIi1 D.TIi2 hTI), ⟨u, u2, (sb.2 _ D.TOz).trans TO'⟩, h1'.1.at fun o q => (sb.2 _ D.i1z).trans q, h2'.1.at fun o q => (sb.2 _ D.i2z).trans q⟩, fun c hcm => ?_⟩
    have hlt : c < s.heap.objs.size := by
      rcases mem5 hcm with rfl | rfl | rfl | rfl | rfl
      · exact hzl
      · exact Heap.lt_size hTI
      · exact Heap.lt_size hTO
      · obtain ⟨_, e1, _⟩ := h1; exact Heap.lt_size e1
      · obtain ⟨_, e2, _⟩ := h2; exact Heap.lt_size e2
    rw [upd_ne (Nat.ne_of_lt hlt)]
    exact (hf c hcm).1
  done := by
    intro X hP hw hK hc i pins s σ H E I hf st hg
    subst hP hw hK
    obtain ⟨hz, hTI, ⟨x0, y0, hTO⟩, h1, h2⟩ := st
    obtain ⟨xs, ys, hqx, hqy, hend⟩ := hg
    obtain ⟨its, rv, p, _⟩ := I.list hqx
    obtain ⟨its2, rv2, p2, _⟩ := I.tuple hqy
    have e1 := rv.length
    have e2 := rv2.length
    refine nextS_end (I.ok.hd hc) D (srcL (xs := its.toArray)) (srcT (xs := its2.toArray)) hz hTI hTO ⟨h1, p.isList⟩ ⟨h2, p2⟩ (hend.imp (fun q => by simp; omega) fun q => by simp; omega) fun h' hk => ⟨rfl, I.turnedL (t' := s.toks) (ch := [z, TI, TO, i1, i2]) (fun c o hb q =>
      hk c o (fun q' => hb (by simp [q'])) (fun q' => hb (by simp [q'])) (fun q' => hb (by simp [q'])) (fun q' => hb (by simp [q'])) q) hf⟩
  self := fun A i s Q E st h => wpAny_pyIter_zip st.1 h
end DL

set_option Elab.async false
set_option linter.all false
set_option autoImplicit false
set_option maxRecDepth 100000
set_option maxHeartbeats 4000000
/-! the mirror layer: the call of zip with a list and a tuple -/
namespace DL
open PySem PySem.Spec PyProof.Rows L2 LK RZ
abbrev zm1 (h : Heap) (l1 : Addr) : Heap := h.push { cls := .type "list_iterator", data := .fields #[.ref l1, .int 0 0] }
abbrev zm2 (h : Heap) (l1 l2 : Addr) : Heap := (zm1 h l1).push { cls := .type "tuple_iterator", data := .fields #[.ref l2, .int 0 0] }
abbrev zm3 (h : Heap) (l1 l2 : Addr) : Heap := (zm2 h l1 l2).push { cls := .type "tuple", data := .seq #[.ref h.objs.size, .ref (zm1 h l1).objs.size] }
abbrev zm4 (h : Heap) (l1 l2 : Addr) : Heap := (zm3 h l1 l2).push { cls := .type "tuple", data := .seq #[.none, .none] }
abbrev zm5 (h : Heap) (l1 l2 : Addr) : Heap := (zm4 h l1 l2).push { cls := .type "zip", data := .fields #[.none, .bool false, .bool false, .ref (zm2 h l1 l2).objs.size, .ref (zm3 h l1 l2).objs.size] }
theorem meets_zm (l1 l2 : Addr) (xs ys : Array Value) : Meets (Builtin.«zip.__new__» ⟨[.type "zip", .ref l1, .ref l2], []⟩) (fun _ R s => s.heap.IsList l1 xs ∧ s.heap.IsTuple l2 ys ∧ R (.ok (.ret (.ref (zm4 s.heap l1 l2).objs.size))) { s with heap := zm5 s.heap l1 l2 }) :=
  .of_wp fun prog w A R s h => by
    obtain ⟨hp, g, d, tk, os⟩ := s
    obtain ⟨k1, k2, h⟩ := h
    have hsub := sub_zip
    have K1 : Heap.IsList (Shared.heap ⟨hp, g, d, tk, os⟩) l1 xs := k1
    have K2 : Heap.IsTuple (Shared.heap ⟨hp.push { cls := .type "list_iterator", data := .fields #[.ref l1, .int 0 0] }, g, d, tk, os⟩) l2 ys := Heap.IsTuple.push k2 _
    wp_walk using wpAny_pyIter_list K1, wpAny_pyIter_tuple K2
    exact ⟨_, rfl, h⟩
section
variable {prog : Program} {w : World} {A : Around} {E : Value → Shared → Prop} {s : Shared}
theorem call_zm {l1 l2 : Addr} {xs ys : Array Value} {Q : Value → Shared → Prop} (k1 : s.heap.IsList l1 xs) (k2 : s.heap.IsTuple l2 ys)
    (h : ∀ h', IsZip h' (s.heap.objs.size + 4) (s.heap.objs.size + 2) (s.heap.objs.size + 3) .none → IsPair h' (s.heap.objs.size + 2) (.ref s.heap.objs.size) (.ref (s.heap.objs.size + 1)) →
      IsPair h' (s.heap.objs.size + 3) .none .none → h'.IsListIter s.heap.objs.size l1 0 → h'.IsTupleIter (s.heap.objs.size + 1) l2 0 → h'.objs.size = s.heap.objs.size + 5 →
      (∀ c o, s.heap.get? c = some o → h'.get? c = some o) → Q (.ref (s.heap.objs.size + 4)) { s with heap := h' }) :
    wpAny (model prog w) A (call (.type "zip") [.ref l1, .ref l2]) Q E s := by
  refine callType_new F.called_zip (by decide) (F.typeCall_zip_2 _ _) (F.newCall_zip_2 _ _) (fun obj => F.args_object_init_3 obj _ _) F.entry_zip_new (meets_zm l1 l2 xs ys) ⟨k1, k2, ?_⟩
  have e1 : (zm1 s.heap l1).objs.size = s.heap.objs.size + 1 := Heap.size_push ..
  have e2 : (zm2 s.heap l1 l2).objs.size = s.heap.objs.size + 2 := by rw [Heap.size_push, e1]
  have e3 : (zm3 s.heap l1 l2).objs.size = s.heap.objs.size + 3 := by rw [Heap.size_push, e2]
  have e4 : (zm4 s.heap l1 l2).objs.size = s.heap.objs.size + 4 := by rw [Heap.size_push, e3]
  have e5 : (zm5 s.heap l1 l2).objs.size = s.heap.objs.size + 5 := by rw [Heap.size_push, e4]
  have up : ∀ {h : Heap} {o : Obj} {c : Addr} {o' : Obj}, h.get? c = some o' → (h.push o).get? c = some o' := fun e => Heap.get?_push_of_some _ e
  have g5 : (zm5 s.heap l1 l2).get? (zm4 s.heap l1 l2).objs.size = some _ := Heap.get?_push_size _ rfl
  have g4 : (zm5 s.heap l1 l2).get? (zm3 s.heap l1 l2).objs.size = some _ := up (Heap.get?_push_size _ rfl)
  have g3 : (zm5 s.heap l1 l2).get? (zm2 s.heap l1 l2).objs.size = some _ := up (up (Heap.get?_push_size _ rfl))
  have g2 : (zm5 s.heap l1 l2).get? (zm1 s.heap l1).objs.size = some _ := up (up (up (Heap.get?_push_size _ rfl)))
  have g1 : (zm5 s.heap l1 l2).get? s.heap.objs.size = some _ := up (up (up (up (Heap.get?_push_size _ rfl))))
  show _ ∧ _
  rw [e2, e3, e4] at g5
  rw [e1, e2] at g3
  rw [e3] at g4
  rw [e1] at g2
  rw [e4]
  exact ⟨⟨_, g5, rfl⟩, h _ g5 g3 g4 ⟨_, g1, rfl, rfl⟩ ⟨_, g2, rfl, rfl⟩ e5 fun c o u => up (up (up (up (up u))))⟩
end
def iZipB (K : PySem.W.Frag) (ta : TA) : TI := fun σ H R => ta σ H fun vs H1 => ∃ a b xs ys, vs = [.ref a, .ref b] ∧ ((SqL K H1 a xs ∧ SqL K H1 b ys ∧ R (Itz K a b) H1) ∨ (SqT K H1 a xs ∧ SqT K H1 b ys ∧ R (ItzT K a b) H1) ∨ (SqL K H1 a xs ∧ SqT K H1 b ys ∧ R (ItzM K a b) H1))
theorem pi_zipB {X : Cx} {e e2 : Expr} {ta : TA} {p pos tpos : Pos} {elts : List Expr} {kk : Nat} (hg : Gl X "zip") (hm : X.mg "zip" = none) (ha : PA X [e, e2] ta)
    (hs : starEach [e, e2] X.env = (false, eval e X.env) :: starEach [e2] X.env := by rfl) (hpl : (backTo pos (starEach [e2] X.env)).any (·.1) = false := by rfl) :
    PI X (.Tuple elts kk tpos) (.Call (.Name "zip" p) [e, e2] [] pos) (iZipB X.K ta) := by
  refine ⟨fun pins s σ H R I h => ?_⟩
  refine Call_ (ld_blt I hg hm PyProof.Rows.boot_zip (PyProof.Rows.callWith_type1 (thn (ha.run pos pins s σ H _ I h) fun us s1 ⟨vs, H1, I1, r1, a, b, xs, ys, ex, q1⟩ => ?_) hs hpl))
  subst ex
  obtain ⟨u, u2, rfl, rel, rel2⟩ : ∃ u u2, us = [u, u2] ∧ RelV (.ref a) u ∧ RelV (.ref b) u2 := by
    cases r1 with
    | cons r rr =>
      cases rr with
      | cons r' rr =>
        cases rr
        exact ⟨_, _, rfl, r, r'⟩
  cases rel
  cases rel2
  have new5 : ∀ c, c ∈ [s1.heap.objs.size + 4, s1.heap.objs.size + 2, s1.heap.objs.size + 3, s1.heap.objs.size, s1.heap.objs.size + 1] → FpOk X pins H1 c := fun c hcm => by
    have hle : s1.heap.objs.size ≤ c := by
      rcases mem5 hcm with rfl | rfl | rfl | rfl | rfl <;> omega
    exact I1.fpOk hle (I1.hok.fresh hle)
  rcases q1 with ⟨hqx, hqy, q⟩ | ⟨hqx, hqy, q⟩ | ⟨hqx, hqy, q⟩
  · obtain ⟨its, rv, p1, _⟩ := I1.list hqx
    obtain ⟨its2, rv2, p2, _⟩ := I1.list hqy
    exact call_zip_2 p1.isList p2.isList fun h' hz hTI hTO h1 h2 _ hk => wpAny_pyIter_zip hz
      ⟨s1.heap.objs.size + 4, [s1.heap.objs.size + 4, s1.heap.objs.size + 2, s1.heap.objs.size + 3, s1.heap.objs.size, s1.heap.objs.size + 1], _, _, H1, rfl, I1.kept (t' := s1.toks) hk, turn_zip (PySem.W.ktu_apart s1.heap.objs.size a b p1.lt p2.lt), ⟨hz, hTI, ⟨_, _, hTO⟩, h1, h2⟩, new5, q⟩
  · obtain ⟨its, rv, p1, _⟩ := I1.tuple hqx
    obtain ⟨its2, rv2, p2, _⟩ := I1.tuple hqy
    obtain ⟨o1, ho1, _⟩ := id p1
    obtain ⟨o2, ho2, _⟩ := id p2
    exact call_zipT p1 p2 fun h' hz hTI hTO h1 h2 _ hk => wpAny_pyIter_zip hz
      ⟨s1.heap.objs.size + 4, [s1.heap.objs.size + 4, s1.heap.objs.size + 2, s1.heap.objs.size + 3, s1.heap.objs.size, s1.heap.objs.size + 1], _, _, H1, rfl, I1.kept (t' := s1.toks) hk, turn_zipT (PySem.W.ktu_apart s1.heap.objs.size a b (Heap.lt_size ho1) (Heap.lt_size ho2)), ⟨hz, hTI, ⟨_, _, hTO⟩, h1, h2⟩, new5, q⟩
  · obtain ⟨its, rv, p1, _⟩ := I1.list hqx
    obtain ⟨its2, rv2, p2, _⟩ := I1.tuple hqy
    obtain ⟨o2, ho2, _⟩ := id p2
    exact call_zm p1.isList p2 fun h' hz hTI hTO h1 h2 _ hk => wpAny_pyIter_zip hz
      ⟨s1.heap.objs.size + 4, [s1.heap.objs.size + 4, s1.heap.objs.size + 2, s1.heap.objs.size + 3, s1.heap.objs.size, s1.heap.objs.size + 1], _, _, H1, rfl, I1.kept (t' := s1.toks) hk, turn_zipM (PySem.W.ktu_apart s1.heap.objs.size a b p1.lt (Heap.lt_size ho2)), ⟨hz, hTI, ⟨_, _, hTO⟩, h1, h2⟩, new5, q⟩
theorem walk_zipM {K : PySem.W.Frag} {a c : Addr} {xs ys : List V} {n : Nat} (hn : n = min xs.length ys.length) : Walk (ItzM K a c) n (fun H => SqL K H a xs ∧ SqT K H c ys) (YPair (fun i => xs[i]?) (fun i => ys[i]?)) := by
  subst hn
  refine ⟨fun i _ hi q => ?_, fun _ q => ⟨xs, ys, q.1, q.2, by omega⟩, fun i H v H' _ q y => ?_⟩
  · have h1 : i < xs.length := by omega
    have h2 : i < ys.length := by omega
    exact ⟨xs, ys, xs[i], ys[i], q.1, q.2, by simp [h1], by simp [h2]⟩
  · obtain ⟨T, x, z, h1, h2, h3, h4, h5⟩ := y
    exact ⟨T, x, z, h1, h2, h3, h4 xs q.1, h5 ys q.2⟩
def dZj : List D → Option (List D)
  | [.lst cs, .lst ds] => some ((cs.zip ds).map fun p => .tup [p.1, p.2])
  | [.tup cs, .tup ds] => some ((cs.zip ds).map fun p => .tup [p.1, p.2])
  | [.lst cs, .tup ds] => some ((cs.zip ds).map fun p => .tup [p.1, p.2])
  | _ => none
section
variable {X : Cx} {b : Bs} {E : XW} {tg e e2 : Expr} {f : DE} {fs : DA}
theorem i_zipM {elts : List Expr} {kk : Nat} {tpos p pos : Pos} (hg : Gl X "zip") (hm : X.mg "zip" = none) (ha : PA X [e, e2] (tA b E fs)) (hK : X.K = b.K := by rfl)
    (hs : starEach [e, e2] X.env = (false, eval e X.env) :: starEach [e2] X.env := by rfl) (hpl : (backTo pos (starEach [e2] X.env)).any (·.1) = false := by rfl) :
    PI X (.Tuple elts kk tpos) (.Call (.Name "zip" p) [e, e2] [] pos) (tI b E (dItN dZj fs)) :=
  PI.imp (pi_zipB hg hm ha hs hpl) fun σ H R ⟨G, ρ, S, w⟩ => ⟨G, ρ, S, w.bind.mono (L2.Same.refl G) fun a ρ1 w1 xs G1 H1 S1 s1 k1 => by
    obtain ⟨ds, ed, q⟩ := w1.of
    unfold dZj at ed
    split at ed
    · rename_i cs ds'
      cases ed
      obtain ⟨x, y, rfl, k, k'⟩ := den2 k1
      obtain ⟨a, xs, rfl, hs, t⟩ := den_lst k
      obtain ⟨a', ys, rfl, hs', t'⟩ := den_lst k'
      refine ⟨a, a', xs, ys, rfl, .inl ⟨SqL.of (S1.gh _ _ hs), SqL.of (S1.gh _ _ hs'), q _ G1 H1 S1 s1 ?_⟩⟩
      rw [hK]
      exact itd_of (walk_zip (K := b.K) (a := a) (b := a') (xs := xs) (ys := ys) rfl) (by rw [t.len, t'.len]; simp) (fun H e => ⟨SqL.of (e _ _ hs), SqL.of (e _ _ hs')⟩) fun i G2 H x H' d e s3 s4 y => zip_yld t t' e s3 s4 y
    · rename_i cs ds'
      cases ed
      obtain ⟨x, y, rfl, k, k'⟩ := den2 k1
      obtain ⟨a, xs, rfl, hs, t⟩ := den_tup k
      obtain ⟨a', ys, rfl, hs', t'⟩ := den_tup k'
      refine ⟨a, a', xs, ys, rfl, .inr (.inl ⟨hK ▸ seqT_same S1.gh hs, hK ▸ seqT_same S1.gh hs', q _ G1 H1 S1 s1 ?_⟩)⟩
      rw [hK]
      exact itd_of (walk_zipT' (K := b.K) (a := a) (c := a') (xs := xs) (ys := ys) rfl) (by rw [t.len, t'.len]; simp) (fun H e => ⟨seqT_same e hs, seqT_same e hs'⟩) fun i G2 H x H' d e s3 s4 y => zip_yld t t' e s3 s4 y
    · rename_i cs ds'
      cases ed
      obtain ⟨x, y, rfl, k, k'⟩ := den2 k1
      obtain ⟨a, xs, rfl, hs, t⟩ := den_lst k
      obtain ⟨a', ys, rfl, hs', t'⟩ := den_tup k'
      refine ⟨a, a', xs, ys, rfl, .inr (.inr ⟨SqL.of (S1.gh _ _ hs), hK ▸ seqT_same S1.gh hs', q _ G1 H1 S1 s1 ?_⟩)⟩
      rw [hK]
      exact itd_of (walk_zipM (K := b.K) (a := a) (c := a') (xs := xs) (ys := ys) rfl) (by rw [t.len, t'.len]; simp) (fun H e => ⟨SqL.of (e _ _ hs), seqT_same e hs'⟩) fun i G2 H x H' d e s3 s4 y => zip_yld t t' e s3 s4 y
    · cases ed⟩
end
end DL

set_option Elab.async false
set_option linter.all false
set_option autoImplicit false
set_option maxRecDepth 100000
set_option maxHeartbeats 4000000
/-! the mirror layer: texts repeated, isinstance of errors -/
namespace DL
open PySem PySem.Spec PyProof.Rows L2 LK
def rMulS (K : PySem.W.Frag) : R2 := fun x y H Q => match x, y with
  | .str a, .int n => (-(2 ^ 63) ≤ n ∧ n < 2 ^ 63 ∧ a.length * n.toNat ≤ sizeLine) ∧ Q (.str (toS (List.replicate n.toNat a.cps.toList).flatten)) H
  | x, y => rMulM K x y H Q
theorem foldl_app (n : Nat) (x : Array Nat) : ∀ a : Array Nat, ((List.replicate n x).foldl (· ++ ·) a).toList = a.toList ++ (List.replicate n x.toList).flatten := by
  induction n with
  | zero => intro a; simp
  | succ n ih =>
    intro a
    rw [List.replicate_succ, List.foldl_cons, ih, List.replicate_succ, List.flatten_cons, Array.toList_append, List.append_assoc]
theorem mul_toS (a : Str) (n : Int) (h : 1 ≤ n) : (⟨(List.replicate n.toNat a.cps).foldl (· ++ ·) #[]⟩ : Str) = toS (List.replicate n.toNat a.cps.toList).flatten := by
  rw [toS_of ⟨(List.replicate n.toNat a.cps).foldl (· ++ ·) #[]⟩]
  exact congrArg toS (foldl_app _ _ _)
theorem txt_mul (a : Str) (n : Int) : Txt.mul a n = toS (List.replicate n.toNat a.cps.toList).flatten := by
  unfold Txt.mul
  split
  · rename_i h
    have e : n.toNat = 0 := by omega
    rw [e]
    rfl
  · rename_i h
    split
    · rename_i h2
      rcases Bool.or_eq_true _ _ ▸ h2 with h3 | h3
      · have e : n = 1 := eq_of_beq h3
        subst e
        rw [toS_of a]
        exact congrArg toS (by simp [toS_list])
      · have e : a.cps.toList = [] := List.length_eq_zero_iff.mp (by simpa [Str.length] using eq_of_beq h3)
        rw [e]
        have e2 : (List.replicate n.toNat ([] : List Nat)).flatten = [] := by simp
        rw [e2, toS_of a, e]
    · exact mul_toS a n (by omega)
theorem mul_fits {a : Str} {n : Int} (h1 : -(2 ^ 63) ≤ n) (h2 : n < 2 ^ 63) (h : a.length * n.toNat ≤ sizeLine) : MulOk a n := by
  refine ⟨?_, fun h3 _ => ?_, fun h3 _ => ?_⟩
  · rw [decide_eq_false (by omega), decide_eq_false (by omega)]
    rfl
  · intro h5
    have hn : 0 < n := by omega
    have h6 : (2 ^ 63 - 1 : Int) < (a.length : Int) * n := by
      have h7 := Int.lt_mul_of_ediv_lt hn h5
      exact h7
    have h8 : (a.length : Int) * n = ((a.length * n.toNat : Nat) : Int) := by
      rw [Int.natCast_mul, Int.toNat_of_nonneg (by omega)]
    rw [h8] at h6
    unfold sizeLine at h
    omega
  · exact decide_eq_false (by omega)
theorem oMulS {X : Cx} {K : PySem.W.Frag} (hK : X.K = K := by rfl) : OpR X (binaryOp .Mult) (rMulS K) := by
  subst hK
  intro pins s σ H x y v u Q I rx ry h
  have key : rMulM X.K x y H Q → wpAny (model X.prog X.w) X.A (binaryOp .Mult v u) (EP X pins σ Q) X.xe s := fun h => op_mulM pins s σ H x y v u Q I rx ry h
  cases x with
  | str a =>
    cases y with
    | int n =>
      obtain ⟨⟨h1, h2, h3⟩, q⟩ := h
      obtain ⟨t, rfl⟩ := rx
      obtain ⟨t2, rfl⟩ := ry
      exact SB.mul (mul_fits h1 h2 h3) fun t' k => ⟨.str _, H, I.tok k, ⟨t', rfl⟩, by rw [txt_mul]; exact q⟩
    | _ => exact key h
  | _ => exact key h
def fMulS : D → D → Option Vl
  | .str x, .int n => if (-(2 ^ 63) ≤ n ∧ n < 2 ^ 63) ∧ x.length * n.toNat ≤ sizeLine then some (.fz (.str (List.replicate n.toNat x).flatten)) else none
  | a, c => fMul a c
theorem mulM_S {K : PySem.W.Frag} {x y : V} {H : Hp} {Q : VK} (h : rMulM K x y H Q) : rMulS K x y H Q := by
  cases x with
  | str a => cases y <;> exact (show False from h).elim
  | _ => exact h
theorem mulS_ok {K : PySem.W.Frag} : Op2 K (rMulS K) fMulS := fun G H x y a c z Q e k l h q => by
  unfold fMulS at h
  split at h
  · rename_i w n
    obtain ⟨hl, rfl⟩ := ite_some h
    cases den_str k
    cases den_int l
    exact ⟨⟨hl.1.1, hl.1.2, by rw [toS_len]; exact hl.2⟩, q.now e (.str _)⟩
  · exact mulM_S (mul_ok G H x y a c z Q e k l h q)
/-! ### isinstance(e, C) -/
def fIsX (cs : List Str) (p : Str → Bool) : D → Option Vl
  | .exc c _ => if c ∈ cs then some (.fz (.bl (p c))) else none
  | _ => none
theorem exc_at {K : PySem.W.Frag} {G : Hp} {x : V} {c : Str} {fs : List (Str × D)} (k : Den K G x (.exc c fs)) : ∃ (a : Addr) (d : Option Addr) (fr : Bool), x = .ref a ∧ G a = some (exK a (.ref (He.ga K c)) d fr) ∧ DictAt G d := by
  cases k with
  | exc0 h1 h2 => exact ⟨_, _, _, rfl, h2 ▸ h1, .inl rfl⟩
  | exc h1 h2 h3 h4 t => exact ⟨_, _, _, rfl, h2 ▸ h1, .inr ⟨_, _, rfl, h3⟩⟩
theorem isX_of {cs : List Str} {p : Str → Bool} {d : D} {z : Vl} (h : fIsX cs p d = some z) : ∃ c fs, d = .exc c fs ∧ c ∈ cs ∧ z = .fz (.bl (p c)) := by
  unfold fIsX at h
  split at h
  · obtain ⟨hi, rfl⟩ := ite_some h
    exact ⟨_, _, rfl, hi, rfl⟩
  · cases h
section
variable {X : Cx} {b : Bs} {E : XW} {e e2 : Expr} {fe : DE} {pos p : Pos}
theorem d_isX {cs : List Str} {f : Str → Bool} {c : V} {cv : Value} (h2 : PE X e2 (tC c)) (ha : PE X e (tW b E fe)) (hc : ClsV c cv) (hg : Gl X "isinstance") (hm : X.mg "isinstance" = none) (hx : ∀ d ∈ cs, ExcC b.K (He.ga b.K d) ∧ PySem.W.kitOne b.K (.ref (He.ga b.K d)) cv = some (f d)) (hK : X.K = b.K := by rfl)
    (hs : starEach [e, e2] X.env = (false, eval e X.env) :: starEach [e2] X.env := by rfl) (hs2 : starEach [e2] X.env = (false, eval e2 X.env) :: starEach [] X.env := by rfl) (hpl : (backTo pos (starEach [e2] X.env)).any (·.1) = false := by rfl) :
    PE X (.Call (.Name "isinstance" p) [e, e2] [] pos) (tW b E (dOp1 (fIsX cs f) fe)) :=
  PE.imp (pe_callB (cIsx (K := b.K) hK) hg hm (by decide +kernel) (pa_cons (pe_z ha) (pa_cons h2 pa_nil hs2) hs) (by decide) (by decide) hs hpl) fun σ H Q ⟨G, ρ, S, w⟩ => ⟨G, ρ, S, w.bind.mono (L2.Same.refl G) fun a ρ1 w1 x G1 H1 S1 s1 k1 => by
    obtain ⟨z, ez, q⟩ := w1.of
    obtain ⟨k, fs, ek, hi, rfl⟩ := isX_of ez
    rw [ek] at k1
    obtain ⟨a, d, fr, rfl, e1, e2⟩ := exc_at k1
    exact .inr ⟨a, _, c, cv, d, fr, _, rfl, (hx _ hi).1, S1.gh _ _ e1, e2.same S1.gh, hc, (hx _ hi).2, q _ G1 H1 (S1.push (.bl _)) s1⟩⟩
end
end DL

set_option Elab.async false
set_option linter.all false
set_option autoImplicit false
set_option maxRecDepth 100000
set_option maxHeartbeats 4000000
/-! the mirror layer: a, b = a tuple or a list; more reckoning -/
namespace DL
open PySem PySem.Spec PyProof.Rows L2 LK
def gW (n : Nat) (h : List D → DS → Option DS) : Vl → DS → Option DS := fun r ρ => match r with
  | .fz (.tup ds) => if ds.length = n then h ds ρ else none
  | .fz (.lst ds) => if ds.length = n then h ds ρ else none
  | .ow (.lst ds) => if ds.length = n then h ds ρ else none
  | _ => none
theorem pg_either {X : Cx} {e : Expr} {t t' : TG} (h : PG X e t) (h' : PG X e t') : PG X e (fun v σ H Q => t v σ H Q ∨ t' v σ H Q) :=
  ⟨fun pins s σ H v u Q I r q => q.elim (h.run pins s σ H v u Q I r) (h'.run pins s σ H v u Q I r)⟩
section
variable {X : Cx} {b : Bs} {es : List Expr} {pos : Pos}
theorem g_w {n kk : Nat} {h : List D → DS → Option DS} {vs : List Nat} (hc : X.calm = true) (h2 : PGs X es (tGs b vs h)) (hK : X.K = b.K := by rfl) (hn : (assignEach es X.env).length = n := by rfl) (hst : (assignEach es X.env).findIdx? (·.1) = none := by rfl) :
    PG X (.Tuple es kk pos) (tG b vs (gW n h)) :=
  PG.imp (pg_either (pgTup (K := b.K) hc h2 hK hn hst) (hK ▸ pg_lst hc h2 hn hst : PG X (.Tuple es kk pos) (gLst b.K n (tGs b vs h)))) fun v σ H Q ⟨G, ρ, r, ρ', S, e, q⟩ => by
    unfold gW at e
    split at e
    · rename_i ds
      split at e
      · rename_i hl
        obtain ⟨x, ex, k⟩ := S.top
        cases ex
        obtain ⟨a, xs, rfl, hs, t⟩ := den_tup k
        exact .inl ⟨a, xs, rfl, seqT_same S.gh hs, t.len.trans hl, G, ρ, ds, ρ', S.pop, t, e, q⟩
      · cases e
    · rename_i ds
      split at e
      · rename_i hl
        obtain ⟨x, ex, k⟩ := S.top
        cases ex
        obtain ⟨a, xs, rfl, hs, t⟩ := den_lst k
        exact .inr ⟨a, xs, rfl, SqL.of (S.gh _ _ hs), t.len.trans hl, G, ρ, ds, ρ', S.pop, t, e, q⟩
      · cases e
    · rename_i ds
      split at e
      · rename_i hl
        obtain ⟨p, ex, gp, bp, np, o⟩ := S.top
        cases ex
        cases o with
        | @lst xs _ hs t => exact .inr ⟨p, xs, rfl, SqL.of hs, t.len.trans hl, G, ρ, ds, ρ', S.pop, t, e, q⟩
      · cases e
    · cases e
end
/-! ### comprehensions over lists of known shape -/
theorem lcL_of {α : Type} {g : Vl → DS → Option DS} {ft : DT} {fe : DE} {vs : List Nat} {ρ : DS} {inj : α → D} {out : α → Option D} : ∀ (xs : List α) (acc : List D),
    (∀ x ∈ xs, ∃ ρ1 ρ2, g (.fz (inj x)) ρ = some ρ1 ∧ ((ft ρ1 = .ok true ρ2 ∧ ∃ r ρ3, fe ρ2 = .ok r ρ3 ∧ out x = some r.z ∧ wipeD ρ3 vs = ρ) ∨ (ft ρ1 = .ok false ρ2 ∧ out x = none ∧ wipeD ρ2 vs = ρ))) →
    acc.length + xs.length ≤ sizeLine → dLcL g ft fe vs (xs.map inj) acc ρ = .ok (.ow (.lst (acc ++ xs.filterMap out))) ρ
  | [], acc, _, _ => by
    rw [List.filterMap_nil, List.append_nil]
    rfl
  | x :: xs, acc, h, hl => by
    rw [List.length_cons] at hl
    obtain ⟨ρ1, ρ2, e1, e2⟩ := h x (List.mem_cons_self ..)
    have ih := fun acc hl => lcL_of (out := out) xs acc (fun y hy => h y (List.mem_cons_of_mem _ hy)) hl
    rw [List.map_cons]
    unfold dLcL
    rw [e1]
    dsimp only
    rcases e2 with ⟨e2, r, ρ3, e3, e4, e5⟩ | ⟨e2, e4, e5⟩
    · rw [e2]
      dsimp only
      rw [e3]
      dsimp only
      rw [if_pos (by omega), e5, ih _ (by rw [List.length_append, List.length_singleton]; omega), List.filterMap_cons, e4, List.append_assoc]
      rfl
    · rw [e2]
      dsimp only
      rw [e5, ih _ (by omega), List.filterMap_cons, e4]
/-- .. all of them taken -/
theorem lcL_map {α : Type} {g : Vl → DS → Option DS} {fe : DE} {vs : List Nat} {ρ : DS} {inj out : α → D} (xs : List α) (h : ∀ x ∈ xs, ∃ ρ1 r ρ3, g (.fz (inj x)) ρ = some ρ1 ∧ fe ρ1 = .ok r ρ3 ∧ r.z = out x ∧ wipeD ρ3 vs = ρ) (hl : xs.length ≤ sizeLine) :
    dLcL g dYes fe vs (xs.map inj) [] ρ = .ok (.ow (.lst (xs.map out))) ρ := by
  have z := lcL_of (ft := dYes) (out := fun x => some (out x)) xs [] (fun x hx => by
    obtain ⟨ρ1, r, ρ3, e1, e2, e3, e4⟩ := h x hx
    exact ⟨ρ1, ρ1, e1, .inl ⟨rfl, r, ρ3, e2, congrArg some e3.symm, e4⟩⟩) (by rw [List.length_nil]; omega)
  rw [z, List.nil_append]
  congr 3
  induction xs with
  | nil => rfl
  | cons x xs ih =>
    rw [List.filterMap_cons, List.map_cons]
    exact congrArg _ (ih (fun y hy => h y (List.mem_cons_of_mem _ hy)) (by rw [List.length_cons] at hl; omega) (lcL_of (ft := dYes) (out := fun x => some (out x)) xs [] (fun x hx => by
      obtain ⟨ρ1, r, ρ3, e1, e2, e3, e4⟩ := h x (List.mem_cons_of_mem _ hx)
      exact ⟨ρ1, ρ1, e1, .inl ⟨rfl, r, ρ3, e2, congrArg some e3.symm, e4⟩⟩) (by rw [List.length_nil]; rw [List.length_cons] at hl; omega)))
/-! ### == -/
theorem eqSD_self {d : D} {c : Bool} (h : eqSD d d = some c) : c = true := by
  cases d <;> simp [eqSD] at h <;> first | exact h | exact h.symm
theorem eq_self {d : D} (h : shp d = true) : fEqB d d = some true := by
  unfold fEqB
  split
  · rename_i c hc
    rw [eqSD_self hc]
  · rw [if_pos ⟨h, h⟩]
    exact congrArg some (PySem.SeqAt.eqv_refl _ (PySem.SeqAt.canLay_of_shaped h))
theorem feq_self {d : D} (h : shp d = true) : fEq d d = some (.fz (.bl true)) := by
  unfold fEq
  rw [eq_self h]
  rfl
theorem fne_self {d : D} (h : shp d = true) : fNe d d = some (.fz (.bl false)) := by
  unfold fNe
  rw [eq_self h]
  rfl
/-- plain things: texts of code points that a text may have -/
def flatK : D → Bool
  | .non => true
  | .bl _ => true
  | .int _ => true
  | .str w => PyData.strOk (toS w)
  | _ => false
def flatT : D → Bool
  | .non => true
  | .bl _ => true
  | .int _ => true
  | .str w => PyData.strOk (toS w)
  | .tup ds => ds.all flatK
  | _ => false
theorem py_flat {d : D} (h : flatK d = true) : d.py.canLay0 = true ∧ d.py.depth ≤ 1 := by
  cases d with
  | non => exact ⟨by simp [D.py, PyData.canLay0], by simp [D.py, PyData.depth]⟩
  | bl b => exact ⟨by simp [D.py, PyData.canLay0], by simp [D.py, PyData.depth]⟩
  | int b => exact ⟨by simp [D.py, PyData.canLay0], by simp [D.py, PyData.depth]⟩
  | str b => exact ⟨by simp [D.py, PyData.canLay0]; exact h, by simp [D.py, PyData.depth]⟩
  | _ => cases h
theorem pyA_flat : ∀ {ds : List D}, ds.all flatK = true → PyData.canLayAll0 (D.pyA ds) = true ∧ PyData.depthAll (D.pyA ds) ≤ 1
  | [], _ => ⟨by simp [D.pyA, PyData.canLayAll0], by simp [D.pyA, PyData.depthAll]⟩
  | d :: ds, h => by
    rw [List.all_cons, Bool.and_eq_true] at h
    obtain ⟨h1, h2⟩ := py_flat h.1
    obtain ⟨h3, h4⟩ := pyA_flat h.2
    refine ⟨by simp [D.pyA, PyData.canLayAll0, h1, h3], ?_⟩
    simp only [D.pyA, PyData.depthAll]
    omega
theorem py_flatT {d : D} (h : flatT d = true) : d.py.canLay0 = true ∧ d.py.depth ≤ 2 := by
  cases d with
  | tup ds =>
    obtain ⟨h3, h4⟩ := pyA_flat (ds := ds) h
    exact ⟨by simp [D.py, PyData.canLay0, h3], by simp only [D.py, PyData.depth]; omega⟩
  | lst ds => cases h
  | dct ds => cases h
  | scr ds => cases h
  | exc c ds => cases h
  | non => exact ⟨(py_flat (d := .non) rfl).1, by simp [D.py, PyData.depth]⟩
  | bl b => exact ⟨(py_flat (d := .bl b) rfl).1, by simp [D.py, PyData.depth]⟩
  | int b => exact ⟨(py_flat (d := .int b) rfl).1, by simp [D.py, PyData.depth]⟩
  | str b => exact ⟨(py_flat (d := .str b) h).1, by simp [D.py, PyData.depth]⟩
theorem pyA_flatT : ∀ {ds : List D}, ds.all flatT = true → PyData.canLayAll0 (D.pyA ds) = true ∧ PyData.depthAll (D.pyA ds) ≤ 2
  | [], _ => ⟨by simp [D.pyA, PyData.canLayAll0], by simp [D.pyA, PyData.depthAll]⟩
  | d :: ds, h => by
    rw [List.all_cons, Bool.and_eq_true] at h
    obtain ⟨h1, h2⟩ := py_flatT h.1
    obtain ⟨h3, h4⟩ := pyA_flatT h.2
    refine ⟨by simp [D.pyA, PyData.canLayAll0, h1, h3], ?_⟩
    simp only [D.pyA, PyData.depthAll]
    omega
theorem shp_rows {ds : List D} (h : ds.all flatT = true) : shp (.lst ds) = true := by
  obtain ⟨h3, h4⟩ := pyA_flatT h
  unfold shp PySem.SeqAt.shaped
  rw [Bool.and_eq_true]
  refine ⟨by simp [D.py, PyData.canLay0, h3], decide_eq_true ?_⟩
  simp only [D.py, PyData.depth]
  omega
end DL

set_option Elab.async false
set_option linter.all false
set_option autoImplicit false
set_option maxRecDepth 100000
set_option maxHeartbeats 4000000
/-! the mirror layer: each piece, applied -/
namespace DL
open PySem PySem.Spec PyProof.Rows L2 LK
section
variable {ρ ρ1 : DS} {f g : DC} {c c2 : DT} {a b e : DE} {as bs : DA} {i j n N : Nat} {d : D} {ds es : List D} {r : Vl}
theorem a_mP : mP n N f ds = if ds.length = n then runD f (ent N ds) else .bad := rfl
theorem a_mL : mL n N f ds = if ds.length = n then (match runD f (ent N ds) with
  | .ok r => .ok r
  | _ => .bad) else .bad := rfl
theorem a_mB : mB n N f d ds = if ds.length + 1 = n then runB' f (entB N d ds) else .bad := rfl
theorem a_run : runD f ρ = match f ρ with
  | .ok (.rt r) _ => .ok r
  | .ok .nx _ => .ok (.fz .non)
  | .err c fs _ => .err c fs
  | _ => .bad := rfl
theorem a_runB : runB' f ρ = match f ρ with
  | .ok (.rt r) ρ' => (match gs ρ' 0 with
    | .bw c => .ok (r, c)
    | _ => .bad)
  | .ok .nx ρ' => (match gs ρ' 0 with
    | .bw c => .ok (.fz .non, c)
    | _ => .bad)
  | _ => .bad := rfl
theorem a_nx : dNx ρ = .ok .nx ρ := rfl
theorem a_seq : dSeq f g ρ = (f ρ).bind fun a ρ1 => match a with
  | .nx => g ρ1
  | a => .ok a ρ1 := rfl
theorem a_if : dIf c f g ρ = (c ρ).bind fun k ρ1 => if k = true then f ρ1 else g ρ1 := rfl
theorem a_ret : dRet e ρ = (e ρ).bind fun r ρ1 => .ok (.rt r) ρ1 := rfl
theorem a_retN : dRetN ρ = .ok (.rt (.fz .non)) ρ := rfl
theorem a_brk : dBrk ρ = .ok .bk ρ := rfl
theorem a_cnt : dCnt ρ = .ok .ct ρ := rfl
theorem a_drop : dDrop e ρ = (e ρ).bind fun _ ρ1 => .ok .nx ρ1 := rfl
theorem a_asg {g : Vl → DS → Option DS} : dAsg e g ρ = (e ρ).bind fun r ρ1 => match g r ρ1 with
  | some ρ2 => .ok .nx ρ2
  | none => .bad := rfl
theorem a_forS {g : Vl → DS → Option DS} : dForS as g f ρ = (as ρ).bind fun ds ρ1 => dFor g f ds ρ1 := rfl
theorem a_for0 {g : Vl → DS → Option DS} : dFor g f [] ρ = .ok .nx ρ := rfl
theorem a_for1 {g : Vl → DS → Option DS} : dFor g f (d :: ds) ρ = match g (.fz d) ρ with
    | none => .bad
    | some ρ1 => (f ρ1).bind fun a ρ2 => (match a with
      | .nx => dFor g f ds ρ2
      | .ct => dFor g f ds ρ2
      | .bk => .ok .nx ρ2
      | .rt r => .ok (.rt r) ρ2) := rfl
theorem a_whl : dWhile c f (n + 1) ρ = (c ρ).bind fun k ρ1 => if k = true then (f ρ1).bind fun a ρ2 => (match a with
      | .nx => dWhile c f n ρ2
      | .ct => dWhile c f n ρ2
      | .bk => .ok .nx ρ2
      | .rt r => .ok (.rt r) ρ2) else .ok .nx ρ1 := rfl
theorem a_var : dVar i ρ = match gs ρ i with
  | .fz d => .ok (.fz d) ρ
  | .ow d => .ok (.fz d) (ρ.set i (.fz d))
  | _ => .bad := rfl
theorem a_mov : dMov i ρ = match gs ρ i with
  | .fz d => .ok (.fz d) ρ
  | .ow d => .ok (.ow d) (ρ.set i .un)
  | _ => .bad := rfl
theorem a_C : dC d ρ = .ok (.fz d) ρ := rfl
theorem a_nil : dNil ρ = .ok [] ρ := rfl
theorem a_cons : dCons e as ρ = (e ρ).bind fun a ρ1 => (as ρ1).bind fun ds ρ2 => .ok (a.z :: ds) ρ2 := rfl
theorem a_op1 {f : D → Option Vl} : dOp1 f e ρ = (e ρ).bind fun a ρ1 => RS.of (f a.z) ρ1 := rfl
theorem a_op2 {f : D → D → Option Vl} : dOp2 f a b ρ = (a ρ).bind fun a ρ1 => (b ρ1).bind fun c ρ2 => RS.of (f a.z c.z) ρ2 := rfl
theorem a_opN {f : List D → Option Vl} : dOpN f as ρ = (as ρ).bind fun a ρ1 => RS.of (f a) ρ1 := rfl
theorem a_te : dTe e ρ = (e ρ).bind fun a ρ1 => RS.of (dTru a.z) ρ1 := rfl
theorem a_tb : dTb e ρ = (e ρ).bind fun a ρ1 => RS.of (dBl a.z) ρ1 := rfl
theorem a_not : dNot c ρ = (c ρ).bind fun k ρ1 => .ok (!k) ρ1 := rfl
theorem a_and : dAnd c c2 ρ = (c ρ).bind fun k ρ1 => if k = true then c2 ρ1 else .ok false ρ1 := rfl
theorem a_or : dOr c c2 ρ = (c ρ).bind fun k ρ1 => if k = true then .ok true ρ1 else c2 ρ1 := rfl
theorem a_yes : dYes ρ = .ok true ρ := rfl
theorem a_andE : dAndE a b ρ = (a ρ).bind fun a ρ1 => match dTru a.z with
  | some true => b ρ1
  | some false => .ok (.fz a.z) ρ1
  | none => .bad := rfl
theorem a_orE : dOrE a b ρ = (a ρ).bind fun a ρ1 => match dTru a.z with
  | some false => b ρ1
  | some true => .ok (.fz a.z) ρ1
  | none => .bad := rfl
theorem a_notE : dNotE a ρ = (a ρ).bind fun a ρ1 => RS.of ((dTru a.z).map fun c => .fz (.bl (!c))) ρ1 := rfl
theorem a_ifE : dIfE c a b ρ = (c ρ).bind fun k ρ1 => if k = true then a ρ1 else b ρ1 := rfl
theorem a_call {m : List D → Res Vl} : dCall m as ρ = (as ρ).bind fun ds ρ1 => RS.res (m ds) ρ1 := rfl
theorem a_callK {m : List D → Res Vl} {h : List D → List D → List D} : dCallK m h as bs ρ = (as ρ).bind fun ds ρ1 => (bs ρ1).bind fun zs ρ2 => RS.res (m (h ds zs)) ρ2 := rfl
theorem a_callB {m : D → List D → Res (Vl × D)} : dCallB m i as ρ = match ownL (gs ρ i) with
  | none => .bad
  | some _ => (as ρ).bind fun ds ρ1 => match ownL (gs ρ1 i) with
    | none => .bad
    | some (cs, mk) => match m (.lst cs) ds with
      | .ok (r, .lst cs') => .ok r (ρ1.set i (mk cs'))
      | _ => .bad := rfl
theorem a_app : dApp i e ρ = match ownL (gs ρ i) with
  | none => .bad
  | some _ => (e ρ).bind fun a ρ1 => match ownL (gs ρ1 i) with
    | none => .bad
    | some (ds, mk) => if ds.length < sizeLine then .ok (.fz .non) (ρ1.set i (mk (ds ++ [a.z]))) else .bad := rfl
theorem a_sto : dSto i a e ρ = (e ρ).bind fun v ρ1 => match ownL (gs ρ1 i) with
  | none => .bad
  | some _ => (a ρ1).bind fun k ρ2 => match ownL (gs ρ2 i), k.z with
    | some (ds, mk), .int j => (match ixN ds.length j with
      | some n => .ok .nx (ρ2.set i (mk (ds.set n v.z)))
      | none => .bad)
    | _, _ => .bad := rfl
theorem a_sl {l h : DO} : dSl a l h ρ = (a ρ).bind fun a ρ1 => (l ρ1).bind fun l ρ2 => (h ρ2).bind fun h ρ3 => RS.of (fSl a.z l h) ρ3 := rfl
theorem a_on : dOn ρ = .ok none ρ := rfl
theorem a_os : dOs e ρ = (e ρ).bind fun a ρ1 => RS.of ((dInt a.z).map some) ρ1 := rfl
theorem a_itV : dItV e ρ = (e ρ).bind fun a ρ1 => RS.of (dItems a.z) ρ1 := rfl
theorem a_itN {h : List D → Option (List D)} : dItN h as ρ = (as ρ).bind fun a ρ1 => RS.of (h a) ρ1 := rfl
theorem a_lc {g : Vl → DS → Option DS} {vs : List Nat} : dLc as g c e vs ρ = (as ρ).bind fun ds ρ1 => dLcL g c e vs ds [] (wipeD ρ1 vs) := rfl
theorem a_m1 {f : List Nat → D → Option Vl} : dM1 f a b ρ = (a ρ).bind fun x ρ1 => match x.z with
  | .str s => (b ρ1).bind fun c ρ2 => RS.of (f s c.z) ρ2
  | _ => .bad := rfl
theorem a_raP {k : Str} {ns : List Str} : dRaP k ns as ρ = (as ρ).bind fun ds ρ1 => if ds.length = ns.length then .err k (ns.reverse.zip ds.reverse) ρ1 else .bad := rfl
theorem a_raN {k : Str} : dRaN k as ρ = (as ρ).bind fun ds ρ1 => if ds.length ≤ 1000 then .err k [] ρ1 else .bad := rfl
theorem a_chain {h h' : D → D → Option Vl} : dChain h h' a b e ρ = (a ρ).bind fun a ρ1 => (b ρ1).bind fun c ρ2 => match h a.z c.z with
  | some (.fz (.bl true)) => (e ρ2).bind fun d ρ3 => RS.of (h' c.z d.z) ρ3
  | some (.fz (.bl false)) => .ok (.fz (.bl false)) ρ2
  | _ => .bad := rfl
theorem a_try {cs : List Str} : dTry i cs f g ρ = match f ρ with
  | .err c fs ρ1 => if c ∈ cs then (match g (ρ1.set i (.fz (.exc c fs))) with
      | .ok .nx ρ2 => .ok .nx (ρ2.set i .un)
      | .ok (.rt r) ρ2 => .ok (.rt r) ρ2
      | .ok .bk ρ2 => .ok .bk (ρ2.set i .un)
      | .ok .ct ρ2 => .ok .ct (ρ2.set i .un)
      | .err _ _ _ => .bad
      | .bad => .bad) else .bad
  | r => r := rfl
theorem a_gN : gN i r ρ = some (ρ.set i r.s) := rfl
theorem a_gE : gE [] ρ = some ρ := rfl
theorem a_gP {g : Vl → DS → Option DS} {h : List D → DS → Option DS} : gP g h (d :: ds) ρ = (g (.fz d) ρ).bind (h ds) := rfl
theorem a_gW1 {h : List D → DS → Option DS} : gW n h (.fz (.tup ds)) ρ = if ds.length = n then h ds ρ else none := rfl
theorem a_gW2 {h : List D → DS → Option DS} : gW n h (.fz (.lst ds)) ρ = if ds.length = n then h ds ρ else none := rfl
theorem a_gW3 {h : List D → DS → Option DS} : gW n h (.ow (.lst ds)) ρ = if ds.length = n then h ds ρ else none := rfl
theorem z_fz : (Vl.fz d).z = d := rfl
theorem z_ow : (Vl.ow d).z = d := rfl
theorem s_fz : (Vl.fz d).s = .fz d := rfl
theorem s_ow : (Vl.ow d).s = .ow d := rfl
theorem o_ow : ownL (.ow (.lst ds)) = some (ds, fun es => .ow (.lst es)) := rfl
theorem o_bw : ownL (.bw (.lst ds)) = some (ds, fun es => .bw (.lst es)) := rfl
theorem w_nil : wipeD ρ [] = ρ := rfl
theorem w_cons {vs : List Nat} : wipeD ρ (i :: vs) = (wipeD ρ vs).set i .un := rfl
theorem i_lst : dItems (.lst ds) = some ds := rfl
theorem i_tup : dItems (.tup ds) = some ds := rfl
theorem i_str {w : List Nat} : dItems (.str w) = some (w.map fun c => .str [c]) := rfl
theorem b_bl {k : Bool} : dBl (.bl k) = some k := rfl
theorem t_bl {k : Bool} : dTru (.bl k) = some k := rfl
theorem t_non : dTru .non = some false := rfl
theorem n_int {k : Int} : dInt (.int k) = some k := rfl
section
variable {x y : Int} {v w : List Nat}
theorem f_addI : fAdd (.int x) (.int y) = some (.fz (.int (x + y))) := rfl
theorem f_addS : fAdd (.str v) (.str w) = if v.length + w.length ≤ sizeLine then some (.fz (.str (v ++ w))) else none := rfl
theorem f_addL : fAdd (.lst ds) (.lst es) = if ds.length + es.length ≤ sizeLine then some (.ow (.lst (ds ++ es))) else none := rfl
theorem f_I {k : Int → Int → Option Int} : fI k (.int x) (.int y) = (k x y).map fun r => .fz (.int r) := rfl
theorem f_mulI : fMulS (.int x) (.int y) = (iMul x y).map fun r => .fz (.int r) := rfl
theorem f_sub : iSub x y = some (x - y) := rfl
theorem f_eqI : fEq (.int x) (.int y) = some (.fz (.bl (decide (x = y)))) := rfl
theorem f_neI : fNe (.int x) (.int y) = some (.fz (.bl (!decide (x = y)))) := rfl
theorem f_eqS : fEq (.str v) (.str w) = some (.fz (.bl (decide (v = w)))) := rfl
theorem f_neS : fNe (.str v) (.str w) = some (.fz (.bl (!decide (v = w)))) := rfl
theorem f_ltI : fLt (.int x) (.int y) = some (.fz (.bl (decide (x < y)))) := rfl
theorem f_leI : fLe (.int x) (.int y) = some (.fz (.bl (decide (x ≤ y)))) := rfl
theorem f_gtI : fGt (.int x) (.int y) = some (.fz (.bl (decide (y < x)))) := rfl
theorem f_geI : fGe (.int x) (.int y) = some (.fz (.bl (decide (y ≤ x)))) := rfl
theorem f_lenL : fLen [.lst ds] = some (.fz (.int (ds.length : Nat))) := rfl
theorem f_lenT : fLen [.tup ds] = some (.fz (.int (ds.length : Nat))) := rfl
theorem f_lenC {ns : List Int} : fLen [.scr ns] = some (.fz (.int (ns.length : Nat))) := rfl
theorem f_lenS : fLen [.str w] = if w.length ≤ sizeLine then some (.fz (.int (w.length : Nat))) else none := rfl
theorem f_lst : fLst ds = if ds.length ≤ sizeLine then some (.ow (.lst ds)) else none := rfl
theorem f_tup : fTup ds = if ds.length ≤ sizeLine then some (.fz (.tup ds)) else none := rfl
theorem f_ixL : fIx (.lst ds) (.int x) = (atI ds x).map Vl.fz := rfl
theorem f_ixT : fIx (.tup ds) (.int x) = (atI ds x).map Vl.fz := rfl
theorem f_ixS : fIx (.str w) (.int x) = if w.length ≤ sizeLine then (atI w x).map fun c => .fz (.str [c]) else none := rfl
theorem f_zLT : dZj [.lst ds, .tup es] = some ((ds.zip es).map fun p => .tup [p.1, p.2]) := rfl
theorem f_zTT : dZj [.tup ds, .tup es] = some ((ds.zip es).map fun p => .tup [p.1, p.2]) := rfl
theorem f_zLL : dZj [.lst ds, .lst es] = some ((ds.zip es).map fun p => .tup [p.1, p.2]) := rfl
theorem f_all : fAll [.lst ds] = (blsD ds).map fun bs => .fz (.bl (bs.all id)) := rfl
theorem f_any : fAny [.lst ds] = (blsD ds).map fun bs => .fz (.bl (bs.any id)) := rfl
theorem f_tuL : fTupl [.lst ds] = some (.fz (.tup ds)) := rfl
end
end
theorem bls_map {α : Type} (f : α → Bool) (xs : List α) : blsD (xs.map fun x => .bl (f x)) = some (xs.map f) := by
  induction xs with
  | nil => rfl
  | cons x xs ih =>
    show (blsD (xs.map fun x => .bl (f x))).map (f x :: ·) = _
    rw [ih]
    rfl
theorem strs_map {α : Type} (f : α → List Nat) (xs : List α) : strsD (xs.map fun x => .str (f x)) = some (xs.map f) := by
  induction xs with
  | nil => rfl
  | cons x xs ih =>
    show (strsD (xs.map fun x => .str (f x))).map (f x :: ·) = _
    rw [ih]
    rfl

theorem gs_11 (a b c d e f g h i j k s : Sl) (ρ : DS) : gs (a :: b :: c :: d :: e :: f :: g :: h :: i :: j :: k :: s :: ρ) 11 = s := rfl
theorem gs_12 (a b c d e f g h i j k l s : Sl) (ρ : DS) : gs (a :: b :: c :: d :: e :: f :: g :: h :: i :: j :: k :: l :: s :: ρ) 12 = s := rfl
end DL

set_option Elab.async false
set_option linter.all false
set_option autoImplicit false
set_option maxRecDepth 100000
set_option maxHeartbeats 4000000
/-! the mirror layer: cuts, places, joins, reckoned -/
namespace DL
open PySem PySem.Spec PyProof.Rows L2 LK
theorem cut_to {α : Type} (w : List α) (n : Nat) : cutG w none (some (n : Int)) = w.take n := by
  unfold cutG
  rw [HT.sIx_nat, HT.sIx_none, List.drop_zero, Nat.sub_zero]
  rw [Nat.min_def]
  split
  · rfl
  · rw [List.take_of_length_le (Nat.le_refl _), List.take_of_length_le (by omega)]
theorem cut_from {α : Type} (w : List α) (n : Nat) : cutG w (some (n : Int)) none = w.drop n := by
  unfold cutG
  rw [HT.sIx_nat, HT.sIx_none, List.take_of_length_le (by rw [List.length_drop]; omega)]
  rw [Nat.min_def]
  split
  · rfl
  · rw [List.drop_of_length_le (Nat.le_refl _), List.drop_of_length_le (by omega)]
theorem f_slTo {w : List Nat} {n : Nat} (h : w.length ≤ sizeLine) : fSl (.str w) none (some (n : Int)) = some (.fz (.str (w.take n))) := by
  show (if w.length ≤ sizeLine then some (Vl.fz (.str (cutG w none (some (n : Int))))) else none) = _
  rw [if_pos h, cut_to]
theorem f_slFrom {w : List Nat} {n : Nat} (h : w.length ≤ sizeLine) : fSl (.str w) (some (n : Int)) none = some (.fz (.str (w.drop n))) := by
  show (if w.length ≤ sizeLine then some (Vl.fz (.str (cutG w (some (n : Int)) none))) else none) = _
  rw [if_pos h, cut_from]
theorem at_nat {α : Type} (xs : List α) (n : Nat) : atI xs (n : Int) = xs[n]? := by
  unfold atI ixN
  rw [if_pos (by omega)]
  split
  · rw [Option.bind_some, Int.toNat_natCast]
  · rename_i h
    rw [Option.bind_none, List.getElem?_eq_none (by omega)]
theorem at_0 {α : Type} (x : α) (xs : List α) : atI (x :: xs) 0 = some x := at_nat (x :: xs) 0
theorem at_1 {α : Type} (x y : α) (xs : List α) : atI (x :: y :: xs) 1 = some y := at_nat (x :: y :: xs) 1
theorem at_2 {α : Type} (x y z : α) (xs : List α) : atI (x :: y :: z :: xs) 2 = some z := at_nat (x :: y :: z :: xs) 2
theorem at_3 {α : Type} (x y z u : α) (xs : List α) : atI (x :: y :: z :: u :: xs) 3 = some u := at_nat (x :: y :: z :: u :: xs) 3
theorem f_in1 {c : Nat} {z : List Nat} : fIn (.str [c]) (.str z) = some (.fz (.bl (decide (c ∈ z)))) := rfl
theorem f_nin1 {c : Nat} {z : List Nat} : fNin (.str [c]) (.str z) = some (.fz (.bl (!decide (c ∈ z)))) := rfl
theorem f_join {s : List Nat} {ws : List (List Nat)} (h : (ws.map List.length).sum + ws.length * s.length ≤ 16777216) : fJoin s (.lst (ws.map .str)) = some (.fz (.str (glue s ws))) := by
  have e := strs_map id ws
  rw [List.map_id] at e
  show (strsD (ws.map .str)).bind _ = _
  rw [show strsD (ws.map .str) = some ws from e, Option.bind_some, if_pos h]
theorem f_split {s t : List Nat} (h : t ≠ []) (h2 : s.length + 2 ≤ sizeLine) : fSplit s (.str t) = some (.ow (.lst ((splitW s t).map .str))) := if_pos ⟨h, h2⟩
theorem lcl0 {g : Vl → DS → Option DS} {ft : DT} {fe : DE} {vs : List Nat} {acc : List D} {ρ : DS} : dLcL g ft fe vs [] acc ρ = .ok (.ow (.lst acc)) ρ := rfl
theorem lcl1 {g : Vl → DS → Option DS} {ft : DT} {fe : DE} {vs : List Nat} {acc ds : List D} {d : D} {ρ : DS} : dLcL g ft fe vs (d :: ds) acc ρ = match g (.fz d) ρ with
    | none => .bad
    | some ρ1 => match ft ρ1 with
      | .ok true ρ2 => (match fe ρ2 with
        | .ok r ρ3 => if acc.length < sizeLine then dLcL g ft fe vs ds (acc ++ [r.z]) (wipeD ρ3 vs) else .bad
        | _ => .bad)
      | .ok false ρ2 => dLcL g ft fe vs ds acc (wipeD ρ2 vs)
      | _ => .bad := rfl
theorem all_id {α : Type} (f : α → Bool) (xs : List α) : (xs.map f).all id = xs.all f := by
  rw [List.all_map]
  rfl
end DL

set_option Elab.async false
set_option linter.all false
set_option autoImplicit false
set_option maxRecDepth 100000
set_option maxHeartbeats 4000000
/-! the mirror layer: looks at lists of one's own -/
namespace DL
open PySem PySem.Spec PyProof.Rows L2 LK
def dPk (i : Nat) (fi : DE) : DE := fun ρ => match gs ρ i with
  | .fz d => (fi ρ).bind fun k ρ1 => RS.of (fIx d k.z) ρ1
  | s => match ownL s with
    | some _ => (fi ρ).bind fun k ρ1 => match ownL (gs ρ1 i), k.z with
      | some (ds, _), .int j => RS.of ((atI ds j).map Vl.fz) ρ1
      | _, _ => .bad
    | none => .bad
def dLenO (i : Nat) : DE := fun ρ => match gs ρ i with
  | .fz d => RS.of (fLen [d]) ρ
  | s => match ownL s with
    | some (ds, _) => .ok (.fz (.int (ds.length : Nat))) ρ
    | none => .bad
section
variable {X : Cx} {b : Bs} {E : XW} {e e2 : Expr} {fi : DE} {pos p : Pos} {i : Nat}
theorem rdPkO {σ : L2.St} {H : Hp} {Q : VK} {G : Hp} {ρ : DS} {q : List D × (List D → Sl)} (S : Sr b G H σ ρ) (eo : ownL (gs ρ i) = some q) (w : Wp b E σ G ((fi ρ).bind fun k ρ1 => match ownL (gs ρ1 i), k.z with
      | some (ds, _), .int j => RS.of ((atI ds j).map Vl.fz) ρ1
      | _, _ => .bad) fun r ρ' => ∀ x G' H', Sr b G' H' (some x :: σ) (r.s :: ρ') → Same G G' → Q x H') : tOp (rIx b.K) (tVar i) (tD b E fi) σ H Q := by
  obtain ⟨a, vs, hx, hp, _, _, _⟩ := S.own (mk := q.2) (ds := q.1) eo
  refine ⟨.ref a, hx, G, ρ, S, w.bind.mono (L2.Same.refl G) fun k ρ1 w1 y G1 H1 S1 s1 k1 => ?_⟩
  cases eo1 : ownL (gs ρ1 i) with
  | none => rw [eo1] at w1; exact w1.elim
  | some q1 =>
    obtain ⟨ds, mk⟩ := q1
    rw [eo1] at w1
    cases ek : k.z with
    | int j =>
      rw [ek] at w1 k1
      obtain ⟨a', vs', hx', hp', kc, gp, next⟩ := S1.own eo1
      rw [hx] at hx'
      cases hx'
      obtain ⟨z, ez, q⟩ := Wp.of w1
      obtain ⟨d, hd, rfl⟩ := Option.map_eq_some_iff.mp ez
      obtain ⟨v, h1, h2⟩ := kc.at hd
      cases den_int k1
      exact .inl ⟨a, vs', j, v, rfl, rfl, SqL.of hp', h1, q _ G1 H1 (S1.push h2) s1⟩
    | _ => rw [ek] at w1; exact w1.elim
theorem rdPk : ∀ σ H Q, tW b E (dPk i fi) σ H Q → tOp (rIx b.K) (tVar i) (tD b E fi) σ H Q := fun σ H Q ⟨G, ρ, S, w⟩ => by
  unfold dPk at w
  cases eg : gs ρ i with
  | fz d =>
    rw [eg] at w
    obtain ⟨v, hx, kd⟩ := S.fz eg
    have w : Wp b E σ G ((fi ρ).bind fun k ρ1 => RS.of (fIx d k.z) ρ1) _ := w
    exact ⟨v, hx, G, ρ, S, w.bind.mono (L2.Same.refl G) fun k ρ1 w1 y G1 H1 S1 s1 k1 => by
      obtain ⟨z, ez, q⟩ := w1.of
      exact ix_ok G1 H1 v y d _ z Q S1.gh (kd.same s1) k1 ez (Cn.of S1 fun v G3 H3 S3 s3 => q v G3 H3 S3 (L2.Same.trans s1 s3))⟩
  | un => rw [eg] at w; exact w.elim
  | ow d =>
    rw [eg] at w
    dsimp only at w
    cases eo : ownL (.ow d) with
    | none => rw [eo] at w; exact w.elim
    | some q => rw [eo] at w; exact rdPkO S (by rw [eg]; exact eo) w
  | bw d =>
    rw [eg] at w
    dsimp only at w
    cases eo : ownL (.bw d) with
    | none => rw [eo] at w; exact w.elim
    | some q => rw [eo] at w; exact rdPkO S (by rw [eg]; exact eo) w
theorem d_pk (h : PE X e (tVar i)) (hb : PE X e2 (tW b E fi)) (hs : PlainIx e2) (hK : X.K = b.K := by rfl) : PE X (.Subscript e e2 pos) (tW b E (dPk i fi)) :=
  PE.imp (pe_ix (ixM (K := b.K) hK) h (pe_z hb) hs) rdPk
theorem rdLenO : ∀ σ H Q, tW b E (dLenO i) σ H Q → (tCons (tVar i) tNil) σ H fun xs H1 => LK.rLen b.K xs H1 Q := fun σ H Q ⟨G, ρ, S, w⟩ => by
  unfold dLenO at w
  have go : ∀ {q : List D × (List D → Sl)}, ownL (gs ρ i) = some q → (∀ x G' H', Sr b G' H' (some x :: σ) ((Vl.fz (.int (q.1.length : Nat))).s :: ρ) → Same G G' → Q x H') → (tCons (tVar i) tNil) σ H fun xs H1 => LK.rLen b.K xs H1 Q := fun {q} eo w => by
    obtain ⟨a, vs, hx, hp, kc, _, _⟩ := S.own (mk := q.2) (ds := q.1) eo
    exact ⟨.ref a, hx, _, _, rfl, .inl ⟨vs, SqL.of hp, kc.len.symm⟩, w _ G H (S.push (.int _)) (L2.Same.refl G)⟩
  cases eg : gs ρ i with
  | fz d =>
    rw [eg] at w
    obtain ⟨v, hx, kd⟩ := S.fz eg
    obtain ⟨z, ez, q⟩ := Wp.of (show Wp b E σ G (RS.of (fLen [d]) ρ) _ from w)
    exact ⟨v, hx, len_ok G H [v] [d] z Q S.gh (.cons kd .nil) ez (Cn.of S fun v G3 H3 S3 s3 => q v G3 H3 S3 s3)⟩
  | un => rw [eg] at w; exact w.elim
  | ow d =>
    rw [eg] at w
    dsimp only at w
    cases eo : ownL (.ow d) with
    | none => rw [eo] at w; exact w.elim
    | some q => rw [eo] at w; exact go (by rw [eg]; exact eo) w
  | bw d =>
    rw [eg] at w
    dsimp only at w
    cases eo : ownL (.bw d) with
    | none => rw [eo] at w; exact w.elim
    | some q => rw [eo] at w; exact go (by rw [eg]; exact eo) w
theorem d_lenO (h : PE X e (tVar i)) (hg : Gl X "len") (hm : X.mg "len" = none) (hK : X.K = b.K := by rfl) (hs : starEach [e] X.env = (false, eval e X.env) :: starEach [] X.env := by rfl) (hpl : (backTo pos (starEach [] X.env)).any (·.1) = false := by rfl) :
    PE X (.Call (.Name "len" p) [e] [] pos) (tW b E (dLenO i)) :=
  PE.imp (pe_callB (cLen (K := b.K) hK) hg hm (by decide +kernel) (pa_cons h pa_nil hs) (by decide) (by decide) hs hpl) rdLenO
theorem a_pkF {ρ : DS} {d : D} (h : gs ρ i = .fz d) : dPk i fi ρ = (fi ρ).bind fun k ρ1 => RS.of (fIx d k.z) ρ1 := by
  unfold dPk
  rw [h]
theorem a_pk {ρ : DS} : dPk i fi ρ = match gs ρ i with
  | .fz d => (fi ρ).bind fun k ρ1 => RS.of (fIx d k.z) ρ1
  | s => match ownL s with
    | some _ => (fi ρ).bind fun k ρ1 => match ownL (gs ρ1 i), k.z with
      | some (ds, _), .int j => RS.of ((atI ds j).map Vl.fz) ρ1
      | _, _ => .bad
    | none => .bad := rfl
theorem a_lenO {ρ : DS} : dLenO i ρ = match gs ρ i with
  | .fz d => RS.of (fLen [d]) ρ
  | s => match ownL s with
    | some (ds, _) => .ok (.fz (.int (ds.length : Nat))) ρ
    | none => .bad := rfl
end
end DL

set_option Elab.async false
set_option linter.all false
set_option autoImplicit false
set_option maxRecDepth 100000
set_option maxHeartbeats 4000000
/-! defs that show data by repr: their promise holds where no repr is under way -/
namespace DL
open PySem PySem.Spec PyProof.Rows L2 LK
/-- as FnOk, where no repr is under way -/
structure FnOkG (P : Program) (w : World) (K : PySem.W.Frag) (mg : Str → Option Value) (base : Heap) (CX : CXT) (k : Nat) (f : Addr) (fd : FuncData) (ps : List Str) (sp : Sp) : Prop where
  len : ∀ vs H Q E, sp vs H Q E → vs.length = ps.length
  run : ∀ (A : Around) (outer : List Env) (s : Shared) (H : Hp) (args : Args) (us : List Value) (vs : List V) (Q : VK) (E : XK), A.guards = some [] → Room k A → Env0 P w K mg base A outer s H → BindsTo s fd args (ps.zip us) → Vals vs us → sp vs H Q E →
    codeAny (model P w) A (.call (.ref f) args) (CR CX outer P w H s Q E) s
theorem fnOk_G {P : Program} {w : World} {K : PySem.W.Frag} {mg : Str → Option Value} {base : Heap} {CX : CXT} {k : Nat} {f : Addr} {fd : FuncData} {ps : List Str} {sp : Sp} (F : FnOk P w K mg base CX k f fd ps sp) : FnOkG P w K mg base CX k f fd ps sp :=
  ⟨F.len, fun A outer s H args us vs Q E _ hr e0 hb r h => F.run A outer s H args us vs Q E hr e0 hb r h⟩
theorem deeper_guards {A : Around} {env : Env} (h : A.guards = some []) : (A.deeper env).guards = some [] := h
section
variable {CX : CXT} {P : Program} {w : World} {K : PySem.W.Frag} {mg : Str → Option Value} {base : Heap} {k : Nat} {f : Addr} {name qual x : Str} {params : Arguments} {body : List Stmt} {scope : Scope} {dvs : List V} {kws : List (Str × V)} {fd : FuncData} {N ps : List Str} {sp : Sp}
/-- what a body's end says of the call -/
theorem end_of {A : Around} {outer : List Env} {s s' : Shared} {H : Hp} {Q : VK} {E : XK} {cdv : Value} {fl : Flow}
    (h : (match fl with
      | .ret u => ∃ v σ' H', Inv (cxOf CX P w K mg base N qual scope f cdv A outer s H E) [] σ' H' s' ∧ RelV v u ∧ Q v H'
      | .next => ∃ σ' H', Inv (cxOf CX P w K mg base N qual scope f cdv A outer s H E) [] σ' H' s' ∧ Q .non H'
      | _ => False)) : CR CX outer P w H s Q E (.ok (.ret (match fl with
      | .ret u => u
      | _ => .none))) s' := by
  cases fl with
  | ret u =>
    obtain ⟨v, σ', H', J, rv, q⟩ := h
    exact ⟨v, H', J.os, J.bare, J.base, J.hok, rv, q⟩
  | next =>
    obtain ⟨σ', H', J, q⟩ := h
    exact ⟨.non, H', J.os, J.bare, J.base, J.hok, rfl, q⟩
  | brk => exact h.elim
  | cont => exact h.elim
theorem fnG_ok (F : FunD K x qual params body scope dvs kws f fd) (S : FnScope N ps scope) (len : ∀ vs H Q E, sp vs H Q E → vs.length = ps.length)
    (hbody : ∀ (cdv : Value) (A : Around) (outer : List Env) (s : Shared) (H : Hp) (vs : List V) (Q : VK) (E : XK), (A.deeper (envOfC qual scope s.heap.objs.size f cdv)).guards = some [] → Room k (A.deeper (envOfC qual scope s.heap.objs.size f cdv)) → sp vs H Q E →
      ∃ t, PSs (cxOf CX P w K mg base N qual scope f cdv A outer s H E) body t ∧ t { nx := fun _ H' => Q .non H', rt := Q } (L2.start N vs) H) : FnOkG P w K mg base CX (k + 1) f fd ps sp := by
  obtain ⟨oc, od, dV, kV, doc, pm, an, cdv, ct, osl, rfl, lk, hcd, _, _⟩ := F.ex
  refine ⟨len, fun A outer s H args us vs Q E hgd hr e0 hb r hsp => ?_⟩
  have lv := len _ _ _ _ hsp
  have inK : K.In s.heap := e0.mod.kin.keeps fun b o e => (e0.bs b o e).1
  have noL : s.heap.NoLimit := e0.mod.nolimit.keeps fun b o e => (e0.bs b o e).1
  refine codeAny_call_function hr.depth (inK _ _ lk) rfl S.co S.gen rfl (PySem.W.codeRec_of inK hcd) (hb _ _ _ _ (wpAny_newFunctionEnv_cells S.kind (fun y hy => (S.par y.1 (List.of_mem_zip (show (y.1, y.2) ∈ ps.zip us from hy)).1).imp id fun q => ⟨q, PySem.W.cellsFrom_some _ _ _ (.inl q)⟩) fun env he s1 z => ?_))
  subst he
  refine ⟨noL.keeps z.toInCall.keep, codeAny_func ?_⟩
  obtain ⟨t, ht, hq⟩ := hbody cdv A outer s H vs Q E (deeper_guards hgd) (hr.deeper _) hsp
  refine wpAny_mono (ht.run [] s1 (L2.start N vs) H _ (inv_start S hr.hd e0 lv r z) hq) (fun fl s' hs => ?_) fun e s' hs => hs
  cases fl with
  | ret u => exact end_of (fl := .ret u) hs
  | next => exact end_of (fl := .next) hs
  | brk =>
    obtain ⟨_, _, _, q⟩ := hs
    exact q.elim
  | cont =>
    obtain ⟨_, _, _, q⟩ := hs
    exact q.elim
end
section
variable {X : Cx} {CX : CXT} {k : Nat} {f : Addr} {fd : FuncData} {ps ks : List Str} {sp : Sp} {dvs : List V} {ds : List Value} {E : L2.St → XK} {x : Str} {p pos : Pos} {e : Expr} {es : List Expr} {t tk : TA} {kws : List Keyword}
def gEnd (X : Cx) (pins : List (Addr × Obj)) (σ : L2.St) (Q : VK) (r : Result) (s' : Shared) : Prop := match r with
  | .ok (.ret u) => EP X pins σ Q u s'
  | .ok _ => False
  | .error e => X.xe e s'
theorem cr_ret {pins : List (Addr × Obj)} {σ : L2.St} {H : Hp} {s s' : Shared} {Q : VK} {E' : XK} {r : Result} (hx : ∀ e, CX X.stack H s E' e s' → X.xe e s') (I : Inv X pins σ H s) (h : CR CX X.stack X.prog X.w H s Q E' r s') : gEnd X pins σ Q r s' := by
  cases r with
  | error e => exact hx e h
  | ok fl =>
    cases fl with
    | ret u => exact I.after h
    | next => exact h
    | brk => exact h
    | cont => exact h
theorem run_G {pins : List (Addr × Obj)} {σ : L2.St} {H : Hp} {s : Shared} {Q : VK} {us : List Value} {vs : List V} {args : Args} {E' : XK} (F : FnOkG X.prog X.w X.K X.mg X.base CX k f fd ps sp) (hgd : X.A.guards = some []) (hr : Room k X.A) (hx : ∀ e s', CX X.stack H s E' e s' → X.xe e s')
    (I : Inv X pins σ H s) (hb : BindsTo s fd args (ps.zip us)) (r : Vals vs us) (h : sp vs H Q E') : codeAny (model X.prog X.w) X.A (.call (.ref f) args) (gEnd X pins σ Q) s :=
  codeAny_mono (F.run X.A X.stack s H args us vs Q E' hgd hr I.env0 hb r h) fun r s' hq => cr_ret (fun e => hx e s') I hq
theorem call_G {pins : List (Addr × Obj)} {σ : L2.St} {s : Shared} {Q : VK} {us : List Value} {kwv : List (Str × Value)} (h : codeAny (model X.prog X.w) X.A (.call (.ref f) ⟨us, kwv⟩) (gEnd X pins σ Q) s) : wpAny (model X.prog X.w) X.A (call (.ref f) us kwv) (EP X pins σ Q) X.xe s :=
  wpAny_call (codeAny_mono h fun r s' hq => by
    cases r with
    | error e => exact hq
    | ok fl =>
      cases fl with
      | ret u => exact hq
      | next => exact hq.elim
      | brk => exact hq.elim
      | cont => exact hq.elim)
theorem pe_gSD (F : FnOkG X.prog X.w X.K X.mg X.base CX k f fd ps sp) (hgd : X.A.guards = some []) (hr : Room k X.A) (hg : Gl X x) (hm : X.mg x = some (.ref f)) (hk : PySem.W.keepIn X.K (.ref f) = true) (hb : Binds X.K fd ps ds) (hd : Vals dvs ds) (hx : ∀ σ, PassesAt CX X σ (E σ))
    (ha : PA X (e :: es) t) (hdb : (x == ("__debug__" : Str)) = false := by decide) (he : starEach (e :: es) X.env = (false, eval e X.env) :: starEach es X.env := by rfl) (hpl : (backTo pos (starEach es X.env)).any (·.1) = false := by rfl) :
    PE X (.Call (.Name x p) (e :: es) [] pos) (tCallSD sp dvs E t) :=
  ⟨fun pins s σ H Q I h => wpAny_Call_Name_kw (ld_glob I hg hm (PySem.W.callWith_K (h₀ := X.base) I.ok.mod.kin hk (thn (ha.run pos pins s σ H _ I h) fun us s1 ⟨vs, H1, I1, r, q⟩ => ⟨I1.kIn, by
    have r2 : Vals (vs ++ dvs) (us ++ ds) := r.append hd
    exact call_G (us := us) (run_G F hgd hr (fun e s' z => hx σ pins H1 s1 e s' I1 z) I1 (hb s1 us I1.kIn (r2.length.symm.trans (F.len _ _ _ _ q))) r2 q)⟩) he hpl) hdb)⟩
theorem pe_g0 {E' : XK} (F : FnOkG X.prog X.w X.K X.mg X.base CX k f fd ps sp) (hgd : X.A.guards = some []) (hr : Room k X.A) (hg : Gl X x) (hm : X.mg x = some (.ref f)) (hk : PySem.W.keepIn X.K (.ref f) = true) (hb : Binds X.K fd ps ds) (hd : Vals dvs ds) (hx : Passes CX X E')
    (hdb : (x == ("__debug__" : Str)) = false := by decide) : PE X (.Call (.Name x p) [] [] pos) (tCall sp dvs E' tNil) :=
  ⟨fun pins s σ H Q I h => wpAny_Call_Name_kw (ld_glob I hg hm (PySem.W.callWith_K0 I.kIn hk (by
    have h : sp ([] ++ dvs) H Q E' := h
    have r2 : Vals ([] ++ dvs) ([] ++ ds) := hd
    exact call_G (us := []) (run_G F hgd hr (fun e s' z => hx pins σ H s e s' I z) I (hb s [] I.kIn (r2.length.symm.trans (F.len _ _ _ _ h))) r2 h))) hdb)⟩
end
end DL

set_option Elab.async false
set_option linter.all false
set_option autoImplicit false
set_option maxRecDepth 100000
set_option maxHeartbeats 4000000
/-! a law whose promise holds where no repr is under way: its end -/
namespace DL
open PySem PySem.Spec PyProof.Rows L2 LK
section
variable {P : Program} {w : World} {K : PySem.W.Frag} {mg mb : Str → Option Value} {CX : CXT} {k : Nat} {fa a : Addr} {fd : FuncData} {x : Str} {sp : Sp} {s₁ : Shared} {vs : List Value} {ns : List Int}
/-- nothing is tracked but, perhaps, the script -/
theorem lawG_core (KX : K.In s₁.heap) (hns : s₁.heap.Ns mainGlobals mg) (hb : s₁.heap.Ns builtinsNs mb) (hbb : ∀ x : Str, x ≠ "__name__" → mb x = bootBuiltins x) (hlim : s₁.heap.NoLimit) (hg : s₁.gens = #[])
    (ha : s₁.heap.get? a = some { cls := .type "list", data := .seq vs.toArray }) (hr : Room k callerA) (F : ∀ base : Heap, K.In base → base.Ns mainGlobals mg → FnOkG P w K mg base CX k fa fd [x] sp) (hbind : ∀ (s : Shared) (u : Value), BindsTo s fd ⟨[u], []⟩ [(x, u)])
    (hsp : ∀ H : Hp, Only H → SqL K H a (ns.map V.int) → sp [.ref a] H (fun v _ => v = .bl true) fun _ _ _ => False) (hCX : ∀ H e s', CX [] H s₁ (fun _ _ _ => False) e s' → False)
    (H : Hp) (hO : Only H) (hS : SqL K H a (ns.map V.int)) (hok : HOk P w H s₁.heap) (hA : ∀ b, H b ≠ none → b = a) (hK : H a ≠ none → K.lookup a = none) :
    codeAny (model P w) callerA (.call (.ref fa) ⟨[.ref a], []⟩) (fun r s' => r = .ok (.ret (.bool true)) ∧ OldK s₁.heap s'.heap ∧ s'.os = s₁.os ∧ AllBare s'.gens) s₁ := by
  have away : ∀ {b : Addr} {o : Obj}, s₁.heap.get? b = some o → (b = a → False) → H b = none := fun {b o} _ n => Classical.byContradiction fun z => n (hA b z)
  have dictN : ∀ {b : Addr} {o : Obj} {es : Array DictEntry} {ep : Nat}, s₁.heap.get? b = some o → o.data = .dict es ep → H b = none := fun {b o es ep} e d => away e fun z => by
    rw [z, ha] at e
    cases e
    exact nomatch (show Data.seq vs.toArray _ = Data.dict es ep from d)
  have nsB : ∀ {b : Addr} {m : Str → Option Value}, s₁.heap.Ns b m → (hidT s₁.heap H).Ns b m := fun ⟨o, es, ep, e, d, r⟩ => ⟨o, es, ep, hidT_get e (dictN e d), d, r⟩
  have inB : K.In (hidT s₁.heap H) := fun b o e => hidT_get (KX b o e) (Classical.byContradiction fun z => by
    have e1 := hA b z
    subst e1
    have e2 := hK z
    rw [e2] at e
    cases e)
  obtain ⟨mc, l1, l2⟩ := hlim
  have e0 : Env0 P w K mg (hidT s₁.heap H) callerA [] s₁ H := ⟨rfl, ⟨inB, nsB hns, ⟨mb, nsB hb, hbb⟩, ⟨mc, nsB l1, l2⟩⟩, fun b o e => of_hidT e, Nat.le_of_eq (hidT_size _ _), trivial, fun b z => (nomatch (show b ∈ ([] : List Addr) from z)), hok, .of_eq hg⟩
  refine codeAny_mono ((F _ inB (nsB hns)).run callerA [] s₁ H ⟨[.ref a], []⟩ [.ref a] [.ref a] _ _ rfl hr e0 (hbind s₁ (.ref a)) (.cons rfl .nil) (hsp H hO hS)) fun r s' h => ?_
  cases r with
  | error e => exact (hCX H e s' h).elim
  | ok fl =>
    cases fl with
    | next => exact False.elim h
    | brk => exact False.elim h
    | cont => exact False.elim h
    | ret u =>
      obtain ⟨v, H', os, bare, un, hok', rv, q⟩ := h
      obtain rfl : v = .bl true := q
      obtain rfl : u = Value.bool true := rv
      refine ⟨rfl, OldK.of_keep fun b o e => ?_, os, bare⟩
      cases q : H b with
      | none => exact un.keep b o e q (fun z => (nomatch (show b ∈ ([] : List Addr) from z))) (fun z => (nomatch z))
      | some t =>
        rcases hO b with z | ⟨ob, xs, z⟩
        · rw [q] at z
          cases z
        · obtain ⟨e1, _⟩ := hok b _ z
          obtain ⟨e2, _⟩ := hok' b _ (un.frzs b ob _ z)
          rw [e] at e1
          cases e1
          exact e2
theorem lawG_call (KX : K.In s₁.heap) (hns : s₁.heap.Ns mainGlobals mg) (hb : s₁.heap.Ns builtinsNs mb) (hbb : ∀ x : Str, x ≠ "__name__" → mb x = bootBuiltins x) (hlim : s₁.heap.NoLimit) (hg : s₁.gens = #[])
    (ha : s₁.heap.get? a = some { cls := .type "list", data := .seq vs.toArray }) (hi : IntsAre vs ns) (hl : ns.length ≤ sizeLine) (hr : Room k callerA) (F : ∀ base : Heap, K.In base → base.Ns mainGlobals mg → FnOkG P w K mg base CX k fa fd [x] sp) (hbind : ∀ (s : Shared) (u : Value), BindsTo s fd ⟨[u], []⟩ [(x, u)])
    (hsp : ∀ H : Hp, Only H → SqL K H a (ns.map V.int) → sp [.ref a] H (fun v _ => v = .bl true) fun _ _ _ => False) (hCX : ∀ H e s', CX [] H s₁ (fun _ _ _ => False) e s' → False) :
    codeAny (model P w) callerA (.call (.ref fa) ⟨[.ref a], []⟩) (fun r s' => r = .ok (.ret (.bool true)) ∧ OldK s₁.heap s'.heap ∧ s'.os = s₁.os ∧ AllBare s'.gens) s₁ := by
  have rv := vals_ints hi
  have go := lawG_core KX hns hb hbb hlim hg ha hr F hbind hsp hCX
  cases hk : K.lookup a with
  | some o =>
    have e := KX a o hk
    rw [ha] at e
    cases e
    exact go (fun _ => none) (fun _ => .inl rfl) (.inr ⟨_, vs.toArray, _, hk, rfl, rfl, rfl, by rw [List.size_toArray, hi.length]; exact hl, by simpa using rv⟩) (fun b u z => nomatch (show (none : Option HO) = some u from z)) (fun b z => absurd rfl z) fun z => absurd rfl z
  | none =>
    let H : Hp := fun b => if b = a then some (.frz { cls := .type "list", data := .seq vs.toArray } (.lst (ns.map V.int))) else none
    have at_a : H a = some (.frz { cls := .type "list", data := .seq vs.toArray } (.lst (ns.map V.int))) := if_pos rfl
    have off : ∀ b, b ≠ a → H b = none := fun b n => if_neg n
    refine go H (fun b => ?_) (.inl (.inr ⟨_, at_a⟩)) (fun b u z => ?_) (fun b z => Classical.byContradiction fun n => z (off b n)) fun _ => hk
    · by_cases n : b = a
      · subst n
        exact .inr ⟨_, _, at_a⟩
      · exact .inl (off b n)
    · by_cases n : b = a
      · subst n
        rw [at_a] at z
        cases z
        exact ⟨ha, by rw [List.length_map]; exact hl, vs, _, rv, ha⟩
      · rw [off b n] at z
        cases z
end
theorem walk_G {l : PySem.W.OpenLaw} {n k : Nat} {q : Program} {loose : List Str} {XP : (Str → Option Value) → Heap → Prop} {YP : World → Heap → Prop} {d : DefRec} {CX : CXT} {x : Str}
    (hn : l.most = some n) (hn2 : n ≤ sizeLine) (hdf : d.params.defaults = []) (hr : Room k callerA)
    (F : ∀ (w : World) (mg : Str → Option Value) (fa : Addr) (h : Heap), YP w h → h.Ns mainGlobals mg → mg d.name = some (.ref fa) →
      ∃ (K : PySem.W.Frag) (fd : FuncData) (sp : Sp), K.In h ∧ (∀ (s : Shared) (u : Value), BindsTo s fd ⟨[u], []⟩ [(x, u)]) ∧
        (∀ (H : Hp) (a : Addr) (ns : List Int), ns.length ≤ n → Only H → SqL K H a (ns.map V.int) → sp [.ref a] H (fun v _ => v = .bl true) fun _ _ _ => False) ∧
        ∀ base : Heap, K.In base → base.Ns mainGlobals mg → FnOkG l.prog w K mg base CX k fa fd [x] sp)
    (hCX : ∀ (H : Hp) (s : Shared) (e : Value) (s' : Shared), CX [] H s (fun _ _ _ => False) e s' → False) : PySem.W.WalkO q loose XP YP l.row.toRowW d [] (fun f vs => PySem.call f vs) :=
  Att.attach_call hn hdf fun w s₀ s₁ mg mb fa o pm cd doc a vs ns G Y ho hd hcd hmg hobj hints hlen hg => by
    obtain ⟨K, fd, sp, KX, hb, hsp, hF⟩ := F w mg fa _ Y G.T.g hmg
    exact lawG_call KX G.T.g G.T.b G.T.builtins G.T.nolimit hg hobj hints (Nat.le_trans hlen hn2) hr hF hb (fun H hO hS => hsp H a ns hlen hO hS) fun H e s' => hCX H s₁ e s'
end DL

set_option Elab.async false
set_option linter.all false
set_option autoImplicit false
set_option maxRecDepth 100000
set_option maxHeartbeats 4000000
/-! the mirror layer: repr of data, str of an int; defs that use repr -/
namespace DL
open PySem PySem.Spec PyProof.Rows L2 LK
theorem repr_ref {prog : Program} {w : World} {A : Around} {E : Value → Shared → Prop} {s : Shared} {a : Addr} {d : PyData} {T idr : String} {Q : Value → Shared → Prop} (hS : ShowsBy prog w s.heap a d T idr) (hg : A.guards = some []) (hu : A.units + 1 + d.depth < cLine)
    (hQ : ∀ h' u tk, (∀ b o, s.heap.get? b = some o → h'.get? b = some o) → Q (.str d.shown u) { s with heap := h', toks := tk }) : wpAny (model prog w) A (call (.builtin "repr") [.ref a]) Q E s := by
  refine Calls.call_function_entry F.kind_repr F.plain_repr F.entry_repr (F.args_repr1 _) ?_
  have u1 : A.in1.units = A.units + 1 := rfl
  have same : ∀ b o, s.heap.get? b = some o → s.heap.get? b = some o := fun _ _ z => z
  unfold Builtin.«repr»
  refine wpAny_bind (m := oneArg "repr" _) (wpAny_pure (wpAny_bind (wpAny_cRoomFor (by omega) ?_)))
  refine wpAny_bind (wpAny_specialOf (name := Str.ofString "__repr__") (hS.typeIs s same) hS.slotRepr.lookup ?_)
  refine wpAny_bind (m := callSpecialIfBound? (.ref a) (Str.ofString "__repr__")) (wpAny_callSpecialIfBound?_slotG (name := Str.ofString "__repr__") (hS.typeIs s same) hS.slotRepr ?_)
  refine hS.call A.in1 E s _ hg (by omega) same fun h' u tk hk => ?_
  exact wpAny_bind (wpAny_isInstance (T := "str") (b := true) rfl isSubtype_str_str (wpAny_pure ⟨_, rfl, hQ h' u tk hk⟩))
def rRepr (K : PySem.W.Frag) : List V → Hp → VK → Prop := fun xs H Q => ∃ (a : Addr) (d : PyData), xs = [.ref a] ∧ Dp K H (.ref a) d ∧ (d.showable = true ∧ d.hasDict = false) ∧ (d.depth ≤ 64 ∧ d.shown.length ≤ sizeLine) ∧ Q (.str d.shown) H
theorem cRepr {X : Cx} {K : PySem.W.Frag} (hgd : X.A.guards = some []) (hu : X.A.units + 66 < cLine) (hK : X.K = K := by rfl) : CallR X (.builtin "repr") (rRepr K) := by
  subst hK
  intro pins s σ H xs us Q I r h
  obtain ⟨a, d, rfl, hd, hs, hz, q⟩ := h
  rw [Vals.ref1 r]
  obtain ⟨as, rd⟩ := Dp.reads I d (.ref a) (.ref a) hd rfl
  obtain ⟨T, idr, hS⟩ := showsBy_of_reads (prog := X.prog) (w := X.w) rd hs.1 (fun z => absurd (hs.2.symm.trans z) (by decide)) hz.2
  exact repr_ref hS hgd (by omega) fun h' u tk hk => ⟨.str _, H, I.kept (t' := tk) hk, ⟨u, rfl⟩, q⟩
def fRepr : List D → Option Vl
  | [d] => if (match d with
      | .lst _ => true
      | .tup _ => true
      | _ => false) = true ∧ (d.py.canLay0 = true ∧ d.py.showable = true ∧ d.py.hasDict = false) ∧ d.py.depth ≤ 64 ∧ d.py.shown.length ≤ sizeLine then some (.fz (.str d.py.shown.cps.toList)) else none
  | _ => none
theorem repr_ok {K : PySem.W.Frag} : OpN K (rRepr K) fRepr := fun G H xs ds z Q e kk h q => by
  unfold fRepr at h
  split at h
  · rename_i d
    obtain ⟨hl, rfl⟩ := ite_some h
    obtain ⟨x, rfl, k⟩ := den1 kk
    obtain ⟨hk, ⟨h1, h2, h3⟩, h4, h5⟩ := hl
    have hr : ∃ a, x = .ref a := by
      cases k with
      | lst _ _ => exact ⟨_, rfl⟩
      | tup _ _ => exact ⟨_, rfl⟩
      | _ => cases hk
    obtain ⟨a, rfl⟩ := hr
    refine ⟨a, _, rfl, (k.same e).dp h1, ⟨h2, h3⟩, ⟨h4, h5⟩, ?_⟩
    have := q.now e (.str d.py.shown.cps.toList)
    rw [← toS_of] at this
    exact this
  · cases h
/-! ### str(i) -/
def fStrI : List D → Option Vl
  | [.int i] => if i.natAbs.log2 < 1920 then some (.fz (.str (toString i : Str).cps.toList)) else none
  | _ => none
theorem strI_ok {K : PySem.W.Frag} : OpN K (fun xs H Q => ∃ i, xs = [.int i] ∧ i.natAbs.log2 < 1920 ∧ Q (.str (toString i)) H) fStrI := fun G H xs ds z Q e kk h q => by
  unfold fStrI at h
  split at h
  · rename_i i
    obtain ⟨hl, rfl⟩ := ite_some h
    obtain ⟨x, rfl, k⟩ := den1 kk
    cases den_int k
    refine ⟨i, rfl, hl, ?_⟩
    have := q.now e (.str (toString i : Str).cps.toList)
    rw [← toS_of] at this
    exact this
  · cases h
end DL

set_option Elab.async false
set_option linter.all false
set_option autoImplicit false
set_option maxRecDepth 100000
set_option maxHeartbeats 4000000
/-! the mirror layer: defs that use repr, by their mirrors; calls of them -/
namespace DL
open PySem PySem.Spec PyProof.Rows L2 LK
section
variable {P : Program} {w : World} {K : PySem.W.Frag} {mg : Str → Option Value} {base : Heap} {CX : CXT} {x qual : Str} {params : Arguments} {body : List Stmt} {scope : Scope} {dvs : List V} {kws : List (Str × V)} {f : Addr} {fd : FuncData} {N ps : List Str} {k : Nat} {c : DC}
abbrev EndsAs (K : PySem.W.Frag) (G H : Hp) (Q : VK) (E : XK) (r : Res Vl) : Prop := match r with
  | .ok r => Cn K G H r Q
  | .err c fs => ∀ cls dd G' H', Grow G H G' H' → XAt K G' c fs cls dd → E cls dd H'
  | .bad => False
theorem okPG (F : FunD K x qual params body scope dvs kws f fd) (S : FnScope N ps scope)
    (hb : ∀ (cdv : Value) (A : Around) (outer : List Env) (s : Shared) (H : Hp) (E : XK) (G : Hp), (A.deeper (envOfC qual scope s.heap.objs.size f cdv)).guards = some [] → Room k (A.deeper (envOfC qual scope s.heap.objs.size f cdv)) → PSs (cxOf CX P w K mg base N qual scope f cdv A outer s H E) body (tS (bsP K G H) (fun _ => E) c)) :
    FnOkG P w K mg base CX (k + 1) f fd ps (spP K (mP ps.length N.length c)) := by
  refine fnG_ok F S (fun vs H Q E ⟨G, ds, e, kd, h⟩ => kd.len.trans (if_len (R := EndsAs K G H Q E) id h).1) fun cdv A outer s H vs Q E hgd hr ⟨G, ds, e, kd, h⟩ => ?_
  exact ⟨_, hb cdv A outer s H E G hgd hr, entry_ok e kd (if_len (R := EndsAs K G H Q E) id h).2⟩
theorem okLG (F : FunD K x qual params body scope dvs kws f fd) (S : FnScope N ps scope)
    (hb : ∀ (cdv : Value) (A : Around) (outer : List Env) (s : Shared) (H : Hp) (E : XK) (G : Hp), (A.deeper (envOfC qual scope s.heap.objs.size f cdv)).guards = some [] → Room k (A.deeper (envOfC qual scope s.heap.objs.size f cdv)) → PSs (cxOf CX P w K mg base N qual scope f cdv A outer s H E) body (tS (bsP K G H) E0' c)) :
    FnOkG P w K mg base CX (k + 1) f fd ps (spP K (mL ps.length N.length c)) := by
  refine fnG_ok F S (fun vs H Q E ⟨G, ds, e, kd, h⟩ => kd.len.trans (if_len (R := EndsAs K G H Q E) id h).1) fun cdv A outer s H vs Q E hgd hr ⟨G, ds, e, kd, h⟩ => ?_
  have h2 := (if_len (R := EndsAs K G H Q E) id h).2
  refine ⟨_, hb cdv A outer s H E G hgd hr, entry_ok (E := fun _ _ _ => False) e kd ?_⟩
  cases er : runD c (ent N.length ds) with
  | ok r => rw [er] at h2; exact h2
  | err c fs => rw [er] at h2; exact h2.elim
  | bad => rw [er] at h2; exact h2
end
section
variable {X : Cx} {CX : CXT} {b : Bs} {E : XW} {e : Expr} {es : List Expr} {fs : DA} {pos p : Pos} {x : Str} {k : Nat} {f : Addr} {fd : FuncData} {ps : List Str} {m : List D → Res Vl}
theorem d_callG (F : FnOkG X.prog X.w X.K X.mg X.base CX k f fd ps (spP b.K m)) (hgd : X.A.guards = some []) (hr : Room k X.A) (hg : Gl X x) (hm : X.mg x = some (.ref f)) (hk : PySem.W.keepIn X.K (.ref f) = true) (hb : Binds X.K fd ps []) (hx : ∀ σ, PassesAt CX X σ (E σ)) (ha : PA X (e :: es) (tA b E fs))
    (hdb : (x == ("__debug__" : Str)) = false := by decide) (he : starEach (e :: es) X.env = (false, eval e X.env) :: starEach es X.env := by rfl) (hpl : (backTo pos (starEach es X.env)).any (·.1) = false := by rfl) : PE X (.Call (.Name x p) (e :: es) [] pos) (tW b E (dCall m fs)) :=
  PE.imp (pe_gSD F hgd hr hg hm hk hb .nil hx ha hdb he hpl) fun σ H Q ⟨G, ρ, S, w⟩ => ⟨G, ρ, S, w.bind.mono (L2.Same.refl G) fun ds ρ1 w1 vs G1 H1 S1 s1 k1 => by
    show spP b.K m (vs ++ []) H1 Q (E σ)
    rw [List.append_nil]
    exact res_read S1 s1 k1 w1⟩
theorem d_callG0 (F : FnOkG X.prog X.w X.K X.mg X.base CX k f fd ps (spP b.K m)) (hgd : X.A.guards = some []) (hr : Room k X.A) (hg : Gl X x) (hm : X.mg x = some (.ref f)) (hk : PySem.W.keepIn X.K (.ref f) = true) (hb : Binds X.K fd ps []) {E' : XK} (hE : ∀ σ, E σ = E') (hx : Passes CX X E')
    (hdb : (x == ("__debug__" : Str)) = false := by decide) : PE X (.Call (.Name x p) [] [] pos) (tW b E (dCall m dNil)) :=
  PE.imp (pe_g0 F hgd hr hg hm hk hb .nil hx hdb) fun σ H Q ⟨G, ρ, S, w⟩ => by
    have := res_read (b := b) (E := E) (vs := []) S (L2.Same.refl G) DenA.nil w.bind
    rw [hE] at this
    exact this
end

theorem unR {k : Nat} {A : Around} (r : Room k A) : A.units + 66 < cLine := by
  have := r.un
  omega
end DL

set_option Elab.async false
set_option linter.all false
set_option autoImplicit false
set_option maxRecDepth 100000
set_option maxHeartbeats 4000000
/-! the mirror layer: x is None, x a list of one's own or another thing -/
namespace DL
open PySem PySem.Spec PyProof.Rows L2 LK
def dNonV (neg : Bool) (i : Nat) : DE := fun ρ => match gs ρ i with
  | .fz d => RS.of ((fIsN d .non).bind fun v => match v with
    | .fz (.bl t) => some (.fz (.bl (if neg then !t else t)))
    | _ => none) ρ
  | s => match ownL s with
    | some _ => .ok (.fz (.bl neg)) ρ
    | none => .bad
section
variable {X : Cx} {b : Bs} {E : XW} {e : Expr} {i : Nat} {σ : L2.St} {H : Hp} {Q : VK}
theorem isN_val {K : PySem.W.Frag} {G : Hp} {x : V} {d : D} {v : Vl} (k : Den K G x d) (h : fIsN d .non = some v) : v = .fz (.bl (decide (x = .non))) := by
  cases k <;> simp only [fIsN, reduceCtorEq] at h <;> cases h <;> rfl
theorem rdNonV (neg : Bool) (w : tW b E (dNonV neg i) σ H Q) : ∃ v, σ[i]? = some (some v) ∧ Q (.bl (if neg then !decide (v = .non) else decide (v = .non))) H := by
  obtain ⟨G, ρ, S, w⟩ := w
  unfold dNonV at w
  have own : ∀ {q : List D × (List D → Sl)}, ownL (gs ρ i) = some q → (∀ x G' H', Sr b G' H' (some x :: σ) ((Vl.fz (.bl neg)).s :: ρ) → Same G G' → Q x H') → ∃ v, σ[i]? = some (some v) ∧ Q (.bl (if neg then !decide (v = .non) else decide (v = .non))) H := fun {q} eo w => by
    obtain ⟨a, vs, hx, _⟩ := S.own (mk := q.2) (ds := q.1) eo
    refine ⟨.ref a, hx, ?_⟩
    have e : (if neg then !decide (V.ref a = .non) else decide (V.ref a = .non)) = neg := by cases neg <;> rfl
    rw [e]
    exact w _ G H (S.push (.bl _)) (L2.Same.refl G)
  cases eg : gs ρ i with
  | fz d =>
    rw [eg] at w
    obtain ⟨v, hx, kd⟩ := S.fz eg
    obtain ⟨z, ez, q⟩ := Wp.of (show Wp b E σ G (RS.of _ ρ) _ from w)
    obtain ⟨u, h1, h2⟩ := Option.bind_eq_some_iff.mp ez
    have hu := isN_val kd h1
    subst hu
    cases h2
    exact ⟨v, hx, q _ G H (S.push (.bl _)) (L2.Same.refl G)⟩
  | un => rw [eg] at w; exact w.elim
  | ow d =>
    rw [eg] at w
    dsimp only at w
    cases eo : ownL (.ow d) with
    | none => rw [eo] at w; exact w.elim
    | some q => rw [eo] at w; exact own (by rw [eg]; exact eo) w
  | bw d =>
    rw [eg] at w
    dsimp only at w
    cases eo : ownL (.bw d) with
    | none => rw [eo] at w; exact w.elim
    | some q => rw [eo] at w; exact own (by rw [eg]; exact eo) w
variable {pos p2 : Pos} {j : Nat}
theorem tb_val {K : PySem.W.Frag} {G : Hp} {x : V} {d : D} {c : Bool} (k : Den K G x d) (h : dBl d = some c) : x = .bl c := by
  cases k <;> simp only [dBl, reduceCtorEq] at h <;> cases h <;> rfl
theorem d_isNV (h : PE X e (tVar i)) : PE X (.Compare e [.Is] [.Constant .none j p2] pos) (tW b E (dNonV false i)) :=
  PE.imp (pe_cmpR op_isN h pe_non (nomark _)) fun σ H Q w => by
    obtain ⟨v, hx, q⟩ := rdNonV false w
    exact ⟨v, hx, rfl, q⟩
theorem d_noNV (h : PE X e (tVar i)) : PE X (.Compare e [.IsNot] [.Constant .none j p2] pos) (tW b E (dNonV true i)) :=
  PE.imp (pe_cmpR op_notN h pe_non (nomark _)) fun σ H Q w => by
    obtain ⟨v, hx, q⟩ := rdNonV true w
    exact ⟨v, hx, rfl, q⟩
theorem dt_isNV (h : PE X e (tVar i)) : PT X (.Compare e [.Is] [.Constant .none j p2] pos) (tT b E (dTb (dNonV false i))) :=
  PT.imp (pt_cmpR op_isN h pe_non (nomark _)) fun σ H Q ⟨G, ρ, S, w⟩ => by
    obtain ⟨v, hx, q⟩ := rdNonV (b := b) (E := E) (H := H) (σ := σ) (Q := fun z H3 => ∃ c, z = V.bl c ∧ Q c H3) false ⟨G, ρ, S, w.bind.mono (L2.Same.refl G) fun a ρ1 w1 x G1 H1 S1 s1 => by
      obtain ⟨c, ec, q⟩ := w1.of
      obtain ⟨G2, s2, S2, k⟩ := S1.z
      refine ⟨c, ?_, q G2 H1 S2 (L2.Same.trans s1 s2)⟩
      exact tb_val k ec⟩
    exact ⟨v, hx, rfl, q⟩
theorem dt_noNV (h : PE X e (tVar i)) : PT X (.Compare e [.IsNot] [.Constant .none j p2] pos) (tT b E (dTb (dNonV true i))) :=
  PT.imp (pt_cmpR op_notN h pe_non (nomark _)) fun σ H Q ⟨G, ρ, S, w⟩ => by
    obtain ⟨v, hx, q⟩ := rdNonV (b := b) (E := E) (H := H) (σ := σ) (Q := fun z H3 => ∃ c, z = V.bl c ∧ Q c H3) true ⟨G, ρ, S, w.bind.mono (L2.Same.refl G) fun a ρ1 w1 x G1 H1 S1 s1 => by
      obtain ⟨c, ec, q⟩ := w1.of
      obtain ⟨G2, s2, S2, k⟩ := S1.z
      refine ⟨c, ?_, q G2 H1 S2 (L2.Same.trans s1 s2)⟩
      exact tb_val k ec⟩
    exact ⟨v, hx, rfl, q⟩
theorem a_nonV {neg : Bool} {ρ : DS} : dNonV neg i ρ = match gs ρ i with
  | .fz d => RS.of ((fIsN d .non).bind fun v => match v with
    | .fz (.bl t) => some (.fz (.bl (if neg then !t else t)))
    | _ => none) ρ
  | s => match ownL s with
    | some _ => .ok (.fz (.bl neg)) ρ
    | none => .bad := rfl
end
end DL

set_option Elab.async false
set_option linter.all false
set_option autoImplicit false
set_option maxRecDepth 100000
set_option maxHeartbeats 4000000
/-! the mirror layer: what is not told (a def's rest), C(..) whose __init__ ends in an error, keyword-only defaults -/
namespace DL
open PySem PySem.Spec PyProof.Rows L2 LK
/-- the rest of a def that is not told here -/
def dBad : DC := fun _ => .bad
theorem d_bad {X : Cx} {b : Bs} {E : XW} {sts : List Stmt} : PSs X sts (tS b E dBad) := PSs.imp pss_never fun D σ H ⟨G, ρ, S, w⟩ => w
/-- the keyword-only default of a def, where it is a thing -/
def kwAt (f : Str × Option Str) (n : Str) (K : PySem.W.Frag) : Addr := match K.lookup (He.fAd K f) with
  | some ⟨_, _, .func fd, _⟩ => (match fd.kwdefaults with
    | .ref D => (match PySem.W.nsIn K D n with
      | some (some (.ref a)) => a
      | _ => 0)
    | _ => 0)
  | _ => 0
/-! ### C(e, ..): the error that __init__ ends in -/
section
variable {X : Cx} {CX : CXT} {k : Nat} {f C : Addr} {fd : FuncData} {ps : List Str} {sp : Sp} {dvs : List V} {ds : List Value} {x : Str} {p pos : Pos} {e : Expr} {es : List Expr} {t : TA}
theorem run_makeSD {pins : List (Addr × Obj)} {σ : L2.St} {H : Hp} {s : Shared} {Q : VK} {us : List Value} {vs : List V} {E : XK} (M : Mk X.K C f) (F : FnOk X.prog X.w X.K X.mg X.base CX k f fd ps sp) (hr : Room (k + 1) X.A) (hb : Binds X.K fd ps ds) (hd : Vals dvs ds)
    (hx : PassesAt CX X σ E) (I : Inv X pins σ H s) (r : Vals vs us)
    (h : ∀ x dx, H x = none → H dx = none → dx ≠ x → sp (.ref x :: (vs ++ dvs)) (upd (upd H dx (.own x)) x (.ins C dx [])) (fun v H2 => v = .non ∧ Q (.ref x) H2) E) :
    wpAny (model X.prog X.w) X.A (call (.ref C) us) (EP X pins σ Q) X.xe s := by
  have hq := h (s.heap.objs.size + 1) s.heap.objs.size (I.hok.fresh (Nat.le_succ _)) (I.hok.fresh (Nat.le_refl _)) (Nat.ne_of_lt (Nat.lt_succ_self _))
  have I2 := Inv.made (C := C) I
  have r2 : Vals (V.ref (s.heap.objs.size + 1) :: (vs ++ dvs)) (Value.ref (s.heap.objs.size + 1) :: (us ++ ds)) := .cons rfl (r.append hd)
  have hl : (Value.ref (s.heap.objs.size + 1) :: us ++ ds).length = ps.length := by
    have e := r2.length
    rw [F.len _ _ _ _ hq] at e
    exact e.symm
  refine wpAny_call (make_map (f := f) I.kIn M.makes M.init (beq_iff_eq.mp M.fn) (codeAny_mono (F.run _ X.stack _ _ ⟨Value.ref (s.heap.objs.size + 1) :: us, []⟩ (Value.ref (s.heap.objs.size + 1) :: (us ++ ds)) _ _ E (hr.make C us [])
    (I2.env0.make C us []) (hb _ (Value.ref (s.heap.objs.size + 1) :: us) I2.kIn hl) r2 hq) fun r s' hq' => ?_))
  cases r with
  | error e => exact hx pins _ _ e s' I2 hq'
  | ok fl =>
    cases fl with
    | ret u =>
      obtain ⟨v, H', I3, rv, ev, q3⟩ := I2.after hq'
      subst ev
      exact ⟨rv, ⟨V.ref (s.heap.objs.size + 1), H', I3, rfl, q3⟩⟩
    | next => exact False.elim hq'
    | brk => exact False.elim hq'
    | cont => exact False.elim hq'
def tMakeSD (C : Addr) (sp : Sp) (dvs : List V) (E : L2.St → XK) (t : TA) : TE := fun σ H Q => t σ H fun vs H1 => ∀ x dx, H1 x = none → H1 dx = none → dx ≠ x →
  sp (.ref x :: (vs ++ dvs)) (upd (upd H1 dx (.own x)) x (.ins C dx [])) (fun v H2 => v = .non ∧ Q (.ref x) H2) (E σ)
theorem pe_makeSD {E : L2.St → XK} (M : Mk X.K C f) (F : FnOk X.prog X.w X.K X.mg X.base CX k f fd ps sp) (hr : Room (k + 1) X.A) (hg : Gl X x) (hm : X.mg x = some (.ref C)) (hb : Binds X.K fd ps ds) (hd : Vals dvs ds) (hx : ∀ σ, PassesAt CX X σ (E σ))
    (ha : PA X (e :: es) t) (hdb : (x == ("__debug__" : Str)) = false := by decide) (he : starEach (e :: es) X.env = (false, eval e X.env) :: starEach es X.env := by rfl) (hpl : (backTo pos (starEach es X.env)).any (·.1) = false := by rfl) :
    PE X (.Call (.Name x p) (e :: es) [] pos) (tMakeSD C sp dvs E t) := by
  refine ⟨fun pins s σ H Q I h => ?_⟩
  refine wpAny_Call_Name_kw (ld_glob I hg hm ?_ hdb)
  refine PySem.W.callWith_K (h₀ := X.base) I.ok.mod.kin M.kp (thn (ha.run pos pins s σ H _ I h) fun us s1 ⟨vs, H1, I1, r, q⟩ => ⟨I1.kIn, ?_⟩) he hpl
  exact run_makeSD M F hr hb hd (hx σ) I1 r q
end
/-- .. of the class C -/
def spXC (K : PySem.W.Frag) (C : Addr) (m : List D → Res Vl) : Sp := fun vs H Q E => ∃ H0 G x ws dx ds, vs = .ref x :: ws ∧ Same H0 H ∧ H0 x = none ∧ H x = some (.ins C dx []) ∧ Same G H0 ∧ DenA K G ws ds ∧ match m ds with
  | .err c fs => ∀ cls dd G' H', Grow G H0 G' H' → XAt K G' c fs cls dd → E cls dd H'
  | _ => False
def dMakeX (m : List D → Res Vl) (fs : DA) : DE := fun ρ => (fs ρ).bind fun ds ρ1 => match m ds with
  | .err c fs => .err c fs ρ1
  | _ => .bad
theorem a_makeX {m : List D → Res Vl} {fs : DA} {ρ : DS} : dMakeX m fs ρ = (fs ρ).bind fun ds ρ1 => match m ds with
  | .err c fs => .err c fs ρ1
  | _ => .bad := rfl
section
variable {X : Cx} {b : Bs} {E : XW} {e : Expr} {es : List Expr} {fs : DA} {x : Str} {p pos : Pos} {CX : CXT} {k : Nat} {f C : Addr} {fd : FuncData} {ps : List Str} {m : List D → Res Vl}
theorem d_makeX (M : Mk X.K C f) (F : FnOk X.prog X.w X.K X.mg X.base CX k f fd ps (spXC b.K C m)) (hr : Room (k + 1) X.A) (hg : Gl X x) (hm : X.mg x = some (.ref C)) (hb : Binds X.K fd ps []) (hx : ∀ σ, PassesAt CX X σ (E σ)) (ha : PA X (e :: es) (tA b E fs))
    (hdb : (x == ("__debug__" : Str)) = false := by decide) (he : starEach (e :: es) X.env = (false, eval e X.env) :: starEach es X.env := by rfl) (hpl : (backTo pos (starEach es X.env)).any (·.1) = false := by rfl) : PE X (.Call (.Name x p) (e :: es) [] pos) (tW b E (dMakeX m fs)) :=
  PE.imp (pe_makeSD M F hr hg hm hb .nil hx ha hdb he hpl) fun σ H Q ⟨G, ρ, S, w⟩ => ⟨G, ρ, S, w.bind.mono (L2.Same.refl G) fun ds ρ1 w1 vs G1 H1 S1 s1 k1 x dx nx ndx nex => by
    have sm : Same H1 (upd (upd H1 dx (.own x)) x (.ins C dx [])) := L2.Same.trans (Same.new ndx) (Same.new (by rw [upd_ne (Ne.symm nex)]; exact nx))
    refine ⟨H1, G1, x, vs, dx, ds, by rw [List.append_nil], sm, nx, upd_same, S1.gh, k1, ?_⟩
    cases em : m ds with
    | bad => rw [em] at w1; exact w1.elim
    | ok r => rw [em] at w1; exact w1.elim
    | err c fs => rw [em] at w1; exact fun cls dd G' H' g xat => w1 cls dd G' H' (S1.grow g) (L2.Same.trans s1 g.g) xat⟩
theorem spXC_len {K : PySem.W.Frag} {vs : List V} {H : Hp} {Q : VK} {E : XK} {n : Nat} (h : spXC K C m vs H Q E) (hm : ∀ ds, ds.length ≠ n → m ds = .bad) : vs.length = n + 1 := by
  obtain ⟨H0, G, x, ws, dx, ds, rfl, _, _, _, _, k, h⟩ := h
  rw [List.length_cons, k.len]
  by_cases hl : ds.length = n
  · rw [hl]
  · rw [hm ds hl] at h
    exact h.elim
end
end DL

set_option linter.all false
/-! names of some letters, by levels: plain lists of codes -/
namespace K40
def ext (L : List Nat) (ws : List (List Nat)) : List (List Nat) := ws.flatMap fun w => L.map fun c => w ++ [c]
def lev (L : List Nat) : Nat → List (List Nat)
  | 0 => [[]]
  | n + 1 => ext L (lev L n)
def keptW : List (List Nat) := ["let", "if", "else", "while", "return", "fail", "try", "catch", "out", "fn"].map fun s => s.toList.map Char.toNat
def ok (w : List Nat) : Bool := !keptW.contains w
def filt (ws : List (List Nat)) : List (List Nat) := ws.filter ok
def Fd (L : List Nat) (n : Nat) : List (List Nat) := (List.range n).flatMap fun i => filt (lev L (i + 1))
def sup (L : List Nat) (count : Nat) : List (List Nat) := (Fd L count).take count
structure Good (L : List Nat) : Prop where
  nd : L.Nodup
  lo : 2 ≤ L.length
  hi : L.length ≤ 26
  al : ∀ c ∈ L, 97 ≤ c ∧ c ≤ 122
theorem Fd_zero (L : List Nat) : Fd L 0 = [] := rfl
theorem Fd_succ (L : List Nat) (n : Nat) : Fd L (n + 1) = Fd L n ++ filt (lev L (n + 1)) := by
  unfold Fd
  rw [List.range_succ, List.flatMap_append, List.flatMap_singleton]
theorem ext_length (L : List Nat) : ∀ ws : List (List Nat), (ext L ws).length = ws.length * L.length
  | [] => by simp [ext]
  | w :: ws => by
    have ih := ext_length L ws
    unfold ext at ih ⊢
    rw [List.flatMap_cons, List.length_append, ih, List.length_map, List.length_cons, Nat.succ_mul, Nat.add_comm]
theorem lev_mem {L : List Nat} : ∀ {n : Nat} {w : List Nat}, w ∈ lev L n → w.length = n ∧ ∀ c ∈ w, c ∈ L
  | 0, w, h => by
    have e : w = [] := by simpa [lev] using h
    subst e
    exact ⟨rfl, fun c hc => by cases hc⟩
  | n + 1, w, h => by
    unfold lev ext at h
    obtain ⟨v, hv, h⟩ := List.mem_flatMap.mp h
    obtain ⟨c, hc, e⟩ := List.mem_map.mp h
    subst e
    obtain ⟨h1, h2⟩ := lev_mem hv
    refine ⟨by rw [List.length_append, h1]; rfl, fun d hd => ?_⟩
    rcases List.mem_append.mp hd with hd | hd
    · exact h2 d hd
    · have : d = c := by simpa using hd
      rw [this]; exact hc
theorem ext_nodup {L : List Nat} (hL : L.Nodup) : ∀ {ws : List (List Nat)}, ws.Nodup → (ext L ws).Nodup
  | [], _ => List.nodup_nil
  | w :: ws, h => by
    obtain ⟨h1, h2⟩ := List.nodup_cons.mp h
    have ih := ext_nodup hL h2
    unfold ext at ih ⊢
    rw [List.flatMap_cons]
    refine List.nodup_append.mpr ⟨?_, ih, fun a ha b hb e => ?_⟩
    · refine List.Pairwise.map _ (fun a b hne e => hne ?_) hL
      exact List.singleton_inj.mp (List.append_cancel_left e)
    · subst e
      obtain ⟨c, _, ec⟩ := List.mem_map.mp ha
      obtain ⟨v, hv, hb⟩ := List.mem_flatMap.mp hb
      obtain ⟨d, _, ed⟩ := List.mem_map.mp hb
      have := ec.trans ed.symm
      have e2 := (List.append_inj' this rfl).1
      subst e2
      exact h1 hv
theorem lev_nodup {L : List Nat} (hL : L.Nodup) : ∀ n, (lev L n).Nodup
  | 0 => by simp [lev]
  | n + 1 => ext_nodup hL (lev_nodup hL n)
theorem sub_len {α : Type} [BEq α] [LawfulBEq α] : ∀ {l m : List α}, l.Nodup → (∀ x ∈ l, x ∈ m) → l.length ≤ m.length
  | [], m, _, _ => Nat.zero_le _
  | a :: l, m, h, hs => by
    obtain ⟨h1, h2⟩ := List.nodup_cons.mp h
    have hm : a ∈ m := hs a List.mem_cons_self
    have ih := sub_len (m := m.erase a) h2 fun x hx => (List.mem_erase_of_ne (fun e : x = a => h1 (e ▸ hx))).mpr (hs x (List.mem_cons_of_mem _ hx))
    rw [List.length_erase_of_mem hm] at ih
    have := List.length_pos_of_mem hm
    rw [List.length_cons]
    omega
theorem len_parts {α : Type} (p : α → Bool) : ∀ l : List α, l.length = (l.filter p).length + (l.filter fun w => !p w).length
  | [] => rfl
  | a :: l => by
    have ih := len_parts p l
    cases h : p a <;> simp [h] <;> omega
theorem filt_ge {ws : List (List Nat)} (h : ws.Nodup) : ws.length ≤ (filt ws).length + 10 := by
  have h1 := len_parts ok ws
  have h2 : (ws.filter fun w => !ok w).length ≤ keptW.length := by
    refine sub_len (h.filter _) fun x hx => ?_
    have := (List.mem_filter.mp hx).2
    unfold ok at this
    simpa using this
  have h3 : keptW.length = 10 := by decide
  unfold filt
  omega
/-- a word of one letter alone is no kept word -/
theorem rep_mem {L : List Nat} {c : Nat} (hc : c ∈ L) : ∀ n, List.replicate n c ∈ lev L n
  | 0 => by simp [lev]
  | n + 1 => by
    unfold lev ext
    refine List.mem_flatMap.mpr ⟨_, rep_mem hc n, List.mem_map.mpr ⟨c, hc, ?_⟩⟩
    rw [List.replicate_succ']
theorem rep_ok (c n : Nat) : ok (List.replicate n c) = true := by
  unfold ok
  have : ¬ List.replicate n c ∈ keptW := by
    intro h
    have key : ∀ w ∈ keptW, 2 ≤ w.length ∧ w.getD 0 0 ≠ w.getD 1 0 := by decide
    obtain ⟨h1, h2⟩ := key _ h
    rw [List.length_replicate] at h1
    refine h2 ?_
    rw [List.getD_eq_getElem?_getD, List.getD_eq_getElem?_getD, List.getElem?_replicate, List.getElem?_replicate, if_pos (by omega), if_pos (by omega)]
  simp [this]
theorem filt_pos {L : List Nat} (G : Good L) (n : Nat) : 0 < (filt (lev L n)).length := by
  obtain ⟨c, hc⟩ : ∃ c, c ∈ L := by
    cases L with
    | nil => have := G.lo; simp at this
    | cons c r => exact ⟨c, List.mem_cons_self⟩
  exact List.length_pos_of_mem (List.mem_filter.mpr ⟨rep_mem hc n, rep_ok c n⟩)
theorem Fd_ge {L : List Nat} (G : Good L) : ∀ n, n ≤ (Fd L n).length
  | 0 => Nat.zero_le _
  | n + 1 => by
    have h1 := Fd_ge G n
    have h2 := filt_pos G (n + 1)
    rw [Fd_succ, List.length_append]
    omega
theorem Fd_prefix (L : List Nat) (n : Nat) : ∀ k, ∃ t, Fd L (n + k) = Fd L n ++ t
  | 0 => ⟨[], by simp⟩
  | k + 1 => by
    obtain ⟨t, ht⟩ := Fd_prefix L n k
    refine ⟨t ++ filt (lev L (n + k + 1)), ?_⟩
    rw [← Nat.add_assoc, Fd_succ, ht, List.append_assoc]
theorem take_eq {L : List Nat} {a b count : Nat} (ha : count ≤ (Fd L a).length) (hb : count ≤ (Fd L b).length) : (Fd L a).take count = (Fd L b).take count := by
  rcases Nat.le_total a b with h | h
  · obtain ⟨t, ht⟩ := Fd_prefix L a (b - a)
    rw [show a + (b - a) = b by omega] at ht
    rw [ht, List.take_append_of_le_length ha]
  · obtain ⟨t, ht⟩ := Fd_prefix L b (a - b)
    rw [show b + (a - b) = a by omega] at ht
    rw [ht, List.take_append_of_le_length hb]
theorem sup_eq {L : List Nat} (G : Good L) {a count : Nat} (ha : count ≤ (Fd L a).length) : (Fd L a).take count = sup L count := take_eq ha (Fd_ge G count)
theorem lev_small {L : List Nat} (G : Good L) : ∀ {n : Nat}, (Fd L n).length < 400 → (lev L n).length ≤ 410
  | 0, _ => by simp [lev]
  | n + 1, h => by
    have h1 := filt_ge (lev_nodup G.nd (n + 1))
    rw [Fd_succ, List.length_append] at h
    omega
theorem lev_next {L : List Nat} (G : Good L) {n : Nat} (h : (Fd L n).length < 400) : (lev L (n + 1)).length ≤ 10660 := by
  have h1 := lev_small G h
  have h2 : (lev L (n + 1)).length = (lev L n).length * L.length := ext_length L _
  rw [h2]
  exact Nat.le_trans (Nat.mul_le_mul h1 G.hi) (by decide)
theorem level_lt {L : List Nat} (G : Good L) {n : Nat} (h : (Fd L n).length < 400) : n < 400 := Nat.lt_of_le_of_lt (Fd_ge G n) h
theorem filt_le (ws : List (List Nat)) : (filt ws).length ≤ ws.length := List.length_filter_le ..
theorem sup_len {L : List Nat} (G : Good L) (count : Nat) : (sup L count).length = count := by
  unfold sup
  rw [List.length_take]
  have := Fd_ge G count
  omega
end K40

set_option Elab.async false
set_option linter.all false
set_option maxRecDepth 100000
set_option maxHeartbeats 4000000
namespace P02
open PySem L2 LK DL
def top (i : Nat) : Stmt := PySem.Challenge.pw_leanscript_k02_refused_words.main.body.getD i (.Pass ⟨0, 0, 0, 0⟩)
abbrev s_NoText_init : Stmt := inClass (top 2) 0
abbrev N_NoText_init : List Str := ["self", "at"]
theorem sc_NoText_init : FnScope N_NoText_init ["self", "at"] (defScope s_NoText_init) := ⟨rfl, rfl, rfl, by decide +kernel, rfl, by decide +kernel, by decide +kernel⟩

abbrev s_run_end : Stmt := top 21
abbrev N_run_end : List Str := ["text", "at", "signs"]
theorem sc_run_end : FnScope N_run_end ["text", "at", "signs"] (defScope s_run_end) := ⟨rfl, rfl, rfl, by decide +kernel, rfl, by decide +kernel, by decide +kernel⟩

abbrev s_stands_by : Stmt := top 22
abbrev N_stands_by : List Str := ["text", "at"]
theorem sc_stands_by : FnScope N_stands_by ["text", "at"] (defScope s_stands_by) := ⟨rfl, rfl, rfl, by decide +kernel, rfl, by decide +kernel, by decide +kernel⟩

abbrev s_letters_end : Stmt := top 23
abbrev N_letters_end : List Str := ["text", "at", "end"]
theorem sc_letters_end : FnScope N_letters_end ["text", "at"] (defScope s_letters_end) := ⟨rfl, rfl, rfl, by decide +kernel, rfl, by decide +kernel, by decide +kernel⟩

abbrev s_noughts_at : Stmt := top 24
abbrev N_noughts_at : List Str := ["text", "at", "figures"]
theorem sc_noughts_at : FnScope N_noughts_at ["text", "at"] (defScope s_noughts_at) := ⟨rfl, rfl, rfl, by decide +kernel, rfl, by decide +kernel, by decide +kernel⟩

abbrev s_figures_end : Stmt := top 25
abbrev N_figures_end : List Str := ["text", "at", "end", "many", "noughts"]
theorem sc_figures_end : FnScope N_figures_end ["text", "at"] (defScope s_figures_end) := ⟨rfl, rfl, rfl, by decide +kernel, rfl, by decide +kernel, by decide +kernel⟩

abbrev s_word_at : Stmt := top 26
abbrev N_word_at : List Str := ["text", "at", "sign", "word"]
theorem sc_word_at : FnScope N_word_at ["text", "at"] (defScope s_word_at) := ⟨rfl, rfl, rfl, by decide +kernel, rfl, by decide +kernel, by decide +kernel⟩

abbrev s_words : Stmt := top 27
abbrev N_words : List Str := ["text", "found", "at", "sort", "word"]
theorem sc_words : FnScope N_words ["text"] (defScope s_words) := ⟨rfl, rfl, rfl, by decide +kernel, rfl, by decide +kernel, by decide +kernel⟩

abbrev s_Reader_init : Stmt := inClass (top 66) 0
abbrev N_Reader_init : List Str := ["self", "text"]
theorem sc_Reader_init : FnScope N_Reader_init ["self", "text"] (defScope s_Reader_init) := ⟨rfl, rfl, rfl, by decide +kernel, rfl, by decide +kernel, by decide +kernel⟩

abbrev s_things : Stmt := top 67
abbrev N_things : List Str := ["nodes", "node"]
theorem sc_things : FnScope N_things ["nodes"] (defScope s_things) := ⟨rfl, rfl, rfl, by decide +kernel, rfl, by decide +kernel, by decide +kernel⟩

abbrev s_statements_in : Stmt := top 68
abbrev N_statements_in : List Str := ["text", "reader", "found"]
theorem sc_statements_in : FnScope N_statements_in ["text"] (defScope s_statements_in) := ⟨rfl, rfl, rfl, by decide +kernel, rfl, by decide +kernel, by decide +kernel⟩

abbrev s_read : Stmt := top 69
abbrev N_read : List Str := ["text", "found"]
theorem sc_read : FnScope N_read ["text"] (defScope s_read) := ⟨rfl, rfl, rfl, by decide +kernel, rfl, by decide +kernel, by decide +kernel⟩

abbrev s_spots : Stmt := top 71
abbrev N_spots : List Str := ["text", "told", "found", "some", "at", "node"]
theorem sc_spots : FnScope N_spots ["text"] (defScope s_spots) := ⟨rfl, rfl, rfl, by decide +kernel, rfl, by decide +kernel, by decide +kernel⟩

abbrev s_look_at_letters : Stmt := top 126
abbrev N_look_at_letters : List Str := ["letters", "letter"]
theorem sc_look_at_letters : FnScope N_look_at_letters ["letters"] (defScope s_look_at_letters) := ⟨rfl, rfl, rfl, by decide +kernel, rfl, by decide +kernel, by decide +kernel⟩

abbrev s_Trace_init : Stmt := inClass (top 182) 0
abbrev N_Trace_init : List Str := ["self", "text", "path", "begin", "end"]
theorem sc_Trace_init : FnScope N_Trace_init ["self", "text"] (defScope s_Trace_init) := ⟨rfl, rfl, rfl, by decide +kernel, rfl, by decide +kernel, by decide +kernel⟩

abbrev s_traced : Stmt := top 198
abbrev N_traced : List Str := ["text", "letters", "keep", "trace", "found"]
theorem sc_traced : FnScope N_traced ["text", "letters", "keep"] (defScope s_traced) := ⟨rfl, rfl, rfl, by decide +kernel, rfl, by decide +kernel, by decide +kernel⟩

abbrev s_lean : Stmt := top 199
abbrev N_lean : List Str := ["text", "letters", "keep", "trace", "found"]
theorem sc_lean : FnScope N_lean ["text", "letters", "keep"] (defScope s_lean) := ⟨rfl, rfl, rfl, by decide +kernel, rfl, by decide +kernel, by decide +kernel⟩

abbrev s_leaned : Stmt := top 200
abbrev N_leaned : List Str := ["text", "letters", "keep"]
theorem sc_leaned : FnScope N_leaned ["text", "letters", "keep"] (defScope s_leaned) := ⟨rfl, rfl, rfl, by decide +kernel, rfl, by decide +kernel, by decide +kernel⟩

abbrev s__law_mixed : Stmt := top 202
abbrev N__law_mixed : List Str := ["cell", "k", "mix"]
theorem sc__law_mixed : FnScope N__law_mixed ["cell", "k"] (defScope s__law_mixed) := ⟨rfl, rfl, rfl, by decide +kernel, rfl, by decide +kernel, by decide +kernel⟩

abbrev s__law_cell : Stmt := top 203
abbrev N__law_cell : List Str := ["script", "k", "cell", "found", "j"]
theorem sc__law_cell : FnScope N__law_cell ["script", "k"] (defScope s__law_cell) := ⟨rfl, rfl, rfl, by decide +kernel, rfl, by decide +kernel, by decide +kernel⟩

abbrev s__law_take : Stmt := top 204
abbrev N__law_take : List Str := ["pile", "size", "digit"]
theorem sc__law_take : FnScope N__law_take ["pile", "size"] (defScope s__law_take) := ⟨rfl, rfl, rfl, by decide +kernel, rfl, by decide +kernel, by decide +kernel⟩

abbrev s__law_only : Stmt := top 205
abbrev N__law_only : List Str := ["caught", "name", "names", "some", "one", "here"]
theorem sc__law_only : FnScope N__law_only ["caught", "name"] (defScope s__law_only) := ⟨rfl, rfl, rfl, by decide +kernel, rfl, by decide +kernel, by decide +kernel⟩

abbrev s__law_asked : Stmt := top 206
abbrev N__law_asked : List Str := ["which", "text", "caught", "e"]
theorem sc__law_asked : FnScope N__law_asked ["which", "text"] (defScope s__law_asked) := ⟨rfl, rfl, rfl, by decide +kernel, rfl, by decide +kernel, by decide +kernel⟩

abbrev s__law_good : Stmt := top 207
abbrev N__law_good : List Str := ["ahead", "bad", "off", "behind", "text", "which", "caught"]
theorem sc__law_good : FnScope N__law_good ["ahead", "bad", "off", "behind"] (defScope s__law_good) := ⟨rfl, rfl, rfl, by decide +kernel, rfl, by decide +kernel, by decide +kernel⟩

abbrev s_law : Stmt := top 208
abbrev N_law : List Str := ["script", "some", "k", "good", "pile", "bad", "off", "ahead", "behind", "text"]
theorem sc_law : FnScope N_law ["script"] (defScope s_law) := ⟨rfl, rfl, rfl, by decide +kernel, rfl, by decide +kernel, by decide +kernel⟩

structure Env (K : PySem.W.Frag) (mg : Str → Option Value) where
  fd_NoText_init : FuncData
  F_NoText_init : FunD K "__init__" "NoText.__init__" (defArgs s_NoText_init) (defBody s_NoText_init) (defScope s_NoText_init) [.int 0] [] (He.ma K (He.ga K "NoText") "__init__") fd_NoText_init
  fd_run_end : FuncData
  F_run_end : FunD K "run_end" "run_end" (defArgs s_run_end) (defBody s_run_end) (defScope s_run_end) [] [] (He.ga K "run_end") fd_run_end
  m_run_end : mg "run_end" = some (.ref (He.ga K "run_end"))
  b_run_end : Binds K fd_run_end ["text", "at", "signs"] []
  fd_stands_by : FuncData
  F_stands_by : FunD K "stands_by" "stands_by" (defArgs s_stands_by) (defBody s_stands_by) (defScope s_stands_by) [] [] (He.ga K "stands_by") fd_stands_by
  m_stands_by : mg "stands_by" = some (.ref (He.ga K "stands_by"))
  b_stands_by : Binds K fd_stands_by ["text", "at"] []
  fd_letters_end : FuncData
  F_letters_end : FunD K "letters_end" "letters_end" (defArgs s_letters_end) (defBody s_letters_end) (defScope s_letters_end) [] [] (He.ga K "letters_end") fd_letters_end
  m_letters_end : mg "letters_end" = some (.ref (He.ga K "letters_end"))
  b_letters_end : Binds K fd_letters_end ["text", "at"] []
  fd_noughts_at : FuncData
  F_noughts_at : FunD K "noughts_at" "noughts_at" (defArgs s_noughts_at) (defBody s_noughts_at) (defScope s_noughts_at) [] [] (He.ga K "noughts_at") fd_noughts_at
  m_noughts_at : mg "noughts_at" = some (.ref (He.ga K "noughts_at"))
  b_noughts_at : Binds K fd_noughts_at ["text", "at"] []
  fd_figures_end : FuncData
  F_figures_end : FunD K "figures_end" "figures_end" (defArgs s_figures_end) (defBody s_figures_end) (defScope s_figures_end) [] [] (He.ga K "figures_end") fd_figures_end
  m_figures_end : mg "figures_end" = some (.ref (He.ga K "figures_end"))
  b_figures_end : Binds K fd_figures_end ["text", "at"] []
  fd_word_at : FuncData
  F_word_at : FunD K "word_at" "word_at" (defArgs s_word_at) (defBody s_word_at) (defScope s_word_at) [] [] (He.ga K "word_at") fd_word_at
  m_word_at : mg "word_at" = some (.ref (He.ga K "word_at"))
  b_word_at : Binds K fd_word_at ["text", "at"] []
  fd_words : FuncData
  F_words : FunD K "words" "words" (defArgs s_words) (defBody s_words) (defScope s_words) [] [] (He.ga K "words") fd_words
  m_words : mg "words" = some (.ref (He.ga K "words"))
  b_words : Binds K fd_words ["text"] []
  fd_Reader_init : FuncData
  F_Reader_init : FunD K "__init__" "Reader.__init__" (defArgs s_Reader_init) (defBody s_Reader_init) (defScope s_Reader_init) [] [] (He.ma K (He.ga K "Reader") "__init__") fd_Reader_init
  b_Reader_init : Binds K fd_Reader_init ["self", "text"] []
  fd_things : FuncData
  F_things : FunD K "things" "things" (defArgs s_things) (defBody s_things) (defScope s_things) [] [] (He.ga K "things") fd_things
  m_things : mg "things" = some (.ref (He.ga K "things"))
  b_things : Binds K fd_things ["nodes"] []
  fd_statements_in : FuncData
  F_statements_in : FunD K "statements_in" "statements_in" (defArgs s_statements_in) (defBody s_statements_in) (defScope s_statements_in) [] [] (He.ga K "statements_in") fd_statements_in
  m_statements_in : mg "statements_in" = some (.ref (He.ga K "statements_in"))
  b_statements_in : Binds K fd_statements_in ["text"] []
  fd_read : FuncData
  F_read : FunD K "read" "read" (defArgs s_read) (defBody s_read) (defScope s_read) [] [] (He.ga K "read") fd_read
  m_read : mg "read" = some (.ref (He.ga K "read"))
  b_read : Binds K fd_read ["text"] []
  fd_spots : FuncData
  F_spots : FunD K "spots" "spots" (defArgs s_spots) (defBody s_spots) (defScope s_spots) [] [] (He.ga K "spots") fd_spots
  m_spots : mg "spots" = some (.ref (He.ga K "spots"))
  b_spots : Binds K fd_spots ["text"] []
  fd_look_at_letters : FuncData
  F_look_at_letters : FunD K "look_at_letters" "look_at_letters" (defArgs s_look_at_letters) (defBody s_look_at_letters) (defScope s_look_at_letters) [] [] (He.ga K "look_at_letters") fd_look_at_letters
  m_look_at_letters : mg "look_at_letters" = some (.ref (He.ga K "look_at_letters"))
  b_look_at_letters : Binds K fd_look_at_letters ["letters"] []
  fd_Trace_init : FuncData
  F_Trace_init : FunD K "__init__" "Trace.__init__" (defArgs s_Trace_init) (defBody s_Trace_init) (defScope s_Trace_init) [] [] (He.ma K (He.ga K "Trace") "__init__") fd_Trace_init
  b_Trace_init : Binds K fd_Trace_init ["self", "text"] []
  fd_traced : FuncData
  F_traced : FunD K "traced" "traced" (defArgs s_traced) (defBody s_traced) (defScope s_traced) [] [] (He.ga K "traced") fd_traced
  m_traced : mg "traced" = some (.ref (He.ga K "traced"))
  b_traced : Binds K fd_traced ["text", "letters", "keep"] []
  fd_lean : FuncData
  F_lean : FunD K "lean" "lean" (defArgs s_lean) (defBody s_lean) (defScope s_lean) [] [("keep", .ref (DL.kwAt ("lean", none) "keep" K))] (He.ga K "lean") fd_lean
  m_lean : mg "lean" = some (.ref (He.ga K "lean"))
  b_lean : ∃ ds, Vals [.ref (DL.kwAt ("lean", none) "keep" K)] ds ∧ Binds K fd_lean ["text", "letters", "keep"] ds
  kt_lean_keep : ∀ H, SqT K H (DL.kwAt ("lean", none) "keep" K) []
  fd_leaned : FuncData
  F_leaned : FunD K "leaned" "leaned" (defArgs s_leaned) (defBody s_leaned) (defScope s_leaned) [] [("keep", .ref (DL.kwAt ("leaned", none) "keep" K))] (He.ga K "leaned") fd_leaned
  m_leaned : mg "leaned" = some (.ref (He.ga K "leaned"))
  b_leaned : ∃ ds, Vals [.ref (DL.kwAt ("leaned", none) "keep" K)] ds ∧ Binds K fd_leaned ["text", "letters", "keep"] ds
  kt_leaned_keep : ∀ H, SqT K H (DL.kwAt ("leaned", none) "keep" K) []
  fd__law_mixed : FuncData
  F__law_mixed : FunD K "_law_mixed" "_law_mixed" (defArgs s__law_mixed) (defBody s__law_mixed) (defScope s__law_mixed) [] [] (He.ga K "_law_mixed") fd__law_mixed
  m__law_mixed : mg "_law_mixed" = some (.ref (He.ga K "_law_mixed"))
  b__law_mixed : Binds K fd__law_mixed ["cell", "k"] []
  fd__law_cell : FuncData
  F__law_cell : FunD K "_law_cell" "_law_cell" (defArgs s__law_cell) (defBody s__law_cell) (defScope s__law_cell) [] [] (He.ga K "_law_cell") fd__law_cell
  m__law_cell : mg "_law_cell" = some (.ref (He.ga K "_law_cell"))
  b__law_cell : Binds K fd__law_cell ["script", "k"] []
  fd__law_take : FuncData
  F__law_take : FunD K "_law_take" "_law_take" (defArgs s__law_take) (defBody s__law_take) (defScope s__law_take) [] [] (He.ga K "_law_take") fd__law_take
  m__law_take : mg "_law_take" = some (.ref (He.ga K "_law_take"))
  b__law_take : Binds K fd__law_take ["pile", "size"] []
  fd__law_only : FuncData
  F__law_only : FunD K "_law_only" "_law_only" (defArgs s__law_only) (defBody s__law_only) (defScope s__law_only) [] [] (He.ga K "_law_only") fd__law_only
  m__law_only : mg "_law_only" = some (.ref (He.ga K "_law_only"))
  b__law_only : Binds K fd__law_only ["caught", "name"] []
  fd__law_asked : FuncData
  F__law_asked : FunD K "_law_asked" "_law_asked" (defArgs s__law_asked) (defBody s__law_asked) (defScope s__law_asked) [] [] (He.ga K "_law_asked") fd__law_asked
  m__law_asked : mg "_law_asked" = some (.ref (He.ga K "_law_asked"))
  b__law_asked : Binds K fd__law_asked ["which", "text"] []
  fd__law_good : FuncData
  F__law_good : FunD K "_law_good" "_law_good" (defArgs s__law_good) (defBody s__law_good) (defScope s__law_good) [] [] (He.ga K "_law_good") fd__law_good
  m__law_good : mg "_law_good" = some (.ref (He.ga K "_law_good"))
  b__law_good : Binds K fd__law_good ["ahead", "bad", "off", "behind"] []
  fd_law : FuncData
  F_law : FunD K "law" "law" (defArgs s_law) (defBody s_law) (defScope s_law) [] [] (He.ga K "law") fd_law
  m_law : mg "law" = some (.ref (He.ga K "law"))
  b_law : Binds K fd_law ["script"] []
  m_LeanError : mg "LeanError" = some (.ref (He.ga K "LeanError"))
  m_NoCount : mg "NoCount" = some (.ref (He.ga K "NoCount"))
  m_NoLetters : mg "NoLetters" = some (.ref (He.ga K "NoLetters"))
  m_NoLine : mg "NoLine" = some (.ref (He.ga K "NoLine"))
  m_NoMap : mg "NoMap" = some (.ref (He.ga K "NoMap"))
  m_NoNaming : mg "NoNaming" = some (.ref (He.ga K "NoNaming"))
  m_NoPath : mg "NoPath" = some (.ref (He.ga K "NoPath"))
  m_NoText : mg "NoText" = some (.ref (He.ga K "NoText"))
  m_NoTree : mg "NoTree" = some (.ref (He.ga K "NoTree"))
  m_NoTurning : mg "NoTurning" = some (.ref (He.ga K "NoTurning"))
  m_TooMany : mg "TooMany" = some (.ref (He.ga K "TooMany"))
  k_NoLetters : PySem.W.keepIn K (.ref (He.ga K "NoLetters")) = true
  sb_NoLetters : PySem.W.subIn K (.ref (He.ga K "NoLetters")) (.type "BaseException") = some true
  ty_NoLetters : PySem.W.typeIn K (.ref (He.ga K "NoLetters")) = some (.type "type")
  x_NoLetters : PySem.W.excIn K (He.ga K "NoLetters") He.veBase "ValueError.__new__" = true
  k_NoText : PySem.W.keepIn K (.ref (He.ga K "NoText")) = true
  o_NoText : OexC K (He.ga K "NoText")
  i_NoText : PySem.W.findIn K (.ref (He.ga K "NoText")) "__init__" = some (some (.ref (He.ma K (He.ga K "NoText") "__init__")))
  t_NoText : PySem.W.typeIn K (.ref (He.ma K (He.ga K "NoText") "__init__")) = some (.type "function")
  na_NoText_at : PySem.W.findIn K (.ref (He.ga K "NoText")) "at" = some none
  kb_NoText_1 : ∃ g : List Value → List Value → List Value, KBn K fd_NoText_init ["self", "at"] 2 [] g (fun vs zs => (vs.drop 0).take 1 ++ ((vs.drop 1).take 1))
  ic_LeanError : InitC K (He.ga K "LeanError")
  ex_NoCount_LeanError : PySem.W.exmOne K (.ref (He.ga K "NoCount")) (.ref (He.ga K "LeanError")) = some true
  ex_NoLetters_LeanError : PySem.W.exmOne K (.ref (He.ga K "NoLetters")) (.ref (He.ga K "LeanError")) = some true
  ex_NoLine_LeanError : PySem.W.exmOne K (.ref (He.ga K "NoLine")) (.ref (He.ga K "LeanError")) = some true
  ex_NoMap_LeanError : PySem.W.exmOne K (.ref (He.ga K "NoMap")) (.ref (He.ga K "LeanError")) = some true
  ex_NoNaming_LeanError : PySem.W.exmOne K (.ref (He.ga K "NoNaming")) (.ref (He.ga K "LeanError")) = some true
  ex_NoPath_LeanError : PySem.W.exmOne K (.ref (He.ga K "NoPath")) (.ref (He.ga K "LeanError")) = some true
  ex_NoText_LeanError : PySem.W.exmOne K (.ref (He.ga K "NoText")) (.ref (He.ga K "LeanError")) = some true
  ex_NoTree_LeanError : PySem.W.exmOne K (.ref (He.ga K "NoTree")) (.ref (He.ga K "LeanError")) = some true
  ex_NoTurning_LeanError : PySem.W.exmOne K (.ref (He.ga K "NoTurning")) (.ref (He.ga K "LeanError")) = some true
  ex_TooMany_LeanError : PySem.W.exmOne K (.ref (He.ga K "TooMany")) (.ref (He.ga K "LeanError")) = some true
  m_Reader : mg "Reader" = some (.ref (He.ga K "Reader"))
  mk_Reader : Mk K (He.ga K "Reader") (He.ma K (He.ga K "Reader") "__init__")
  cl_Reader : Cls K (He.ga K "Reader")
  na_Reader_size : NoAttr K (He.ga K "Reader") "size"
  m_Trace : mg "Trace" = some (.ref (He.ga K "Trace"))
  mk_Trace : Mk K (He.ga K "Trace") (He.ma K (He.ga K "Trace") "__init__")
  cl_Trace : Cls K (He.ga K "Trace")
  kinds : Kinds K ["NoText", "NoTree", "NoPath", "NoNaming", "NoLetters", "NoCount", "NoTurning", "NoMap", "NoLine", "TooMany"]
  z_ArithmeticError : mg "ArithmeticError" = none
  z_LookupError : mg "LookupError" = none
  z_ValueError : mg "ValueError" = none
  z_all : mg "all" = none
  z_int : mg "int" = none
  z_isinstance : mg "isinstance" = none
  z_len : mg "len" = none
  z_min : mg "min" = none
  z_range : mg "range" = none
  z_str : mg "str" = none
  z_tuple : mg "tuple" = none
  z_zip : mg "zip" = none
  m_DOUBLE : mg "DOUBLE" = some (.ref (He.ga K "DOUBLE"))
  q_DOUBLE : ∀ H, SqT K H (He.ga K "DOUBLE") [.str "<=", .str ">=", .str "==", .str "!=", .str "&&", .str "||"]
  t_FIGURES : Tok
  m_FIGURES : mg "FIGURES" = some (.str "0123456789" t_FIGURES)
  m_KEPT : mg "KEPT" = some (.ref (He.ga K "KEPT"))
  q_KEPT : ∀ H, SqT K H (He.ga K "KEPT") [.str "let", .str "if", .str "else", .str "while", .str "return", .str "fail", .str "try", .str "catch", .str "out", .str "fn"]
  t_LEAST_LETTERS : Tok
  m_LEAST_LETTERS : mg "LEAST_LETTERS" = some (.int 2 t_LEAST_LETTERS)
  t_LETTERS : Tok
  m_LETTERS : mg "LETTERS" = some (.str "abcdefghijklmnopqrstuvwxyz" t_LETTERS)
  t_LONGEST : Tok
  m_LONGEST : mg "LONGEST" = some (.int 12 t_LONGEST)
  t_MOST_FIGURES : Tok
  m_MOST_FIGURES : mg "MOST_FIGURES" = some (.int 18 t_MOST_FIGURES)
  t_SINGLE : Tok
  m_SINGLE : mg "SINGLE" = some (.str "+-*/~<>!?:.,=(){}[];" t_SINGLE)
  t_SMALL : Tok
  m_SMALL : mg "SMALL" = some (.str "abcdefghijklmnopqrstuvwxyz" t_SMALL)


section
variable {P : Program} {w : World} {K : PySem.W.Frag} {mg : Str → Option Value} {base : Heap}
theorem ok_NoText_init (T : Env K mg) : FnOk P w K mg base CX0 1 (He.ma K (He.ga K "NoText") "__init__") T.fd_NoText_init ["self", "at"] (spInit (He.ga K "NoText") ["at"]) := by
  refine T.F_NoText_init.ok sc_NoText_init (fun vs H Q E h => ?_) (fun cdv A outer s H vs Q E hr h => ?_)
  · obtain ⟨a, ws, rfl, hl, _⟩ := h
    rw [List.length_cons, hl]
    rfl
  · have nd := sc_NoText_init.nd
    refine ⟨_, PSs.nox (pss_cons (ps_expr (pe_cinit T.ic_LeanError (by rfl) T.m_LeanError (pa_cons (pv 0) (pa_cons pe_str pa_nil))))
      (pss_one (ps_ost (pv 0) (pv 1)))), ?_⟩
    obtain ⟨a, ws, rfl, hl, e, h⟩ := h
    obtain ⟨v, rfl⟩ := List.length_eq_one_iff.mp hl
    refine ⟨_, rfl, a, He.ga K "NoText", _, rfl, by simp, T.o_NoText, e, ?_⟩
    refine ⟨_, rfl, _, rfl, a, He.ga K "NoText", rfl, T.o_NoText, T.na_NoText_at, .inl ⟨e, fun dx hdx nda => ?_⟩⟩
    exact h dx _ hdx nda upd_same (by rw [upd_ne nda]; exact upd_same) fun b n1 n2 => by rw [upd_ne n1, upd_ne n2]
/- run_end: 0 text 1 at 2 signs -/
def c_run_end : DC := (dSeq (dWhile (dAnd (dTb (dOp2 fLt (dVar 1) (dLenO 0))) (dTb (dOp2 fIn (dPk 0 (dVar 1)) (dVar 2)))) (dAug 1 aAdd (dC (.int 1))) FUEL)
  (dRet (dMov 1)))
def m_run_end : List D → Res Vl := mP 3 3 c_run_end
theorem ok_run_end (T : Env K mg) : FnOk P w K mg base (L2.CX P w) 1 (He.ga K "run_end") T.fd_run_end ["text", "at", "signs"] (spP K m_run_end) := by
  have h := okP (P := P) (w := w) (mg := mg) (base := base) (CX := (L2.CX P w)) (k := 0) T.F_run_end sc_run_end (fun cdv A outer s H E G hr => by
    have nd := sc_run_end.nd
    exact (d_seq (d_while (n := FUEL) (passes_of rfl) (PW.pt (dw_and (dt_cmp op_ltM lt_ok (d_v (pv 1)) (d_lenO (pv 0) (by rfl) T.z_len) (nomark _)) (dw_and1 (dt_cmp (oIn (K := K)) inn_ok (d_pk (pv 0) (d_v (pv 1)) (fun _ _ => rfl)) (d_v (pv 2)) (by rfl))))) (d_1 (d_aug (i := 1) ipAdd_ok nd rfl (Or.inl rfl) d_int ip_add)))
      (d_1 (d_ret (d_m (pv 1))))))
  exact h
/- stands_by: 0 text 1 at -/
def c_stands_by : DC := (dRet (dAndE (dOp2 fLt (dVar 1) (dLenO 0)) (dOp2 fIn (dPk 0 (dVar 1)) (dOp2 fAdd (dC (.str [97, 98, 99, 100, 101, 102, 103, 104, 105, 106, 107, 108, 109, 110, 111, 112, 113, 114, 115, 116, 117, 118, 119, 120, 121, 122])) (dC (.str [48, 49, 50, 51, 52, 53, 54, 55, 56, 57]))))))
def m_stands_by : List D → Res Vl := mP 2 2 c_stands_by
theorem ok_stands_by (T : Env K mg) : FnOk P w K mg base (L2.CX P w) 1 (He.ga K "stands_by") T.fd_stands_by ["text", "at"] (spP K m_stands_by) := by
  have h := okP (P := P) (w := w) (mg := mg) (base := base) (CX := (L2.CX P w)) (k := 0) T.F_stands_by sc_stands_by (fun cdv A outer s H E G hr => by
    have nd := sc_stands_by.nd
    exact (d_1 (d_ret (d_and (d_cmp op_ltM lt_ok (d_v (pv 1)) (d_lenO (pv 0) (by rfl) T.z_len) (nomark _)) (d_one (d_cmp (oIn (K := K)) inn_ok (d_pk (pv 0) (d_v (pv 1)) (fun _ _ => rfl)) (d_op2 (oAdd (K := K)) add_ok (d_glS (w := [97, 98, 99, 100, 101, 102, 103, 104, 105, 106, 107, 108, 109, 110, 111, 112, 113, 114, 115, 116, 117, 118, 119, 120, 121, 122]) (pe_glob (v := .str "abcdefghijklmnopqrstuvwxyz") rfl T.m_LETTERS ⟨_, rfl⟩) (by decide +kernel)) (d_glS (w := [48, 49, 50, 51, 52, 53, 54, 55, 56, 57]) (pe_glob (v := .str "0123456789") rfl T.m_FIGURES ⟨_, rfl⟩) (by decide +kernel))) (by rfl)))))))
  exact h
/- letters_end: 0 text 1 at 2 end -/
def c_letters_end : DC := (dSeq (dAsg (dCall m_run_end (dCons (dVar 0) (dCons (dVar 1) (dCons (dC (.str [97, 98, 99, 100, 101, 102, 103, 104, 105, 106, 107, 108, 109, 110, 111, 112, 113, 114, 115, 116, 117, 118, 119, 120, 121, 122])) dNil)))) (gN 2))
  (dSeq (dIf (dOr (dTb (dOp2 fGt (dOp2 (fI iSub) (dVar 2) (dVar 1)) (dC (.int 12)))) (dTe (dCall m_stands_by (dCons (dVar 0) (dCons (dVar 2) dNil))))) (dRaP "NoText" ["at"] (dCons (dVar 1) dNil)) dNx)
  (dRet (dMov 2))))
def m_letters_end : List D → Res Vl := mP 2 3 c_letters_end
theorem ok_letters_end (T : Env K mg) : FnOk P w K mg base (L2.CX P w) 3 (He.ga K "letters_end") T.fd_letters_end ["text", "at"] (spP K m_letters_end) := by
  have h := okP (P := P) (w := w) (mg := mg) (base := base) (CX := (L2.CX P w)) (k := 2) T.F_letters_end sc_letters_end (fun cdv A outer s H E G hr => by
    have nd := sc_letters_end.nd
    exact (d_seq (d_set (i := 2) nd rfl (Or.inl rfl) (d_call (ok_run_end T) (hr.mono (by decide)) (by rfl) T.m_run_end T.F_run_end.kp T.b_run_end (fun _ => pAt (passes_call (takes_of rfl rfl rfl rfl) (fun _ _ _ _ h => h))) (d_cons (d_v (pv 0)) (d_cons (d_v (pv 1)) (d_cons (d_glS (w := [97, 98, 99, 100, 101, 102, 103, 104, 105, 106, 107, 108, 109, 110, 111, 112, 113, 114, 115, 116, 117, 118, 119, 120, 121, 122]) (pe_glob (v := .str "abcdefghijklmnopqrstuvwxyz") rfl T.m_LETTERS ⟨_, rfl⟩) (by decide +kernel)) d_nil)))))
      (d_seq (d_ifS (PW.pt (dw_or (dt_cmp op_gtM gt_ok (d_op2 op_sub sub_ok (d_v (pv 2)) (d_v (pv 1))) (d_glI (pe_glob (v := .int 12) rfl T.m_LONGEST ⟨_, rfl⟩)) (nomark _)) (dw_or1 (dt_tru (d_call (ok_stands_by T) (hr.mono (by decide)) (by rfl) T.m_stands_by T.F_stands_by.kp T.b_stands_by (fun _ => pAt (passes_call (takes_of rfl rfl rfl rfl) (fun _ _ _ _ h => h))) (d_cons (d_v (pv 0)) (d_cons (d_v (pv 2)) d_nil))))))) (d_1 (d_raP (c := "NoText") (ns := ["at"]) rfl (takes_of rfl rfl rfl rfl) (cm_O T.o_NoText T.i_NoText T.t_NoText (ok_NoText_init T) hr (T.kb_NoText_1).choose_spec pass0) rfl (fun _ xs h => match xs, h with | [_], _ => rfl) (by rfl) T.m_NoText T.k_NoText (d_cons (d_v (pv 1)) d_nil))) d_pnil)
      (d_1 (d_ret (d_m (pv 2)))))))
  exact h
/- noughts_at: 0 text 1 at 2 figures -/
def c_noughts_at : DC := (dSeq (dIf (dTb (dOp2 fNe (dSl (dVar 0) (dOs (dVar 1)) (dOs (dOp2 fAdd (dVar 1) (dC (.int 1))))) (dC (.str [101])))) (dRet (dC (.str []))) dNx)
  (dSeq (dAsg (dSl (dVar 0) (dOs (dOp2 fAdd (dVar 1) (dC (.int 1)))) (dOs (dOpN fMin2 (dCons (dOp2 fAdd (dVar 1) (dC (.int 3))) (dCons (dCall m_run_end (dCons (dVar 0) (dCons (dOp2 fAdd (dVar 1) (dC (.int 1))) (dCons (dC (.str [48, 49, 50, 51, 52, 53, 54, 55, 56, 57])) dNil)))) dNil))))) (gN 2))
  (dSeq (dIf (dTb (dOp2 fIn (dSl (dVar 2) dOn (dOs (dC (.int 1)))) (dOpN fTup (dCons (dC (.str [])) (dCons (dC (.str [48])) dNil))))) (dRet (dC (.str []))) dNx)
  (dRet (dMov 2)))))
def m_noughts_at : List D → Res Vl := mP 2 3 c_noughts_at
theorem ok_noughts_at (T : Env K mg) : FnOk P w K mg base (L2.CX P w) 2 (He.ga K "noughts_at") T.fd_noughts_at ["text", "at"] (spP K m_noughts_at) := by
  have h := okP (P := P) (w := w) (mg := mg) (base := base) (CX := (L2.CX P w)) (k := 1) T.F_noughts_at sc_noughts_at (fun cdv A outer s H E G hr => by
    have nd := sc_noughts_at.nd
    exact (d_seq (d_ifS (dt_cmp (oNe (K := K) hr.units) ne_ok (d_sl (d_v (pv 0)) (do_s (d_v (pv 1))) (do_s (d_op2 (oAdd (K := K)) add_ok (d_v (pv 1)) d_int))) (d_str (w := [101]) (by decide +kernel)) (nomark _)) (d_1 (d_ret (d_str (w := []) (by decide +kernel)))) d_pnil)
      (d_seq (d_set (i := 2) nd rfl (Or.inl rfl) (d_sl (d_v (pv 0)) (do_s (d_op2 (oAdd (K := K)) add_ok (d_v (pv 1)) d_int)) (do_s (d_b (cMin rfl) min2_ok (by rfl) T.z_min (by decide +kernel) (d_cons (d_op2 (oAdd (K := K)) add_ok (d_v (pv 1)) d_int) (d_cons (d_call (ok_run_end T) hr (by rfl) T.m_run_end T.F_run_end.kp T.b_run_end (fun _ => pAt (passes_call (takes_of rfl rfl rfl rfl) (fun _ _ _ _ h => h))) (d_cons (d_v (pv 0)) (d_cons (d_op2 (oAdd (K := K)) add_ok (d_v (pv 1)) d_int) (d_cons (d_glS (w := [48, 49, 50, 51, 52, 53, 54, 55, 56, 57]) (pe_glob (v := .str "0123456789") rfl T.m_FIGURES ⟨_, rfl⟩) (by decide +kernel)) d_nil)))) d_nil))))))
      (d_seq (d_ifS (dt_cmp (oIn (K := K)) inn_ok (d_sl (d_v (pv 2)) do_n (do_s d_int)) (d_tup (d_cons (d_str (w := []) (by decide +kernel)) (d_cons (d_str (w := [48]) (by decide +kernel)) d_nil))) (by rfl)) (d_1 (d_ret (d_str (w := []) (by decide +kernel)))) d_pnil)
      (d_1 (d_ret (d_m (pv 2))))))))
  exact h
/- figures_end: 0 text 1 at 2 end 3 many 4 noughts -/
def c_figures_end : DC := (dSeq (dAsg (dCall m_run_end (dCons (dVar 0) (dCons (dVar 1) (dCons (dC (.str [48, 49, 50, 51, 52, 53, 54, 55, 56, 57])) dNil)))) (gN 2))
  (dSeq (dIf (dTb (dOp2 fEq (dPk 0 (dVar 1)) (dC (.str [48])))) (dAsg (dOp2 fAdd (dVar 1) (dC (.int 1))) (gN 2)) dNx)
  (dSeq (dAsg (dOp2 (fI iSub) (dVar 2) (dVar 1)) (gN 3))
  (dSeq (dAsg (dCall m_noughts_at (dCons (dVar 0) (dCons (dVar 2) dNil))) (gN 4))
  (dSeq (dIf (dAnd (dTb (dOp2 fNe (dVar 4) (dC (.str [])))) (dTb (dOp2 fNe (dPk 0 (dVar 1)) (dC (.str [48]))))) (dSeq (dAug 3 aAdd (dOpN fInt (dCons (dVar 4) dNil)))
  (dAug 2 aAdd (dOp2 fAdd (dC (.int 1)) (dLenO 4)))) dNx)
  (dSeq (dIf (dOr (dTb (dOp2 fGt (dVar 3) (dC (.int 18)))) (dTe (dCall m_stands_by (dCons (dVar 0) (dCons (dVar 2) dNil))))) (dRaP "NoText" ["at"] (dCons (dVar 1) dNil)) dNx)
  (dRet (dMov 2))))))))
def m_figures_end : List D → Res Vl := mP 2 5 c_figures_end
theorem ok_figures_end (T : Env K mg) : FnOk P w K mg base (L2.CX P w) 3 (He.ga K "figures_end") T.fd_figures_end ["text", "at"] (spP K m_figures_end) := by
  have h := okP (P := P) (w := w) (mg := mg) (base := base) (CX := (L2.CX P w)) (k := 2) T.F_figures_end sc_figures_end (fun cdv A outer s H E G hr => by
    have nd := sc_figures_end.nd
    exact (d_seq (d_set (i := 2) nd rfl (Or.inl rfl) (d_call (ok_run_end T) (hr.mono (by decide)) (by rfl) T.m_run_end T.F_run_end.kp T.b_run_end (fun _ => pAt (passes_call (takes_of rfl rfl rfl rfl) (fun _ _ _ _ h => h))) (d_cons (d_v (pv 0)) (d_cons (d_v (pv 1)) (d_cons (d_glS (w := [48, 49, 50, 51, 52, 53, 54, 55, 56, 57]) (pe_glob (v := .str "0123456789") rfl T.m_FIGURES ⟨_, rfl⟩) (by decide +kernel)) d_nil)))))
      (d_seq (d_ifS (dt_cmp (oEq (K := K) hr.units) eq_ok (d_pk (pv 0) (d_v (pv 1)) (fun _ _ => rfl)) (d_str (w := [48]) (by decide +kernel)) (nomark _)) (d_1 (d_set (i := 2) nd rfl (Or.inl rfl) (d_op2 (oAdd (K := K)) add_ok (d_v (pv 1)) d_int))) d_pnil)
      (d_seq (d_set (i := 3) nd rfl (Or.inl rfl) (d_op2 op_sub sub_ok (d_v (pv 2)) (d_v (pv 1))))
      (d_seq (d_set (i := 4) nd rfl (Or.inl rfl) (d_call (ok_noughts_at T) hr (by rfl) T.m_noughts_at T.F_noughts_at.kp T.b_noughts_at (fun _ => pAt (passes_call (takes_of rfl rfl rfl rfl) (fun _ _ _ _ h => h))) (d_cons (d_v (pv 0)) (d_cons (d_v (pv 2)) d_nil))))
      (d_seq (d_ifS (PW.pt (dw_and (dt_cmp (oNe (K := K) hr.units) ne_ok (d_v (pv 4)) (d_str (w := []) (by decide +kernel)) (nomark _)) (dw_and1 (dt_cmp (oNe (K := K) hr.units) ne_ok (d_pk (pv 0) (d_v (pv 1)) (fun _ _ => rfl)) (d_str (w := [48]) (by decide +kernel)) (nomark _))))) (d_seq (d_aug (i := 3) ipAdd_ok nd rfl (Or.inl rfl) (d_ty cIntS int_ok (by rfl) T.z_int (by decide +kernel) (d_cons (d_v (pv 4)) d_nil)) ip_add)
      (d_1 (d_aug (i := 2) ipAdd_ok nd rfl (Or.inl rfl) (d_op2 (oAdd (K := K)) add_ok d_int (d_lenO (pv 4) (by rfl) T.z_len)) ip_add))) d_pnil)
      (d_seq (d_ifS (PW.pt (dw_or (dt_cmp op_gtM gt_ok (d_v (pv 3)) (d_glI (pe_glob (v := .int 18) rfl T.m_MOST_FIGURES ⟨_, rfl⟩)) (nomark _)) (dw_or1 (dt_tru (d_call (ok_stands_by T) (hr.mono (by decide)) (by rfl) T.m_stands_by T.F_stands_by.kp T.b_stands_by (fun _ => pAt (passes_call (takes_of rfl rfl rfl rfl) (fun _ _ _ _ h => h))) (d_cons (d_v (pv 0)) (d_cons (d_v (pv 2)) d_nil))))))) (d_1 (d_raP (c := "NoText") (ns := ["at"]) rfl (takes_of rfl rfl rfl rfl) (cm_O T.o_NoText T.i_NoText T.t_NoText (ok_NoText_init T) hr (T.kb_NoText_1).choose_spec pass0) rfl (fun _ xs h => match xs, h with | [_], _ => rfl) (by rfl) T.m_NoText T.k_NoText (d_cons (d_v (pv 1)) d_nil))) d_pnil)
      (d_1 (d_ret (d_m (pv 2)))))))))))
  exact h
/- word_at: 0 text 1 at 2 sign 3 word -/
def c_word_at : DC := (dSeq (dAsg (dPk 0 (dVar 1)) (gN 2))
  (dSeq (dIf (dTb (dOp2 fIn (dVar 2) (dC (.str [97, 98, 99, 100, 101, 102, 103, 104, 105, 106, 107, 108, 109, 110, 111, 112, 113, 114, 115, 116, 117, 118, 119, 120, 121, 122])))) (dSeq (dAsg (dSl (dVar 0) (dOs (dVar 1)) (dOs (dCall m_letters_end (dCons (dVar 0) (dCons (dVar 1) dNil))))) (gN 3))
  (dSeq (dIf (dTb (dOp2 fIn (dVar 3) (dC (.tup (List.map .str [[108, 101, 116], [105, 102], [101, 108, 115, 101], [119, 104, 105, 108, 101], [114, 101, 116, 117, 114, 110], [102, 97, 105, 108], [116, 114, 121], [99, 97, 116, 99, 104], [111, 117, 116], [102, 110]]))))) (dRet (dOpN fTup (dCons (dC (.str [107, 101, 112, 116])) (dCons (dVar 3) dNil)))) dNx)
  (dRet (dOpN fTup (dCons (dC (.str [110, 97, 109, 101])) (dCons (dVar 3) dNil)))))) dNx)
  (dSeq (dIf (dTb (dOp2 fIn (dVar 2) (dC (.str [48, 49, 50, 51, 52, 53, 54, 55, 56, 57])))) (dRet (dOpN fTup (dCons (dC (.str [110, 117, 109, 98, 101, 114])) (dCons (dSl (dVar 0) (dOs (dVar 1)) (dOs (dCall m_figures_end (dCons (dVar 0) (dCons (dVar 1) dNil))))) dNil)))) dNx)
  (dSeq (dIf (dTb (dOp2 fIn (dSl (dVar 0) (dOs (dVar 1)) (dOs (dOp2 fAdd (dVar 1) (dC (.int 2))))) (dC (.tup (List.map .str [[60, 61], [62, 61], [61, 61], [33, 61], [38, 38], [124, 124]]))))) (dRet (dOpN fTup (dCons (dC (.str [115, 105, 103, 110])) (dCons (dSl (dVar 0) (dOs (dVar 1)) (dOs (dOp2 fAdd (dVar 1) (dC (.int 2))))) dNil)))) dNx)
  (dSeq (dIf (dTb (dOp2 fIn (dVar 2) (dC (.str [43, 45, 42, 47, 126, 60, 62, 33, 63, 58, 46, 44, 61, 40, 41, 123, 125, 91, 93, 59])))) (dRet (dOpN fTup (dCons (dC (.str [115, 105, 103, 110])) (dCons (dVar 2) dNil)))) dNx)
  (dRaP "NoText" ["at"] (dCons (dVar 1) dNil)))))))
def m_word_at : List D → Res Vl := mP 2 4 c_word_at
theorem ok_word_at (T : Env K mg) : FnOk P w K mg base (L2.CX P w) 4 (He.ga K "word_at") T.fd_word_at ["text", "at"] (spP K m_word_at) := by
  have h := okP (P := P) (w := w) (mg := mg) (base := base) (CX := (L2.CX P w)) (k := 3) T.F_word_at sc_word_at (fun cdv A outer s H E G hr => by
    have nd := sc_word_at.nd
    exact (d_seq (d_set (i := 2) nd rfl (Or.inl rfl) (d_pk (pv 0) (d_v (pv 1)) (fun _ _ => rfl)))
      (d_seq (d_ifS (dt_cmp (oIn (K := K)) inn_ok (d_v (pv 2)) (d_glS (w := [97, 98, 99, 100, 101, 102, 103, 104, 105, 106, 107, 108, 109, 110, 111, 112, 113, 114, 115, 116, 117, 118, 119, 120, 121, 122]) (pe_glob (v := .str "abcdefghijklmnopqrstuvwxyz") rfl T.m_LETTERS ⟨_, rfl⟩) (by decide +kernel)) (by rfl)) (d_seq (d_set (i := 3) nd rfl (Or.inl rfl) (d_sl (d_v (pv 0)) (do_s (d_v (pv 1))) (do_s (d_call (ok_letters_end T) hr (by rfl) T.m_letters_end T.F_letters_end.kp T.b_letters_end (fun _ => pAt (passes_call (takes_of rfl rfl rfl rfl) (fun _ _ _ _ h => h))) (d_cons (d_v (pv 0)) (d_cons (d_v (pv 1)) d_nil))))))
      (d_seq (d_ifS (dt_cmp (oIn (K := K)) inn_ok (d_v (pv 3)) (d_glT (ws := [[108, 101, 116], [105, 102], [101, 108, 115, 101], [119, 104, 105, 108, 101], [114, 101, 116, 117, 114, 110], [102, 97, 105, 108], [116, 114, 121], [99, 97, 116, 99, 104], [111, 117, 116], [102, 110]]) (pe_glob (v := .ref (He.ga K "KEPT")) rfl T.m_KEPT rfl) T.q_KEPT (by decide +kernel)) (by rfl)) (d_1 (d_ret (d_tup (d_cons (d_str (w := [107, 101, 112, 116]) (by decide +kernel)) (d_cons (d_v (pv 3)) d_nil))))) d_pnil)
      (d_1 (d_ret (d_tup (d_cons (d_str (w := [110, 97, 109, 101]) (by decide +kernel)) (d_cons (d_v (pv 3)) d_nil))))))) d_pnil)
      (d_seq (d_ifS (dt_cmp (oIn (K := K)) inn_ok (d_v (pv 2)) (d_glS (w := [48, 49, 50, 51, 52, 53, 54, 55, 56, 57]) (pe_glob (v := .str "0123456789") rfl T.m_FIGURES ⟨_, rfl⟩) (by decide +kernel)) (by rfl)) (d_1 (d_ret (d_tup (d_cons (d_str (w := [110, 117, 109, 98, 101, 114]) (by decide +kernel)) (d_cons (d_sl (d_v (pv 0)) (do_s (d_v (pv 1))) (do_s (d_call (ok_figures_end T) hr (by rfl) T.m_figures_end T.F_figures_end.kp T.b_figures_end (fun _ => pAt (passes_call (takes_of rfl rfl rfl rfl) (fun _ _ _ _ h => h))) (d_cons (d_v (pv 0)) (d_cons (d_v (pv 1)) d_nil))))) d_nil))))) d_pnil)
      (d_seq (d_ifS (dt_cmp (oIn (K := K)) inn_ok (d_sl (d_v (pv 0)) (do_s (d_v (pv 1))) (do_s (d_op2 (oAdd (K := K)) add_ok (d_v (pv 1)) d_int))) (d_glT (ws := [[60, 61], [62, 61], [61, 61], [33, 61], [38, 38], [124, 124]]) (pe_glob (v := .ref (He.ga K "DOUBLE")) rfl T.m_DOUBLE rfl) T.q_DOUBLE (by decide +kernel)) (by rfl)) (d_1 (d_ret (d_tup (d_cons (d_str (w := [115, 105, 103, 110]) (by decide +kernel)) (d_cons (d_sl (d_v (pv 0)) (do_s (d_v (pv 1))) (do_s (d_op2 (oAdd (K := K)) add_ok (d_v (pv 1)) d_int))) d_nil))))) d_pnil)
      (d_seq (d_ifS (dt_cmp (oIn (K := K)) inn_ok (d_v (pv 2)) (d_glS (w := [43, 45, 42, 47, 126, 60, 62, 33, 63, 58, 46, 44, 61, 40, 41, 123, 125, 91, 93, 59]) (pe_glob (v := .str "+-*/~<>!?:.,=(){}[];") rfl T.m_SINGLE ⟨_, rfl⟩) (by decide +kernel)) (by rfl)) (d_1 (d_ret (d_tup (d_cons (d_str (w := [115, 105, 103, 110]) (by decide +kernel)) (d_cons (d_v (pv 2)) d_nil))))) d_pnil)
      (d_1 (d_raP (c := "NoText") (ns := ["at"]) rfl (takes_of rfl rfl rfl rfl) (cm_O T.o_NoText T.i_NoText T.t_NoText (ok_NoText_init T) (hr.mono (by decide)) (T.kb_NoText_1).choose_spec pass0) rfl (fun _ xs h => match xs, h with | [_], _ => rfl) (by rfl) T.m_NoText T.k_NoText (d_cons (d_v (pv 1)) d_nil)))))))))
  exact h
/- words: 0 text 1 found 2 at 3 sort 4 word -/
def c_words : DC := (dSeq (dAsg (dOpN fLst dNil) (gN 1))
  (dSeq (dAsg (dC (.int 0)) (gN 2))
  (dSeq (dWhile (dTb (dOp2 fLt (dVar 2) (dLenO 0))) (dIf (dTb (dOp2 fIn (dPk 0 (dVar 2)) (dC (.str [32, 10])))) (dAug 2 aAdd (dC (.int 1))) (dSeq (dAsg (dCall m_word_at (dCons (dVar 0) (dCons (dVar 2) dNil))) (gW 2 (gP (gN 3) (gP (gN 4) gE))))
  (dSeq (dDrop (dApp 1 (dOpN fTup (dCons (dVar 3) (dCons (dVar 4) (dCons (dVar 2) dNil))))))
  (dAug 2 aAdd (dLenO 4))))) FUEL)
  (dRet (dMov 1)))))
def m_words : List D → Res Vl := mP 1 5 c_words
theorem ok_words (T : Env K mg) : FnOk P w K mg base (L2.CX P w) 5 (He.ga K "words") T.fd_words ["text"] (spP K m_words) := by
  have h := okP (P := P) (w := w) (mg := mg) (base := base) (CX := (L2.CX P w)) (k := 4) T.F_words sc_words (fun cdv A outer s H E G hr => by
    have nd := sc_words.nd
    exact (d_seq (d_set (i := 1) nd rfl (Or.inl rfl) (d_lst d_nil))
      (d_seq (d_set (i := 2) nd rfl (Or.inl rfl) d_int)
      (d_seq (d_while (n := FUEL) (passes_of rfl) (dt_cmp op_ltM lt_ok (d_v (pv 2)) (d_lenO (pv 0) (by rfl) T.z_len) (nomark _)) (d_1 (d_ifS (dt_cmp (oIn (K := K)) inn_ok (d_pk (pv 0) (d_v (pv 2)) (fun _ _ => rfl)) (d_str (w := [32, 10]) (by decide +kernel)) (by rfl)) (d_1 (d_aug (i := 2) ipAdd_ok nd rfl (Or.inl rfl) d_int ip_add)) (d_seq (d_asg (d_call (ok_word_at T) hr (by rfl) T.m_word_at T.F_word_at.kp T.b_word_at (fun _ => pAt (passes_call (takes_of rfl rfl rfl rfl) (fun _ _ _ _ h => h))) (d_cons (d_v (pv 0)) (d_cons (d_v (pv 2)) d_nil))) (g_w (n := 2) rfl (g_p (g_n (pg_name (i := 3) nd rfl (Or.inl rfl))) (g_p (g_n (pg_name (i := 4) nd rfl (Or.inl rfl))) (g_e pgs_nil)))))
      (d_seq (d_expr (d_app (pv 1) (d_tup (d_cons (d_v (pv 3)) (d_cons (d_v (pv 4)) (d_cons (d_v (pv 2)) d_nil))))))
      (d_1 (d_aug (i := 2) ipAdd_ok nd rfl (Or.inl rfl) (d_lenO (pv 4) (by rfl) T.z_len) ip_add)))))))
      (d_1 (d_ret (d_m (pv 1))))))))
  exact h

/-! Reader(text), where the words refuse -/
def m_Reader_init : List D → Res Vl
  | [.str t] => if t.length ≤ sizeLine then (match m_words [.str t] with
    | .err c fs => .err c fs
    | _ => .bad) else .bad
  | _ => .bad
theorem reader_err {ds : List D} {c : Str} {fs : List (Str × D)} (h : m_Reader_init ds = .err c fs) : ∃ t, ds = [.str t] ∧ t.length ≤ sizeLine ∧ m_words [.str t] = .err c fs := by
  unfold m_Reader_init at h
  split at h
  · rename_i t
    split at h
    · rename_i hz
      split at h
      · rename_i em
        exact ⟨t, rfl, hz, em.trans h⟩
      · cases h
    · cases h
  · cases h
theorem ok_Reader_init (T : Env K mg) : FnOk P w K mg base (L2.CX P w) 6 (He.ma K (He.ga K "Reader") "__init__") T.fd_Reader_init ["self", "text"] (spXC K (He.ga K "Reader") m_Reader_init) := by
  refine T.F_Reader_init.ok sc_Reader_init (fun vs H Q E h => ?_) (fun cdv A outer s H vs Q E hr h => ?_)
  · exact spXC_len (n := 1) h fun ds hl => by
      unfold m_Reader_init
      split
      · exact absurd rfl hl
      · rfl
  · have nd := sc_Reader_init.nd
    refine ⟨_, pss_cons (ps_fld (pv 0) (pe_callB (cLen (K := K) rfl) (by rfl) T.z_len (by decide +kernel) (pa_cons (pv 1) pa_nil) (by decide) (by decide) (by rfl) (by rfl)) (by rfl)) (pss_cons (ps_fld (pv 0) (pe_callSD (E := fun _ => E) (ok_words T) hr (by rfl) T.m_words T.F_words.kp T.b_words .nil (fun _ => pAt (passes_call (takes_of rfl rfl rfl rfl) (fun _ _ _ _ h => h))) (pa_cons (pv 1) pa_nil)) (by rfl)) pss_never), ?_⟩
    obtain ⟨H0, G, x, ws, dx, ds, rfl, sm, nx, hx, sg, k, h⟩ := h
    cases em : m_Reader_init ds with
    | bad => rw [em] at h; exact h.elim
    | ok r => rw [em] at h; exact h.elim
    | err c fs =>
      rw [em] at h
      obtain ⟨t, rfl, hz, ew⟩ := reader_err em
      obtain ⟨v, rfl, kv⟩ := den1 k
      have hl : fLen [.str t] = some (.fz (.int (t.length : Nat))) := f_lenS.trans (if_pos hz)
      refine ⟨v, rfl, ?_⟩
      dsimp only [tNil]
      refine len_ok G _ _ _ _ _ (L2.Same.trans sg sm) (.cons kv .nil) hl fun y G1 H1 g den => ?_
      refine ⟨.ref x, rfl, x, He.ga K "Reader", dx, [], rfl, g.h _ _ hx, T.cl_Reader, T.na_Reader_size, by decide, ?_⟩
      have gx : G1 x = none := g.n x _ hx (by
        cases e : G x with
        | none => rfl
        | some u => rw [sg x u e] at nx; cases nx)
      have bt : But x H1 (upd H1 x (.ins (He.ga K "Reader") dx (putF "size" y []))) := fun a u n e => by rw [upd_ne n]; exact e
      refine ⟨v, rfl, G1, [.str t], same_but g.gh gx bt, .cons (kv.same g.g) .nil, ?_⟩
      rw [ew]
      refine fun cls dd G' H' g2 xa => h cls dd G' H' ⟨L2.Same.trans g.g g2.g, fun a u e => g2.h _ _ (bt a u (fun z => by rw [z, nx] at e; cases e) (g.h _ _ (sm _ _ e))), g2.gh, fun a o e1 e2 => ?_⟩ xa
      have ne : a ≠ x := fun z => by rw [z, nx] at e1; cases e1
      exact g2.n a o (bt a o ne (g.h _ _ (sm _ _ e1))) (g.n a o (sm _ _ e1) e2)
/- statements_in: 0 text 1 reader 2 found -/
def c_statements_in : DC := (dSeq (dAsg (dMakeX m_Reader_init (dCons (dVar 0) dNil)) (gN 1))
  (dSeq (dAsg (dOpN fLst dNil) (gN 2))
  dBad))
def m_statements_in : List D → Res Vl := mP 1 3 c_statements_in
theorem ok_statements_in (T : Env K mg) : FnOk P w K mg base (L2.CX P w) 8 (He.ga K "statements_in") T.fd_statements_in ["text"] (spP K m_statements_in) := by
  have h := okP (P := P) (w := w) (mg := mg) (base := base) (CX := (L2.CX P w)) (k := 7) T.F_statements_in sc_statements_in (fun cdv A outer s H E G hr => by
    have nd := sc_statements_in.nd
    exact (d_seq (d_set (i := 1) nd rfl (Or.inl rfl) (d_makeX T.mk_Reader (ok_Reader_init T) hr (by rfl) T.m_Reader T.b_Reader_init (fun _ => pAt (passes_call (takes_of rfl rfl rfl rfl) (fun _ _ _ _ h => h))) (d_cons (d_v (pv 0)) d_nil)))
      (d_seq (d_set (i := 2) nd rfl (Or.inl rfl) (d_lst d_nil))
      d_bad)))
  exact h
def m_things : List D → Res Vl := fun _ => .bad
theorem ok_things (T : Env K mg) : FnOk P w K mg base (L2.CX P w) 1 (He.ga K "things") T.fd_things ["nodes"] (spP K m_things) := ok_bad rfl
/- read: 0 text 1 found -/
def c_read : DC := (dSeq (dAsg (dCall m_things (dCons (dOp2 fIx (dCall m_statements_in (dCons (dVar 0) dNil)) (dC (.int 0))) dNil)) (gN 1))
  dBad)
def m_read : List D → Res Vl := mP 1 2 c_read
theorem ok_read (T : Env K mg) : FnOk P w K mg base (L2.CX P w) 9 (He.ga K "read") T.fd_read ["text"] (spP K m_read) := by
  have h := okP (P := P) (w := w) (mg := mg) (base := base) (CX := (L2.CX P w)) (k := 8) T.F_read sc_read (fun cdv A outer s H E G hr => by
    have nd := sc_read.nd
    exact (d_seq (d_set (i := 1) nd rfl (Or.inl rfl) (d_call (ok_things T) (hr.mono (by decide)) (by rfl) T.m_things T.F_things.kp T.b_things (fun _ => pAt (passes_call (takes_of rfl rfl rfl rfl) (fun _ _ _ _ h => h))) (d_cons (d_ix (ixM (K := K)) ix_ok (d_call (ok_statements_in T) hr (by rfl) T.m_statements_in T.F_statements_in.kp T.b_statements_in (fun _ => pAt (passes_call (takes_of rfl rfl rfl rfl) (fun _ _ _ _ h => h))) (d_cons (d_v (pv 0)) d_nil)) d_int (fun _ _ => rfl)) d_nil)))
      d_bad))
  exact h
/- spots: 0 text 1 told 2 found 3 some 4 at 5 node -/
def c_spots : DC := (dSeq (dAsg (dCall m_statements_in (dCons (dVar 0) dNil)) (gW 2 (gP (gN 2) (gP (gN 3) gE))))
  dBad)
def m_spots : List D → Res Vl := mP 1 6 c_spots
theorem ok_spots (T : Env K mg) : FnOk P w K mg base (L2.CX P w) 9 (He.ga K "spots") T.fd_spots ["text"] (spP K m_spots) := by
  have h := okP (P := P) (w := w) (mg := mg) (base := base) (CX := (L2.CX P w)) (k := 8) T.F_spots sc_spots (fun cdv A outer s H E G hr => by
    have nd := sc_spots.nd
    exact (d_seq (d_asg (d_call (ok_statements_in T) hr (by rfl) T.m_statements_in T.F_statements_in.kp T.b_statements_in (fun _ => pAt (passes_call (takes_of rfl rfl rfl rfl) (fun _ _ _ _ h => h))) (d_cons (d_v (pv 0)) d_nil)) (g_w (n := 2) rfl (g_p (g_n (pg_name (i := 2) nd rfl (Or.inl rfl))) (g_p (g_n (pg_name (i := 3) nd rfl (Or.inl rfl))) (g_e pgs_nil)))))
      d_bad))
  exact h

/-! Trace(text), where read refuses -/
def m_Trace_init : List D → Res Vl
  | [d] => (match m_read [d] with
    | .err c fs => .err c fs
    | _ => .bad)
  | _ => .bad
theorem trace_err {ds : List D} {c : Str} {fs : List (Str × D)} (h : m_Trace_init ds = .err c fs) : ∃ d, ds = [d] ∧ m_read [d] = .err c fs := by
  unfold m_Trace_init at h
  split at h
  · rename_i d
    split at h
    · rename_i em
      exact ⟨d, rfl, em.trans h⟩
    · cases h
  · cases h
theorem ok_Trace_init (T : Env K mg) : FnOk P w K mg base (L2.CX P w) 10 (He.ma K (He.ga K "Trace") "__init__") T.fd_Trace_init ["self", "text"] (spXC K (He.ga K "Trace") m_Trace_init) := by
  refine T.F_Trace_init.ok sc_Trace_init (fun vs H Q E h => ?_) (fun cdv A outer s H vs Q E hr h => ?_)
  · exact spXC_len (n := 1) h fun ds hl => by
      unfold m_Trace_init
      split
      · exact absurd rfl hl
      · rfl
  · have nd := sc_Trace_init.nd
    refine ⟨_, pss_cons (ps_fld (pv 0) (pe_callSD (E := fun _ => E) (ok_read T) hr (by rfl) T.m_read T.F_read.kp T.b_read .nil (fun _ => pAt (passes_call (takes_of rfl rfl rfl rfl) (fun _ _ _ _ h => h))) (pa_cons (pv 1) pa_nil)) (by rfl)) pss_never, ?_⟩
    obtain ⟨H0, G, x, ws, dx, ds, rfl, sm, nx, hx, sg, k, h⟩ := h
    cases em : m_Trace_init ds with
    | bad => rw [em] at h; exact h.elim
    | ok r => rw [em] at h; exact h.elim
    | err c fs =>
      rw [em] at h
      obtain ⟨t, rfl, ew⟩ := trace_err em
      obtain ⟨v, rfl, kv⟩ := den1 k
      refine ⟨v, rfl, G, [t], L2.Same.trans sg sm, .cons kv .nil, ?_⟩
      rw [ew]
      refine fun cls dd G' H' g2 xa => h cls dd G' H' ⟨g2.g, L2.Same.trans sm g2.h, g2.gh, fun a o e1 e2 => g2.n a o (sm _ _ e1) e2⟩ xa
/-! look_at_letters of good letters -/
abbrev toS' (w : List Nat) : Str := ⟨w.toArray⟩
def GoodS (z : Str) : Prop := K40.Good z.cps.toList
def sp_look_at_letters : Sp := fun vs H Q _ => ∃ z : Str, vs = [.str z] ∧ GoodS z ∧ ∀ H', Same H H' → Q .non H'
theorem filterMap_const {α : Type} (v : α) : ∀ n, (List.range n).filterMap (fun _ => some v) = List.replicate n v := by
  intro n
  rw [show (fun _ : Nat => some v) = some ∘ (fun _ : Nat => v) from rfl, List.filterMap_eq_map, List.map_const', List.length_range]
theorem ok0_look (T : Env K mg) : FnOk P w K mg base (L2.CX P w) 1 (He.ga K "look_at_letters") T.fd_look_at_letters ["letters"] sp_look_at_letters := by
  refine T.F_look_at_letters.ok sc_look_at_letters (fun vs H Q E h => ?_) (fun cdv A outer s H vs Q E hr h => ?_)
  · obtain ⟨z, rfl, _⟩ := h
    rfl
  · obtain ⟨z, rfl, G, h⟩ := h
    have nd := sc_look_at_letters.nd
    refine ⟨_, PSs.nox (pss_cons (ps_if (PW.pt (pw_or (pt_not (ptT (K := K) (pe_callB (cIsi (K := K)) (by rfl) T.z_isinstance (by decide +kernel) (pa_cons (pv 0) (pa_cons (pe_bltn (v := .ty "str") (u := .type "str") rfl T.z_str (by decide +kernel) rfl) pa_nil))))) (pw_or1 (pt_not (pt_chain op_leM op_leM (pe_glob (v := .int 2) rfl T.m_LEAST_LETTERS ⟨_, rfl⟩) (pe_callB (cLen (K := K)) (by rfl) T.z_len (by decide +kernel) (pa_cons (pv 0) pa_nil)) (pe_callB (cLen (K := K)) (by rfl) T.z_len (by decide +kernel) (pa_cons (pe_glob (v := .str "abcdefghijklmnopqrstuvwxyz") rfl T.m_SMALL ⟨_, rfl⟩) pa_nil))))))) (pss_one ps_never) pss_nil)
      (pss_one (ps_if (PW.pt (pw_or (pt_not (ptT (K := K) (pe_callB (cAll (K := K) rfl) (by rfl) T.z_all (by decide +kernel) (pa_cons (pe_lc (own := [("letter", 1)]) (g := (gName 1)) rfl nd (piAny (K := K) (pv 0)) (blkOk_by (own := [("letter", 1)]) (N := N_look_at_letters) (sc := defScope s_look_at_letters) (by decide +kernel)) (fun _ _ _ _ _ => (pg_name (i := 1) nd rfl (Or.inl rfl))) (fun _ _ _ _ _ => pts_nil) (fun _ _ _ _ _ => (pe_cmpR (oIn (K := K)) (pv 1) (pe_glob (v := .str "abcdefghijklmnopqrstuvwxyz") rfl T.m_SMALL ⟨_, rfl⟩) (by rfl)))) pa_nil)))) (pw_or1 (pt_cmpR op_ltM (pe_callB call_lenK (by rfl) T.z_len (by decide +kernel) (pa_cons (pe_scK (own := [("letter", 1)]) (g := (gName 1)) rfl nd (piAny (K := K) (pv 0)) (blkOk_by (own := [("letter", 1)]) (N := N_look_at_letters) (sc := defScope s_look_at_letters) (by decide +kernel)) (fun _ _ _ _ _ => (pg_name (i := 1) nd rfl (Or.inl rfl))) (fun _ _ _ _ _ => pts_nil) (fun _ _ _ _ _ => (pv 1))) pa_nil)) (pe_callB (cLen (K := K)) (by rfl) T.z_len (by decide +kernel) (pa_cons (pv 0) pa_nil)) (nomark _))))) (pss_one ps_never) pss_nil))), ?_⟩
    have hl : z.length = z.cps.toList.length := by simp [Str.length]
    have h1 := G.lo
    have h2 := G.hi
    have hsz : z.length ≤ sizeLine := Nat.le_trans (by omega : z.length ≤ 26) (by decide)
    have h26 : (Str.ofString "abcdefghijklmnopqrstuvwxyz").length = 26 := by decide +kernel
    have hal : ∀ c, 97 ≤ c → c ≤ 122 → c ∈ (Str.ofString "abcdefghijklmnopqrstuvwxyz").cps.toList := by
      have e : (Str.ofString "abcdefghijklmnopqrstuvwxyz").cps.toList = (List.range 26).map (97 + ·) := by decide +kernel
      intro c ha hb
      rw [e]
      exact List.mem_map.mpr ⟨c - 97, List.mem_range.mpr (by omega), by omega⟩
    refine ⟨_, rfl, _, _, _, _, true, rfl, .ty _, .base (.str _), kit_ty (by decide +kernel), true, rfl, iteF ?_⟩
    refine ⟨_, rfl, _, _, rfl, ⟨hsz, rfl⟩, true, blT (by omega), iteT ?_⟩
    refine ⟨_, _, rfl, ⟨by decide +kernel, rfl⟩, true, blT (by rw [h26]; omega), iteF ?_⟩
    -- all the signs are small letters
    refine ⟨_, rfl, fun D hD => lc_map walk_str (fun _ => some (V.bl true)) hD (by show z.cps.size ≤ _; exact hsz) (fun _ _ => True.intro) (fun i x H1 H2 hi e y Ry Rn hy hn => ?_) (fun H1 e hd => ?_)⟩
    · obtain ⟨rfl, c, hc, rfl⟩ := y
      refine ⟨rfl, ?_⟩
      refine ⟨_, rfl, _, rfl, hy _ _ (Same.refl _) ?_⟩
      have hm : c ∈ z.cps.toList := by
        rw [← Array.getElem?_toList] at hc
        exact List.mem_of_getElem? hc
      have hb := G.al c hm
      rw [if_neg (by decide), sign_in, decide_eq_true (hal c hb.1 hb.2)]
    refine ⟨D, List.replicate z.cps.size true, rfl, SqL.of ?_, true, ?_, iteF ?_⟩
    · rw [hd]
      refine congrArg (fun l => some (HO.lst l)) ?_
      rw [List.map_replicate]
      exact filterMap_const _ _
    · show true = _
      simp
    -- no sign stands twice
    refine ⟨_, rfl, fun D2 hD2 => sc_map walk_str (fun i => Sum.inr ⟨#[z.cps.toList.getD i 0]⟩) hD2 ?_ (fun _ _ => True.intro) ?_ (fun i x H3 H4 hi e3 y Ry Rn hy => ?_) (fun H3 S e3 hd3 => ?_)⟩
    · show z.cps.size + 1 < 4096
      have : z.cps.size = z.length := rfl
      omega
    · intro i j hi hj he
      have hi' : i < z.cps.toList.length := by simpa using hi
      have he' : z.cps.toList.getD j 0 = z.cps.toList.getD i 0 := by simpa using he
      rw [List.getD_eq_getElem?_getD, List.getD_eq_getElem?_getD, List.getElem?_eq_getElem hi', List.getElem?_eq_getElem (by omega : j < z.cps.toList.length)] at he'
      have := (List.getElem_inj G.nd).mp he'
      omega
    · obtain ⟨rfl, c, hc, rfl⟩ := y
      refine ⟨rfl, ?_⟩
      refine ⟨_, rfl, ?_⟩
      have e : z.cps.toList.getD i 0 = c := by
        rw [← Array.getElem?_toList] at hc
        rw [List.getD_eq_getElem?_getD, hc]
        rfl
      have h4 := hy H4 (Same.refl _)
      rw [e] at h4
      exact h4
    refine ⟨_, _, _, rfl, hd3, _, rfl, _, _, rfl, ⟨hsz, rfl⟩, false, blF (by show ¬ ((z.cps.size : Nat) : Int) < ((z.length : Nat) : Int); exact Int.lt_irrefl _), iteF ?_⟩
    exact h _ (e.trans e3)
theorem FnOk.imp {CX : CXT} {k : Nat} {f : Addr} {fd : FuncData} {ps : List Str} {sp sp' : Sp} (F : FnOk P w K mg base CX k f fd ps sp) (i : ∀ vs H Q E, sp' vs H Q E → sp vs H Q E) : FnOk P w K mg base CX k f fd ps sp' :=
  ⟨fun vs H Q E h => F.len _ _ _ _ (i _ _ _ _ h), fun A outer s H args us vs Q E a b c d h => F.run A outer s H args us vs Q E a b c d (i _ _ _ _ h)⟩
def m_look_at_letters : List D → Res Vl
  | [.str z] => if z = [97, 98] then .ok (.fz .non) else .bad
  | _ => .bad
theorem ok_look_at_letters (T : Env K mg) : FnOk P w K mg base (L2.CX P w) 1 (He.ga K "look_at_letters") T.fd_look_at_letters ["letters"] (spP K m_look_at_letters) := (ok0_look T).imp fun vs H Q E h => by
  obtain ⟨G, ds, e, k, h⟩ := h
  unfold m_look_at_letters at h
  split at h
  · rename_i em
    split at em
    · rename_i z
      split at em
      · rename_i hz
        subst hz
        cases em
        obtain ⟨v, rfl, kv⟩ := den1 k
        cases kv
        exact ⟨toS [97, 98], rfl, ⟨by decide, by decide, by decide, by decide⟩, fun H' sm => h .non G H' ⟨L2.Same.refl G, sm, L2.Same.trans e sm, fun _ _ _ z => z⟩ .non⟩
      · cases em
    · cases em
  · rename_i em
    split at em
    · split at em <;> cases em
    · cases em
  · exact h.elim
/- traced: 0 text 1 letters 2 keep 3 trace 4 found -/
def c_traced : DC := (dSeq (dDrop (dCall m_look_at_letters (dCons (dVar 1) dNil)))
  (dSeq (dAsg (dMakeX m_Trace_init (dCons (dVar 0) dNil)) (gN 3))
  dBad))
def m_traced : List D → Res Vl := mP 3 5 c_traced
theorem ok_traced (T : Env K mg) : FnOk P w K mg base (L2.CX P w) 12 (He.ga K "traced") T.fd_traced ["text", "letters", "keep"] (spP K m_traced) := by
  have h := okP (P := P) (w := w) (mg := mg) (base := base) (CX := (L2.CX P w)) (k := 11) T.F_traced sc_traced (fun cdv A outer s H E G hr => by
    have nd := sc_traced.nd
    exact (d_seq (d_expr (d_call (ok_look_at_letters T) (hr.mono (by decide)) (by rfl) T.m_look_at_letters T.F_look_at_letters.kp T.b_look_at_letters (fun _ => pAt (passes_call (takes_of rfl rfl rfl rfl) (fun _ _ _ _ h => h))) (d_cons (d_v (pv 1)) d_nil)))
      (d_seq (d_set (i := 3) nd rfl (Or.inl rfl) (d_makeX T.mk_Trace (ok_Trace_init T) hr (by rfl) T.m_Trace T.b_Trace_init (fun _ => pAt (passes_call (takes_of rfl rfl rfl rfl) (fun _ _ _ _ h => h))) (d_cons (d_v (pv 0)) d_nil)))
      d_bad)))
  exact h
/- lean: 0 text 1 letters 2 keep 3 trace 4 found -/
def c_lean : DC := (dSeq (dAsg (dCall m_traced (dCons (dVar 0) (dCons (dVar 1) (dCons (dVar 2) dNil)))) (gW 2 (gP (gN 3) (gP (gN 4) gE))))
  dBad)
def m_lean : List D → Res Vl := mP 3 5 c_lean
theorem ok_lean (T : Env K mg) : FnOk P w K mg base (L2.CX P w) 13 (He.ga K "lean") T.fd_lean ["text", "letters", "keep"] (spP K m_lean) := by
  have h := okP (P := P) (w := w) (mg := mg) (base := base) (CX := (L2.CX P w)) (k := 12) T.F_lean sc_lean (fun cdv A outer s H E G hr => by
    have nd := sc_lean.nd
    exact (d_seq (d_asg (d_call (ok_traced T) hr (by rfl) T.m_traced T.F_traced.kp T.b_traced (fun _ => pAt (passes_call (takes_of rfl rfl rfl rfl) (fun _ _ _ _ h => h))) (d_cons (d_v (pv 0)) (d_cons (d_v (pv 1)) (d_cons (d_v (pv 2)) d_nil)))) (g_w (n := 2) rfl (g_p (g_n (pg_name (i := 3) nd rfl (Or.inl rfl))) (g_p (g_n (pg_name (i := 4) nd rfl (Or.inl rfl))) (g_e pgs_nil)))))
      d_bad))
  exact h
/- leaned: 0 text 1 letters 2 keep -/
def c_leaned : DC := (dRet (dOp2 fIx (dCall m_traced (dCons (dVar 0) (dCons (dVar 1) (dCons (dVar 2) dNil)))) (dC (.int 1))))
def m_leaned : List D → Res Vl := mP 3 3 c_leaned
theorem ok_leaned (T : Env K mg) : FnOk P w K mg base (L2.CX P w) 13 (He.ga K "leaned") T.fd_leaned ["text", "letters", "keep"] (spP K m_leaned) := by
  have h := okP (P := P) (w := w) (mg := mg) (base := base) (CX := (L2.CX P w)) (k := 12) T.F_leaned sc_leaned (fun cdv A outer s H E G hr => by
    have nd := sc_leaned.nd
    exact (d_1 (d_ret (d_ix (ixM (K := K)) ix_ok (d_call (ok_traced T) hr (by rfl) T.m_traced T.F_traced.kp T.b_traced (fun _ => pAt (passes_call (takes_of rfl rfl rfl rfl) (fun _ _ _ _ h => h))) (d_cons (d_v (pv 0)) (d_cons (d_v (pv 1)) (d_cons (d_v (pv 2)) d_nil)))) d_int (fun _ _ => rfl)))))
  exact h
/- _law_mixed: 0 cell 1 k 2 mix -/
def c__law_mixed : DC := (dSeq (dAsg (dOp2 (fI iMod) (dOp2 fAdd (dOp2 fAdd (dOp2 fMulS (dOp2 (fI iMod) (dVar 0) (dC (.int 2147483647))) (dC (.int 48271))) (dOp2 fMulS (dVar 1) (dC (.int 69621)))) (dC (.int 1048583))) (dC (.int 2147483629))) (gN 2))
  (dSeq (dAsg (dOp2 (fI iMod) (dOp2 fMulS (dVar 2) (dVar 2)) (dC (.int 2147483587))) (gN 2))
  (dRet (dOp2 (fI iMod) (dOp2 fMulS (dVar 2) (dOp2 fAdd (dVar 2) (dC (.int 2)))) (dC (.int 2147483579))))))
def m__law_mixed : List D → Res Vl := mP 2 3 c__law_mixed
theorem ok__law_mixed (T : Env K mg) : FnOk P w K mg base (L2.CX P w) 1 (He.ga K "_law_mixed") T.fd__law_mixed ["cell", "k"] (spP K m__law_mixed) := by
  have h := okP (P := P) (w := w) (mg := mg) (base := base) (CX := (L2.CX P w)) (k := 0) T.F__law_mixed sc__law_mixed (fun cdv A outer s H E G hr => by
    have nd := sc__law_mixed.nd
    exact (d_seq (d_set (i := 2) nd rfl (Or.inl rfl) (d_op2 op_modN mod_ok (d_op2 (oAdd (K := K)) add_ok (d_op2 (oAdd (K := K)) add_ok (d_op2 (oMulS (K := K)) mulS_ok (d_op2 op_modN mod_ok (d_v (pv 0)) d_int) d_int) (d_op2 (oMulS (K := K)) mulS_ok (d_v (pv 1)) d_int)) d_int) d_int))
      (d_seq (d_set (i := 2) nd rfl (Or.inl rfl) (d_op2 op_modN mod_ok (d_op2 (oMulS (K := K)) mulS_ok (d_v (pv 2)) (d_v (pv 2))) d_int))
      (d_1 (d_ret (d_op2 op_modN mod_ok (d_op2 (oMulS (K := K)) mulS_ok (d_v (pv 2)) (d_op2 (oAdd (K := K)) add_ok (d_v (pv 2)) d_int)) d_int))))))
  exact h
/- _law_cell: 0 script 1 k 2 cell 3 found 4 j -/
def c__law_cell : DC := (dSeq (dAsg (dC (.int 0)) (gN 2))
  (dSeq (dIf (dTb (dOp2 fLt (dVar 1) (dLenO 0))) (dAsg (dPk 0 (dVar 1)) (gN 2)) dNx)
  (dSeq (dIf (dTb (dOp2 fGe (dVar 2) (dOp2 (fI iPow) (dC (.int 10)) (dC (.int 18))))) (dRet (dOp2 (fI iMod) (dOp2 (fI iSub) (dVar 2) (dOp2 (fI iPow) (dC (.int 10)) (dC (.int 18)))) (dOp2 fMulS (dOp2 fMulS (dOp2 fMulS (dOp2 (fI iPow) (dC (.int 10)) (dC (.int 60))) (dOp2 (fI iPow) (dC (.int 10)) (dC (.int 60)))) (dOp2 (fI iPow) (dC (.int 10)) (dC (.int 60)))) (dOp2 (fI iPow) (dC (.int 10)) (dC (.int 60)))))) dNx)
  (dSeq (dAsg (dC (.int 0)) (gN 3))
  (dSeq (dForS (dItN dR1 (dCons (dC (.int 24)) dNil)) (gN 4) (dAsg (dOp2 fAdd (dOp2 fMulS (dVar 3) (dC (.int 2147483579))) (dCall m__law_mixed (dCons (dVar 2) (dCons (dOp2 fAdd (dOp2 fAdd (dOp2 fMulS (dC (.int 7)) (dVar 1)) (dOp2 fMulS (dC (.int 100)) (dVar 4))) (dOp2 fMulS (dVar 4) (dVar 4))) dNil)))) (gN 3)))
  (dRet (dMov 3)))))))
def m__law_cell : List D → Res Vl := mP 2 5 c__law_cell
theorem ok__law_cell (T : Env K mg) : FnOk P w K mg base (L2.CX P w) 2 (He.ga K "_law_cell") T.fd__law_cell ["script", "k"] (spP K m__law_cell) := by
  have h := okP (P := P) (w := w) (mg := mg) (base := base) (CX := (L2.CX P w)) (k := 1) T.F__law_cell sc__law_cell (fun cdv A outer s H E G hr => by
    have nd := sc__law_cell.nd
    exact (d_seq (d_set (i := 2) nd rfl (Or.inl rfl) d_int)
      (d_seq (d_ifS (dt_cmp op_ltM lt_ok (d_v (pv 1)) (d_lenO (pv 0) (by rfl) T.z_len) (nomark _)) (d_1 (d_set (i := 2) nd rfl (Or.inl rfl) (d_pk (pv 0) (d_v (pv 1)) (fun _ _ => rfl)))) d_pnil)
      (d_seq (d_ifS (dt_cmp op_geM ge_ok (d_v (pv 2)) (d_op2 op_pow pow_ok d_int d_int) (nomark _)) (d_1 (d_ret (d_op2 op_modN mod_ok (d_op2 op_sub sub_ok (d_v (pv 2)) (d_op2 op_pow pow_ok d_int d_int)) (d_op2 (oMulS (K := K)) mulS_ok (d_op2 (oMulS (K := K)) mulS_ok (d_op2 (oMulS (K := K)) mulS_ok (d_op2 op_pow pow_ok d_int d_int) (d_op2 op_pow pow_ok d_int d_int)) (d_op2 op_pow pow_ok d_int d_int)) (d_op2 op_pow pow_ok d_int d_int))))) d_pnil)
      (d_seq (d_set (i := 3) nd rfl (Or.inl rfl) d_int)
      (d_seq (d_for (passes_of rfl) rfl (i_rng1 (by rfl) T.z_range (d_cons d_int d_nil)) (g_n (pg_name (i := 4) nd rfl (Or.inl rfl))) (d_1 (d_set (i := 3) nd rfl (Or.inl rfl) (d_op2 (oAdd (K := K)) add_ok (d_op2 (oMulS (K := K)) mulS_ok (d_v (pv 3)) d_int) (d_call (ok__law_mixed T) hr (by rfl) T.m__law_mixed T.F__law_mixed.kp T.b__law_mixed (fun _ => pAt (passes_call (takes_of rfl rfl rfl rfl) (fun _ _ _ _ h => h))) (d_cons (d_v (pv 2)) (d_cons (d_op2 (oAdd (K := K)) add_ok (d_op2 (oAdd (K := K)) add_ok (d_op2 (oMulS (K := K)) mulS_ok d_int (d_v (pv 1))) (d_op2 (oMulS (K := K)) mulS_ok d_int (d_v (pv 4)))) (d_op2 (oMulS (K := K)) mulS_ok (d_v (pv 4)) (d_v (pv 4)))) d_nil)))))))
      (d_1 (d_ret (d_m (pv 3))))))))))
  exact h
/- _law_take: 0 pile 1 size 2 digit -/
def c__law_take : DC := (dSeq (dAsg (dOp2 (fI iMod) (dPk 0 (dC (.int 0))) (dVar 1)) (gN 2))
  (dSeq (dSto 0 (dC (.int 0)) (dOp2 (fI iDiv) (dPk 0 (dC (.int 0))) (dVar 1)))
  (dRet (dMov 2))))
def m__law_take : D → List D → Res (Vl × D) := mB 2 3 c__law_take
theorem ok__law_take (T : Env K mg) : FnOk P w K mg base (L2.CX P w) 1 (He.ga K "_law_take") T.fd__law_take ["pile", "size"] (spB K m__law_take) := by
  have h := okB (P := P) (w := w) (mg := mg) (base := base) (CX := (L2.CX P w)) (k := 0) T.F__law_take sc__law_take (fun cdv A outer s H E G p hr => by
    have nd := sc__law_take.nd
    exact (d_seq (d_set (i := 2) nd rfl (Or.inl rfl) (d_op2 op_modN mod_ok (d_pk (pv 0) d_int (fun _ _ => rfl)) (d_v (pv 1))))
      (d_seq (d_sto (pv 0) d_int (d_op2 op_divM div_ok (d_pk (pv 0) d_int (fun _ _ => rfl)) (d_v (pv 1))))
      (d_1 (d_ret (d_m (pv 2)))))))
  exact h
/- _law_only: 0 caught 1 name 2 names 3 some 4 one 5 here -/
def c__law_only : DC := (dSeq (dAsg (dOpN fLst (dCons (dC (.str [78, 111, 84, 101, 120, 116])) (dCons (dC (.str [78, 111, 84, 114, 101, 101])) (dCons (dC (.str [78, 111, 80, 97, 116, 104])) (dCons (dC (.str [78, 111, 78, 97, 109, 105, 110, 103])) (dCons (dC (.str [78, 111, 76, 101, 116, 116, 101, 114, 115])) (dCons (dC (.str [78, 111, 67, 111, 117, 110, 116])) (dCons (dC (.str [78, 111, 84, 117, 114, 110, 105, 110, 103])) (dCons (dC (.str [78, 111, 77, 97, 112])) (dCons (dC (.str [78, 111, 76, 105, 110, 101])) dNil)))))))))) (gN 2))
  (dSeq (dDrop (dApp 2 (dC (.str [84, 111, 111, 77, 97, 110, 121]))))
  (dSeq (dAsg (dOpN fLst (dCons (dOp1 (fIsX ["NoText", "NoTree", "NoPath", "NoNaming", "NoLetters", "NoCount", "NoTurning", "NoMap", "NoLine", "TooMany"] (fun d => decide (d = "NoText"))) (dVar 0)) (dCons (dOp1 (fIsX ["NoText", "NoTree", "NoPath", "NoNaming", "NoLetters", "NoCount", "NoTurning", "NoMap", "NoLine", "TooMany"] (fun d => decide (d = "NoTree"))) (dVar 0)) (dCons (dOp1 (fIsX ["NoText", "NoTree", "NoPath", "NoNaming", "NoLetters", "NoCount", "NoTurning", "NoMap", "NoLine", "TooMany"] (fun d => decide (d = "NoPath"))) (dVar 0)) dNil)))) (gN 3))
  (dSeq (dAsg (dOp2 fAdd (dVar 3) (dOpN fLst (dCons (dOp1 (fIsX ["NoText", "NoTree", "NoPath", "NoNaming", "NoLetters", "NoCount", "NoTurning", "NoMap", "NoLine", "TooMany"] (fun d => decide (d = "NoNaming"))) (dVar 0)) (dCons (dOp1 (fIsX ["NoText", "NoTree", "NoPath", "NoNaming", "NoLetters", "NoCount", "NoTurning", "NoMap", "NoLine", "TooMany"] (fun d => decide (d = "NoLetters"))) (dVar 0)) (dCons (dOp1 (fIsX ["NoText", "NoTree", "NoPath", "NoNaming", "NoLetters", "NoCount", "NoTurning", "NoMap", "NoLine", "TooMany"] (fun d => decide (d = "NoCount"))) (dVar 0)) dNil))))) (gN 3))
  (dSeq (dAsg (dOp2 fAdd (dVar 3) (dOpN fLst (dCons (dOp1 (fIsX ["NoText", "NoTree", "NoPath", "NoNaming", "NoLetters", "NoCount", "NoTurning", "NoMap", "NoLine", "TooMany"] (fun d => decide (d = "NoTurning"))) (dVar 0)) (dCons (dOp1 (fIsX ["NoText", "NoTree", "NoPath", "NoNaming", "NoLetters", "NoCount", "NoTurning", "NoMap", "NoLine", "TooMany"] (fun d => decide (d = "NoMap"))) (dVar 0)) (dCons (dOp1 (fIsX ["NoText", "NoTree", "NoPath", "NoNaming", "NoLetters", "NoCount", "NoTurning", "NoMap", "NoLine", "TooMany"] (fun d => decide (d = "NoLine"))) (dVar 0)) dNil))))) (gN 3))
  (dSeq (dDrop (dApp 3 (dOp1 (fIsX ["NoText", "NoTree", "NoPath", "NoNaming", "NoLetters", "NoCount", "NoTurning", "NoMap", "NoLine", "TooMany"] (fun d => decide (d = "TooMany"))) (dVar 0))))
  (dSeq (dIf (dTb (dOp2 fNe (dLc (dItN dZj (dCons (dVar 2) (dCons (dVar 3) dNil))) (gW 2 (gP (gN 4) (gP (gN 5) gE))) (dTe (dVar 5)) (dVar 4) [4, 5]) (dOpN fLst (dCons (dVar 1) dNil)))) (dRet (dC (.bl false))) dNx)
  (dSeq (dIf (dOr (dTe (dOp1 (fIsX ["NoText", "NoTree", "NoPath", "NoNaming", "NoLetters", "NoCount", "NoTurning", "NoMap", "NoLine", "TooMany"] (fun _ => false)) (dVar 0))) (dTe (dOp1 (fIsX ["NoText", "NoTree", "NoPath", "NoNaming", "NoLetters", "NoCount", "NoTurning", "NoMap", "NoLine", "TooMany"] (fun _ => false)) (dVar 0)))) (dRet (dC (.bl false))) dNx)
  (dRet (dAndE (dOp1 (fIsX ["NoText", "NoTree", "NoPath", "NoNaming", "NoLetters", "NoCount", "NoTurning", "NoMap", "NoLine", "TooMany"] (fun _ => true)) (dVar 0)) (dOp1 (fIsX ["NoText", "NoTree", "NoPath", "NoNaming", "NoLetters", "NoCount", "NoTurning", "NoMap", "NoLine", "TooMany"] (fun _ => true)) (dVar 0))))))))))))
def m__law_only : List D → Res Vl := mP 2 6 c__law_only
theorem ok__law_only (T : Env K mg) : FnOk P w K mg base (L2.CX P w) 1 (He.ga K "_law_only") T.fd__law_only ["caught", "name"] (spP K m__law_only) := by
  have h := okP (P := P) (w := w) (mg := mg) (base := base) (CX := (L2.CX P w)) (k := 0) T.F__law_only sc__law_only (fun cdv A outer s H E G hr => by
    have nd := sc__law_only.nd
    exact (d_seq (d_set (i := 2) nd rfl (Or.inl rfl) (d_lst (d_cons (d_str (w := [78, 111, 84, 101, 120, 116]) (by decide +kernel)) (d_cons (d_str (w := [78, 111, 84, 114, 101, 101]) (by decide +kernel)) (d_cons (d_str (w := [78, 111, 80, 97, 116, 104]) (by decide +kernel)) (d_cons (d_str (w := [78, 111, 78, 97, 109, 105, 110, 103]) (by decide +kernel)) (d_cons (d_str (w := [78, 111, 76, 101, 116, 116, 101, 114, 115]) (by decide +kernel)) (d_cons (d_str (w := [78, 111, 67, 111, 117, 110, 116]) (by decide +kernel)) (d_cons (d_str (w := [78, 111, 84, 117, 114, 110, 105, 110, 103]) (by decide +kernel)) (d_cons (d_str (w := [78, 111, 77, 97, 112]) (by decide +kernel)) (d_cons (d_str (w := [78, 111, 76, 105, 110, 101]) (by decide +kernel)) d_nil)))))))))))
      (d_seq (d_expr (d_app (pv 2) (d_str (w := [84, 111, 111, 77, 97, 110, 121]) (by decide +kernel))))
      (d_seq (d_set (i := 3) nd rfl (Or.inl rfl) (d_lst (d_cons (d_isX (cs := ["NoText", "NoTree", "NoPath", "NoNaming", "NoLetters", "NoCount", "NoTurning", "NoMap", "NoLine", "TooMany"]) (f := (fun d => decide (d = "NoText"))) (pe_glob (v := .ref (He.ga K "NoText")) rfl T.m_NoText rfl) (d_v (pv 0)) (.own _) (by rfl) T.z_isinstance (fun d hd => ⟨T.kinds.ec d hd, T.kinds.own d hd "NoText" (by simp)⟩)) (d_cons (d_isX (cs := ["NoText", "NoTree", "NoPath", "NoNaming", "NoLetters", "NoCount", "NoTurning", "NoMap", "NoLine", "TooMany"]) (f := (fun d => decide (d = "NoTree"))) (pe_glob (v := .ref (He.ga K "NoTree")) rfl T.m_NoTree rfl) (d_v (pv 0)) (.own _) (by rfl) T.z_isinstance (fun d hd => ⟨T.kinds.ec d hd, T.kinds.own d hd "NoTree" (by simp)⟩)) (d_cons (d_isX (cs := ["NoText", "NoTree", "NoPath", "NoNaming", "NoLetters", "NoCount", "NoTurning", "NoMap", "NoLine", "TooMany"]) (f := (fun d => decide (d = "NoPath"))) (pe_glob (v := .ref (He.ga K "NoPath")) rfl T.m_NoPath rfl) (d_v (pv 0)) (.own _) (by rfl) T.z_isinstance (fun d hd => ⟨T.kinds.ec d hd, T.kinds.own d hd "NoPath" (by simp)⟩)) d_nil)))))
      (d_seq (d_set (i := 3) nd rfl (Or.inl rfl) (d_op2 (oAdd (K := K)) add_ok (d_v (pv 3)) (d_lst (d_cons (d_isX (cs := ["NoText", "NoTree", "NoPath", "NoNaming", "NoLetters", "NoCount", "NoTurning", "NoMap", "NoLine", "TooMany"]) (f := (fun d => decide (d = "NoNaming"))) (pe_glob (v := .ref (He.ga K "NoNaming")) rfl T.m_NoNaming rfl) (d_v (pv 0)) (.own _) (by rfl) T.z_isinstance (fun d hd => ⟨T.kinds.ec d hd, T.kinds.own d hd "NoNaming" (by simp)⟩)) (d_cons (d_isX (cs := ["NoText", "NoTree", "NoPath", "NoNaming", "NoLetters", "NoCount", "NoTurning", "NoMap", "NoLine", "TooMany"]) (f := (fun d => decide (d = "NoLetters"))) (pe_glob (v := .ref (He.ga K "NoLetters")) rfl T.m_NoLetters rfl) (d_v (pv 0)) (.own _) (by rfl) T.z_isinstance (fun d hd => ⟨T.kinds.ec d hd, T.kinds.own d hd "NoLetters" (by simp)⟩)) (d_cons (d_isX (cs := ["NoText", "NoTree", "NoPath", "NoNaming", "NoLetters", "NoCount", "NoTurning", "NoMap", "NoLine", "TooMany"]) (f := (fun d => decide (d = "NoCount"))) (pe_glob (v := .ref (He.ga K "NoCount")) rfl T.m_NoCount rfl) (d_v (pv 0)) (.own _) (by rfl) T.z_isinstance (fun d hd => ⟨T.kinds.ec d hd, T.kinds.own d hd "NoCount" (by simp)⟩)) d_nil))))))
      (d_seq (d_set (i := 3) nd rfl (Or.inl rfl) (d_op2 (oAdd (K := K)) add_ok (d_v (pv 3)) (d_lst (d_cons (d_isX (cs := ["NoText", "NoTree", "NoPath", "NoNaming", "NoLetters", "NoCount", "NoTurning", "NoMap", "NoLine", "TooMany"]) (f := (fun d => decide (d = "NoTurning"))) (pe_glob (v := .ref (He.ga K "NoTurning")) rfl T.m_NoTurning rfl) (d_v (pv 0)) (.own _) (by rfl) T.z_isinstance (fun d hd => ⟨T.kinds.ec d hd, T.kinds.own d hd "NoTurning" (by simp)⟩)) (d_cons (d_isX (cs := ["NoText", "NoTree", "NoPath", "NoNaming", "NoLetters", "NoCount", "NoTurning", "NoMap", "NoLine", "TooMany"]) (f := (fun d => decide (d = "NoMap"))) (pe_glob (v := .ref (He.ga K "NoMap")) rfl T.m_NoMap rfl) (d_v (pv 0)) (.own _) (by rfl) T.z_isinstance (fun d hd => ⟨T.kinds.ec d hd, T.kinds.own d hd "NoMap" (by simp)⟩)) (d_cons (d_isX (cs := ["NoText", "NoTree", "NoPath", "NoNaming", "NoLetters", "NoCount", "NoTurning", "NoMap", "NoLine", "TooMany"]) (f := (fun d => decide (d = "NoLine"))) (pe_glob (v := .ref (He.ga K "NoLine")) rfl T.m_NoLine rfl) (d_v (pv 0)) (.own _) (by rfl) T.z_isinstance (fun d hd => ⟨T.kinds.ec d hd, T.kinds.own d hd "NoLine" (by simp)⟩)) d_nil))))))
      (d_seq (d_expr (d_app (pv 3) (d_isX (cs := ["NoText", "NoTree", "NoPath", "NoNaming", "NoLetters", "NoCount", "NoTurning", "NoMap", "NoLine", "TooMany"]) (f := (fun d => decide (d = "TooMany"))) (pe_glob (v := .ref (He.ga K "TooMany")) rfl T.m_TooMany rfl) (d_v (pv 0)) (.own _) (by rfl) T.z_isinstance (fun d hd => ⟨T.kinds.ec d hd, T.kinds.own d hd "TooMany" (by simp)⟩))))
      (d_seq (d_ifS (dt_cmp (oNe (K := K) hr.units) ne_ok (d_lc (own := [("one", 4), ("here", 5)]) rfl nd (i_zipM (by rfl) T.z_zip (d_cons (d_v (pv 2)) (d_cons (d_v (pv 3)) d_nil))) (blkOk_by (own := [("one", 4), ("here", 5)]) (N := N__law_only) (sc := defScope s__law_only) (by decide +kernel)) (by decide) (fun i _ _ _ _ _ => (g_w (n := 2) rfl (g_p (g_n (pg_name (i := 4) nd rfl (Or.inl rfl))) (g_p (g_n (pg_name (i := 5) nd rfl (Or.inl rfl))) (g_e pgs_nil))))) (fun i _ _ _ _ _ => (d_pts1 (dt_tru (d_v (pv 5))))) (fun i _ _ _ _ _ => (d_v (pv 4)))) (d_lst (d_cons (d_v (pv 1)) d_nil)) (nomark _)) (d_1 (d_ret d_bl)) d_pnil)
      (d_seq (d_ifS (PW.pt (dw_or (dt_tru (d_isX (cs := ["NoText", "NoTree", "NoPath", "NoNaming", "NoLetters", "NoCount", "NoTurning", "NoMap", "NoLine", "TooMany"]) (f := (fun _ => false)) (pe_bltn (v := .ty "LookupError") (u := .type "LookupError") rfl T.z_LookupError (by decide +kernel) rfl) (d_v (pv 0)) (.ty _) (by rfl) T.z_isinstance (fun d hd => ⟨T.kinds.ec d hd, T.kinds.lo d hd⟩))) (dw_or1 (dt_tru (d_isX (cs := ["NoText", "NoTree", "NoPath", "NoNaming", "NoLetters", "NoCount", "NoTurning", "NoMap", "NoLine", "TooMany"]) (f := (fun _ => false)) (pe_bltn (v := .ty "ArithmeticError") (u := .type "ArithmeticError") rfl T.z_ArithmeticError (by decide +kernel) rfl) (d_v (pv 0)) (.ty _) (by rfl) T.z_isinstance (fun d hd => ⟨T.kinds.ec d hd, T.kinds.ar d hd⟩)))))) (d_1 (d_ret d_bl)) d_pnil)
      (d_1 (d_ret (d_and (d_isX (cs := ["NoText", "NoTree", "NoPath", "NoNaming", "NoLetters", "NoCount", "NoTurning", "NoMap", "NoLine", "TooMany"]) (f := (fun _ => true)) (pe_glob (v := .ref (He.ga K "LeanError")) rfl T.m_LeanError rfl) (d_v (pv 0)) (.own _) (by rfl) T.z_isinstance (fun d hd => ⟨T.kinds.ec d hd, T.kinds.top d hd⟩)) (d_one (d_isX (cs := ["NoText", "NoTree", "NoPath", "NoNaming", "NoLetters", "NoCount", "NoTurning", "NoMap", "NoLine", "TooMany"]) (f := (fun _ => true)) (pe_bltn (v := .ty "ValueError") (u := .type "ValueError") rfl T.z_ValueError (by decide +kernel) rfl) (d_v (pv 0)) (.ty _) (by rfl) T.z_isinstance (fun d hd => ⟨T.kinds.ec d hd, T.kinds.ve d hd⟩)))))))))))))))
  exact h
/- _law_asked: 0 which 1 text 2 caught 3 e -/
def c__law_asked : DC := (dSeq (dAsg (dC .non) (gN 2))
  (dSeq (dTry 3 ["NoText", "NoTree", "NoPath", "NoNaming", "NoLetters", "NoCount", "NoTurning", "NoMap", "NoLine", "TooMany"] (dIf (dTb (dOp2 fEq (dVar 0) (dC (.int 0)))) (dDrop (dCall m_words (dCons (dVar 1) dNil))) (dIf (dTb (dOp2 fEq (dVar 0) (dC (.int 1)))) (dDrop (dCall m_read (dCons (dVar 1) dNil))) (dIf (dTb (dOp2 fEq (dVar 0) (dC (.int 2)))) (dDrop (dCall m_spots (dCons (dVar 1) dNil))) (dIf (dTb (dOp2 fEq (dVar 0) (dC (.int 3)))) (dDrop (dMakeX m_Trace_init (dCons (dVar 1) dNil))) (dIf (dTb (dOp2 fEq (dVar 0) (dC (.int 4)))) (dDrop (dCallD m_lean [.tup []] (dCons (dVar 1) (dCons (dC (.str [97, 98])) dNil)))) (dDrop (dCallD m_leaned [.tup []] (dCons (dVar 1) (dCons (dC (.str [97, 98])) dNil))))))))) (dAsg (dVar 3) (gN 2)))
  (dRet (dMov 2))))
def m__law_asked : List D → Res Vl := mP 2 4 c__law_asked
theorem ok__law_asked (T : Env K mg) : FnOk P w K mg base (L2.CX P w) 14 (He.ga K "_law_asked") T.fd__law_asked ["which", "text"] (spP K m__law_asked) := by
  have h := okP (P := P) (w := w) (mg := mg) (base := base) (CX := (L2.CX P w)) (k := 13) T.F__law_asked sc__law_asked (fun cdv A outer s H E G hr => by
    have nd := sc__law_asked.nd
    exact (d_seq (d_set (i := 2) nd rfl (Or.inl rfl) d_non)
      (d_seq (d_try (i := 3) (cl := .ref (He.ga K "LeanError")) (cs := ["NoText", "NoTree", "NoPath", "NoNaming", "NoLetters", "NoCount", "NoTurning", "NoMap", "NoLine", "TooMany"]) rfl rfl nd rfl rfl ⟨rfl, by decide, .inl T.m_LeanError⟩ (List.forall_mem_cons.mpr ⟨T.ex_NoText_LeanError, List.forall_mem_cons.mpr ⟨T.ex_NoTree_LeanError, List.forall_mem_cons.mpr ⟨T.ex_NoPath_LeanError, List.forall_mem_cons.mpr ⟨T.ex_NoNaming_LeanError, List.forall_mem_cons.mpr ⟨T.ex_NoLetters_LeanError, List.forall_mem_cons.mpr ⟨T.ex_NoCount_LeanError, List.forall_mem_cons.mpr ⟨T.ex_NoTurning_LeanError, List.forall_mem_cons.mpr ⟨T.ex_NoMap_LeanError, List.forall_mem_cons.mpr ⟨T.ex_NoLine_LeanError, List.forall_mem_cons.mpr ⟨T.ex_TooMany_LeanError, List.forall_mem_nil _⟩⟩⟩⟩⟩⟩⟩⟩⟩⟩) takes_none (fun W pn xe tk po => (d_1 (d_ifS (dt_cmp (oEq (K := K) hr.units) eq_ok (d_v (pv 0)) d_int (nomark _)) (d_1 (d_expr (d_call (ok_words T) (hr.mono (by decide)) (by rfl) T.m_words T.F_words.kp T.b_words (fun σ => passAt tk σ) (d_cons (d_v (pv 1)) d_nil)))) (d_1 (d_ifS (dt_cmp (oEq (K := K) hr.units) eq_ok (d_v (pv 0)) d_int (nomark _)) (d_1 (d_expr (d_call (ok_read T) (hr.mono (by decide)) (by rfl) T.m_read T.F_read.kp T.b_read (fun σ => passAt tk σ) (d_cons (d_v (pv 1)) d_nil)))) (d_1 (d_ifS (dt_cmp (oEq (K := K) hr.units) eq_ok (d_v (pv 0)) d_int (nomark _)) (d_1 (d_expr (d_call (ok_spots T) (hr.mono (by decide)) (by rfl) T.m_spots T.F_spots.kp T.b_spots (fun σ => passAt tk σ) (d_cons (d_v (pv 1)) d_nil)))) (d_1 (d_ifS (dt_cmp (oEq (K := K) hr.units) eq_ok (d_v (pv 0)) d_int (nomark _)) (d_1 (d_expr (d_makeX T.mk_Trace (ok_Trace_init T) (hr.mono (by decide)) (by rfl) T.m_Trace T.b_Trace_init (fun σ => passAt tk σ) (d_cons (d_v (pv 1)) d_nil)))) (d_1 (d_ifS (dt_cmp (oEq (K := K) hr.units) eq_ok (d_v (pv 0)) d_int (nomark _)) (d_1 (d_expr (d_callD (dd := [.tup []]) (ok_lean T) hr (by rfl) T.m_lean T.F_lean.kp T.b_lean.choose_spec.2 T.b_lean.choose_spec.1 (fun G => (.cons (.tup (T.kt_lean_keep G) .nil) DenA.nil)) (fun σ => passAt tk σ) (d_cons (d_v (pv 1)) (d_cons (d_str (w := [97, 98]) (by decide +kernel)) d_nil))))) (d_1 (d_expr (d_callD (dd := [.tup []]) (ok_leaned T) hr (by rfl) T.m_leaned T.F_leaned.kp T.b_leaned.choose_spec.2 T.b_leaned.choose_spec.1 (fun G => (.cons (.tup (T.kt_leaned_keep G) .nil) DenA.nil)) (fun σ => passAt tk σ) (d_cons (d_v (pv 1)) (d_cons (d_str (w := [97, 98]) (by decide +kernel)) d_nil)))))))))))))))) (fun a pn => (d_1 (d_set (i := 2) nd rfl (Or.inl rfl) (d_v (pv 3))))))
      (d_1 (d_ret (d_m (pv 2)))))))
  exact h
/- _law_good: 0 ahead 1 bad 2 off 3 behind 4 text 5 which 6 caught -/
def c__law_good : DC := (dSeq (dAsg (dOp2 fAdd (dOp2 fAdd (dVar 0) (dVar 1)) (dVar 3)) (gN 4))
  (dSeq (dForS (dItN dR1 (dCons (dC (.int 6)) dNil)) (gN 5) (dSeq (dAsg (dCall m__law_asked (dCons (dVar 5) (dCons (dVar 4) dNil))) (gN 6))
  (dIf (dOr (dNot (dTe (dCall m__law_only (dCons (dVar 6) (dCons (dC (.str [78, 111, 84, 101, 120, 116])) dNil))))) (dTb (dOp2 fNe (dOp1 (fAttr ["NoText"] "at") (dVar 6)) (dOp2 fAdd (dLenO 0) (dVar 2))))) (dRet (dC (.bl false))) dNx)))
  (dRet (dC (.bl true)))))
def m__law_good : List D → Res Vl := mP 4 7 c__law_good
theorem ok__law_good (T : Env K mg) : FnOk P w K mg base (L2.CX P w) 15 (He.ga K "_law_good") T.fd__law_good ["ahead", "bad", "off", "behind"] (spP K m__law_good) := by
  have h := okP (P := P) (w := w) (mg := mg) (base := base) (CX := (L2.CX P w)) (k := 14) T.F__law_good sc__law_good (fun cdv A outer s H E G hr => by
    have nd := sc__law_good.nd
    exact (d_seq (d_set (i := 4) nd rfl (Or.inl rfl) (d_op2 (oAdd (K := K)) add_ok (d_op2 (oAdd (K := K)) add_ok (d_v (pv 0)) (d_v (pv 1))) (d_v (pv 3))))
      (d_seq (d_for (passes_of rfl) rfl (i_rng1 (by rfl) T.z_range (d_cons d_int d_nil)) (g_n (pg_name (i := 5) nd rfl (Or.inl rfl))) (d_seq (d_set (i := 6) nd rfl (Or.inl rfl) (d_call (ok__law_asked T) hr (by rfl) T.m__law_asked T.F__law_asked.kp T.b__law_asked (fun _ => pAt (passes_call (takes_of rfl rfl rfl rfl) (fun _ _ _ _ h => h))) (d_cons (d_v (pv 5)) (d_cons (d_v (pv 4)) d_nil))))
      (d_1 (d_ifS (PW.pt (dw_or (dt_not (dt_tru (d_call (ok__law_only T) (hr.mono (by decide)) (by rfl) T.m__law_only T.F__law_only.kp T.b__law_only (fun _ => pAt (passes_call (takes_of rfl rfl rfl rfl) (fun _ _ _ _ h => h))) (d_cons (d_v (pv 6)) (d_cons (d_str (w := [78, 111, 84, 101, 120, 116]) (by decide +kernel)) d_nil))))) (dw_or1 (dt_cmp (oNe (K := K) hr.units) ne_ok (d_attr (cs := ["NoText"]) (d_v (pv 6)) (List.forall_mem_cons.mpr ⟨⟨T.kinds.ec "NoText" (by decide +kernel), T.na_NoText_at⟩, List.forall_mem_nil _⟩)) (d_op2 (oAdd (K := K)) add_ok (d_lenO (pv 0) (by rfl) T.z_len) (d_v (pv 2))) (nomark _))))) (d_1 (d_ret d_bl)) d_pnil))))
      (d_1 (d_ret d_bl)))))
  exact h
/- law: 0 script 1 some 2 k 3 good 4 pile 5 bad 6 off 7 ahead 8 behind 9 text -/
def c_law : DC := (dSeq (dAsg (dOpN fLst (dCons (dOpN fTup (dCons (dC (.str [49, 101])) (dCons (dC (.int 0)) dNil))) (dCons (dOpN fTup (dCons (dC (.str [48, 49])) (dCons (dC (.int 0)) dNil))) (dCons (dOpN fTup (dCons (dC (.str [49, 101, 48])) (dCons (dC (.int 0)) dNil))) (dCons (dOpN fTup (dCons (dC (.str [49, 101, 49, 48, 48])) (dCons (dC (.int 0)) dNil))) (dCons (dOpN fTup (dCons (dC (.str [53, 101, 51, 97])) (dCons (dC (.int 0)) dNil))) (dCons (dOpN fTup (dCons (dC (.str [108, 101, 116, 49])) (dCons (dC (.int 0)) dNil))) (dCons (dOpN fTup (dCons (dC (.str [97, 66])) (dCons (dC (.int 1)) dNil))) (dCons (dOpN fTup (dCons (dC (.str [66])) (dCons (dC (.int 0)) dNil))) dNil))))))))) (gN 1))
  (dSeq (dAsg (dOp2 fAdd (dVar 1) (dOpN fLst (dCons (dOpN fTup (dCons (dC (.str [48, 101, 49])) (dCons (dC (.int 0)) dNil))) (dCons (dOpN fTup (dCons (dC (.str [48, 48])) (dCons (dC (.int 0)) dNil))) dNil)))) (gN 1))
  (dSeq (dAsg (dOp2 fAdd (dVar 1) (dOpN fLst (dCons (dOpN fTup (dCons (dC (.str [97, 98, 99, 100, 101, 102, 103, 104, 105, 106, 107, 108, 109])) (dCons (dC (.int 0)) dNil))) (dCons (dOpN fTup (dCons (dC (.str [97, 49])) (dCons (dC (.int 0)) dNil))) (dCons (dOpN fTup (dCons (dC (.str [49, 97])) (dCons (dC (.int 0)) dNil))) (dCons (dOpN fTup (dCons (dC (.str [49, 50, 51, 52, 53, 54, 55, 56, 57, 48, 49, 50, 51, 52, 53, 54, 55, 56, 57])) (dCons (dC (.int 0)) dNil))) (dCons (dOpN fTup (dCons (dC (.str [49, 101, 49, 56])) (dCons (dC (.int 0)) dNil))) (dCons (dOpN fTup (dCons (dC (.str [49, 50, 101, 49, 55])) (dCons (dC (.int 0)) dNil))) dNil)))))))) (gN 1))
  (dSeq (dAsg (dOp2 fAdd (dVar 1) (dOpN fLst (dCons (dOpN fTup (dCons (dC (.str [49, 101, 48, 49, 50])) (dCons (dC (.int 0)) dNil))) (dCons (dOpN fTup (dCons (dC (.str [38])) (dCons (dC (.int 0)) dNil))) (dCons (dOpN fTup (dCons (dC (.str [124])) (dCons (dC (.int 0)) dNil))) (dCons (dOpN fTup (dCons (dC (.str [35])) (dCons (dC (.int 0)) dNil))) (dCons (dOpN fTup (dCons (dC (.str [97, 95, 98])) (dCons (dC (.int 1)) dNil))) (dCons (dOpN fTup (dCons (dC (.str [39])) (dCons (dC (.int 0)) dNil))) (dCons (dOpN fTup (dCons (dC (.str [97, 38, 98])) (dCons (dC (.int 1)) dNil))) dNil))))))))) (gN 1))
  (dSeq (dAsg (dOp2 fAdd (dVar 1) (dOpN fLst (dCons (dOpN fTup (dCons (dC (.str [55, 101, 51, 101, 49])) (dCons (dC (.int 0)) dNil))) (dCons (dOpN fTup (dCons (dC (.str [50, 101, 57, 57])) (dCons (dC (.int 0)) dNil))) dNil)))) (gN 1))
  (dSeq (dForS (dItN dR1 (dCons (dC (.int 3)) dNil)) (gN 2) (dSeq (dAsg (dOpN fLst (dCons (dCall m__law_cell (dCons (dVar 0) (dCons (dVar 2) dNil))) dNil)) (gN 4))
  (dForS (dItV (dVar 1)) (gW 2 (gP (gN 5) (gP (gN 6) gE))) (dSeq (dAsg (dOp2 fIx (dOpN fLst (dCons (dC (.str [])) (dCons (dC (.str [32])) (dCons (dC (.str [10])) (dCons (dC (.str [111, 117, 116, 32, 97, 59])) (dCons (dC (.str [108, 101, 116, 32, 98, 32, 61, 32, 49, 59, 10])) (dCons (dC (.str [111, 117, 116, 32, 57, 101, 49, 55, 32, 59])) dNil))))))) (dCallB m__law_take 4 (dCons (dC (.int 6)) dNil))) (gN 7))
  (dSeq (dAsg (dOp2 fIx (dOpN fLst (dCons (dC (.str [])) (dCons (dC (.str [59])) (dCons (dC (.str [32, 59, 111, 117, 116, 32, 49])) (dCons (dC (.str [10])) (dCons (dC (.str [32, 35, 32])) (dCons (dC (.str [41])) dNil))))))) (dCallB m__law_take 4 (dCons (dC (.int 6)) dNil))) (gN 8))
  (dIf (dNot (dTe (dCall m__law_good (dCons (dVar 7) (dCons (dVar 5) (dCons (dVar 6) (dCons (dVar 8) dNil))))))) (dRet (dC (.bl false))) dNx))))))
  (dSeq (dAsg (dOpN fLst (dCons (dC (.str [97, 98, 99, 100, 101, 102, 103, 104, 105, 106, 107, 108])) (dCons (dC (.str [49, 50, 51, 52, 53, 54, 55, 56, 57, 48, 49, 50, 51, 52, 53, 54, 55, 56])) (dCons (dC (.str [49, 101, 49, 55])) (dCons (dC (.str [57, 101, 49, 55])) (dCons (dC (.str [49, 50, 101, 49, 54])) (dCons (dC (.str [108, 101, 116])) (dCons (dC (.str [97, 60, 61, 98])) (dCons (dC (.str [97, 61, 32, 61, 98])) (dCons (dC (.str [49, 32, 101])) dNil)))))))))) (gN 3))
  (dRet (dOp2 fEq (dLc (dItV (dVar 3)) (gN 9) (dTb (dOp2 fNoN (dCall m__law_asked (dCons (dC (.int 0)) (dCons (dVar 9) dNil))) (dC .non))) (dVar 9) [9]) (dOpN fLst dNil))))))))))
def m_law : List D → Res Vl := mL 1 10 c_law
theorem ok_law (T : Env K mg) : FnOk P w K mg base CX0 16 (He.ga K "law") T.fd_law ["script"] (spP K m_law) := by
  have h := okL (P := P) (w := w) (mg := mg) (base := base) (CX := CX0) (k := 15) T.F_law sc_law (fun cdv A outer s H E G hr => by
    have nd := sc_law.nd
    exact (PSs.nox (d_seq (d_set (i := 1) nd rfl (Or.inl rfl) (d_lst (d_cons (d_tup (d_cons (d_str (w := [49, 101]) (by decide +kernel)) (d_cons d_int d_nil))) (d_cons (d_tup (d_cons (d_str (w := [48, 49]) (by decide +kernel)) (d_cons d_int d_nil))) (d_cons (d_tup (d_cons (d_str (w := [49, 101, 48]) (by decide +kernel)) (d_cons d_int d_nil))) (d_cons (d_tup (d_cons (d_str (w := [49, 101, 49, 48, 48]) (by decide +kernel)) (d_cons d_int d_nil))) (d_cons (d_tup (d_cons (d_str (w := [53, 101, 51, 97]) (by decide +kernel)) (d_cons d_int d_nil))) (d_cons (d_tup (d_cons (d_str (w := [108, 101, 116, 49]) (by decide +kernel)) (d_cons d_int d_nil))) (d_cons (d_tup (d_cons (d_str (w := [97, 66]) (by decide +kernel)) (d_cons d_int d_nil))) (d_cons (d_tup (d_cons (d_str (w := [66]) (by decide +kernel)) (d_cons d_int d_nil))) d_nil))))))))))
      (d_seq (d_set (i := 1) nd rfl (Or.inl rfl) (d_op2 (oAdd (K := K)) add_ok (d_v (pv 1)) (d_lst (d_cons (d_tup (d_cons (d_str (w := [48, 101, 49]) (by decide +kernel)) (d_cons d_int d_nil))) (d_cons (d_tup (d_cons (d_str (w := [48, 48]) (by decide +kernel)) (d_cons d_int d_nil))) d_nil)))))
      (d_seq (d_set (i := 1) nd rfl (Or.inl rfl) (d_op2 (oAdd (K := K)) add_ok (d_v (pv 1)) (d_lst (d_cons (d_tup (d_cons (d_str (w := [97, 98, 99, 100, 101, 102, 103, 104, 105, 106, 107, 108, 109]) (by decide +kernel)) (d_cons d_int d_nil))) (d_cons (d_tup (d_cons (d_str (w := [97, 49]) (by decide +kernel)) (d_cons d_int d_nil))) (d_cons (d_tup (d_cons (d_str (w := [49, 97]) (by decide +kernel)) (d_cons d_int d_nil))) (d_cons (d_tup (d_cons (d_str (w := [49, 50, 51, 52, 53, 54, 55, 56, 57, 48, 49, 50, 51, 52, 53, 54, 55, 56, 57]) (by decide +kernel)) (d_cons d_int d_nil))) (d_cons (d_tup (d_cons (d_str (w := [49, 101, 49, 56]) (by decide +kernel)) (d_cons d_int d_nil))) (d_cons (d_tup (d_cons (d_str (w := [49, 50, 101, 49, 55]) (by decide +kernel)) (d_cons d_int d_nil))) d_nil)))))))))
      (d_seq (d_set (i := 1) nd rfl (Or.inl rfl) (d_op2 (oAdd (K := K)) add_ok (d_v (pv 1)) (d_lst (d_cons (d_tup (d_cons (d_str (w := [49, 101, 48, 49, 50]) (by decide +kernel)) (d_cons d_int d_nil))) (d_cons (d_tup (d_cons (d_str (w := [38]) (by decide +kernel)) (d_cons d_int d_nil))) (d_cons (d_tup (d_cons (d_str (w := [124]) (by decide +kernel)) (d_cons d_int d_nil))) (d_cons (d_tup (d_cons (d_str (w := [35]) (by decide +kernel)) (d_cons d_int d_nil))) (d_cons (d_tup (d_cons (d_str (w := [97, 95, 98]) (by decide +kernel)) (d_cons d_int d_nil))) (d_cons (d_tup (d_cons (d_str (w := [39]) (by decide +kernel)) (d_cons d_int d_nil))) (d_cons (d_tup (d_cons (d_str (w := [97, 38, 98]) (by decide +kernel)) (d_cons d_int d_nil))) d_nil))))))))))
      (d_seq (d_set (i := 1) nd rfl (Or.inl rfl) (d_op2 (oAdd (K := K)) add_ok (d_v (pv 1)) (d_lst (d_cons (d_tup (d_cons (d_str (w := [55, 101, 51, 101, 49]) (by decide +kernel)) (d_cons d_int d_nil))) (d_cons (d_tup (d_cons (d_str (w := [50, 101, 57, 57]) (by decide +kernel)) (d_cons d_int d_nil))) d_nil)))))
      (d_seq (d_for PassesOwn.never rfl (i_rng1 (by rfl) T.z_range (d_cons d_int d_nil)) (g_n (pg_name (i := 2) nd rfl (Or.inl rfl))) (d_seq (d_set (i := 4) nd rfl (Or.inl rfl) (d_lst (d_cons (d_call (ok__law_cell T) (hr.mono (by decide)) (by rfl) T.m__law_cell T.F__law_cell.kp T.b__law_cell (fun _ => pAF) (d_cons (d_v (pv 0)) (d_cons (d_v (pv 2)) d_nil))) d_nil)))
      (d_1 (d_for PassesOwn.never rfl (i_v (d_v (pv 1))) (g_w (n := 2) rfl (g_p (g_n (pg_name (i := 5) nd rfl (Or.inl rfl))) (g_p (g_n (pg_name (i := 6) nd rfl (Or.inl rfl))) (g_e pgs_nil)))) (d_seq (d_set (i := 7) nd rfl (Or.inl rfl) (d_ix (ixM (K := K)) ix_ok (d_lst (d_cons (d_str (w := []) (by decide +kernel)) (d_cons (d_str (w := [32]) (by decide +kernel)) (d_cons (d_str (w := [10]) (by decide +kernel)) (d_cons (d_str (w := [111, 117, 116, 32, 97, 59]) (by decide +kernel)) (d_cons (d_str (w := [108, 101, 116, 32, 98, 32, 61, 32, 49, 59, 10]) (by decide +kernel)) (d_cons (d_str (w := [111, 117, 116, 32, 57, 101, 49, 55, 32, 59]) (by decide +kernel)) d_nil))))))) (d_callB (ok__law_take T) (hr.mono (by decide)) (by rfl) T.m__law_take T.F__law_take.kp T.b__law_take (fun _ => pAF) (pv 4) (d_cons d_int d_nil)) (fun _ _ => rfl)))
      (d_seq (d_set (i := 8) nd rfl (Or.inl rfl) (d_ix (ixM (K := K)) ix_ok (d_lst (d_cons (d_str (w := []) (by decide +kernel)) (d_cons (d_str (w := [59]) (by decide +kernel)) (d_cons (d_str (w := [32, 59, 111, 117, 116, 32, 49]) (by decide +kernel)) (d_cons (d_str (w := [10]) (by decide +kernel)) (d_cons (d_str (w := [32, 35, 32]) (by decide +kernel)) (d_cons (d_str (w := [41]) (by decide +kernel)) d_nil))))))) (d_callB (ok__law_take T) (hr.mono (by decide)) (by rfl) T.m__law_take T.F__law_take.kp T.b__law_take (fun _ => pAF) (pv 4) (d_cons d_int d_nil)) (fun _ _ => rfl)))
      (d_1 (d_ifS (dt_not (dt_tru (d_call (ok__law_good T) hr (by rfl) T.m__law_good T.F__law_good.kp T.b__law_good (fun _ => pAF) (d_cons (d_v (pv 7)) (d_cons (d_v (pv 5)) (d_cons (d_v (pv 6)) (d_cons (d_v (pv 8)) d_nil))))))) (d_1 (d_ret d_bl)) d_pnil))))))))
      (d_seq (d_set (i := 3) nd rfl (Or.inl rfl) (d_lst (d_cons (d_str (w := [97, 98, 99, 100, 101, 102, 103, 104, 105, 106, 107, 108]) (by decide +kernel)) (d_cons (d_str (w := [49, 50, 51, 52, 53, 54, 55, 56, 57, 48, 49, 50, 51, 52, 53, 54, 55, 56]) (by decide +kernel)) (d_cons (d_str (w := [49, 101, 49, 55]) (by decide +kernel)) (d_cons (d_str (w := [57, 101, 49, 55]) (by decide +kernel)) (d_cons (d_str (w := [49, 50, 101, 49, 54]) (by decide +kernel)) (d_cons (d_str (w := [108, 101, 116]) (by decide +kernel)) (d_cons (d_str (w := [97, 60, 61, 98]) (by decide +kernel)) (d_cons (d_str (w := [97, 61, 32, 61, 98]) (by decide +kernel)) (d_cons (d_str (w := [49, 32, 101]) (by decide +kernel)) d_nil)))))))))))
      (d_1 (d_ret (d_cmp (oEq (K := K) hr.units) eq_ok (d_lc (own := [("text", 9)]) rfl nd (i_v (d_v (pv 3))) (blkOk_by (own := [("text", 9)]) (N := N_law) (sc := defScope s_law) (by decide +kernel)) (by decide) (fun i _ _ _ _ _ => (g_n (pg_name (i := 9) nd rfl (Or.inl rfl)))) (fun i _ _ _ _ _ => (d_pts1 (dt_cmp op_notN noN_ok (d_call (ok__law_asked T) (hr.mono (by decide)) (by rfl) T.m__law_asked T.F__law_asked.kp T.b__law_asked (fun _ => pAF) (d_cons d_int (d_cons (d_v (pv 9)) d_nil))) d_non (nomark _)))) (fun i _ _ _ _ _ => (d_v (pv 9)))) (d_lst d_nil) (nomark _)))))))))))))
  exact h

end
end P02

set_option Elab.async false
set_option linter.all false
set_option maxRecDepth 100000
set_option maxHeartbeats 4000000
/-! the words of a text: plain functions of lists of codes -/
namespace WD
open PySem LK
def codes (s : String) : List Nat := s.toList.map Char.toNat
def lets : List Nat := [97, 98, 99, 100, 101, 102, 103, 104, 105, 106, 107, 108, 109, 110, 111, 112, 113, 114, 115, 116, 117, 118, 119, 120, 121, 122]
def figs : List Nat := [48, 49, 50, 51, 52, 53, 54, 55, 56, 57]
def sings : List Nat := [43, 45, 42, 47, 126, 60, 62, 33, 63, 58, 46, 44, 61, 40, 41, 123, 125, 91, 93, 59]
def dbls : List (List Nat) := [[60, 61], [62, 61], [61, 61], [33, 61], [38, 38], [124, 124]]
def kept : List (List Nat) := ["let", "if", "else", "while", "return", "fail", "try", "catch", "out", "fn"].map codes
/-- how many signs of s stand ahead -/
def runL (s : List Nat) : List Nat → Nat
  | [] => 0
  | c :: r => if c ∈ s then runL s r + 1 else 0
theorem runL_le (s : List Nat) : ∀ r, runL s r ≤ r.length
  | [] => Nat.le_refl _
  | c :: r => by
    have := runL_le s r
    unfold runL
    split
    · rw [List.length_cons]; omega
    · omega
theorem runL_take (s : List Nat) : ∀ (r : List Nat), ∀ c ∈ r.take (runL s r), c ∈ s
  | [], c, h => by cases h
  | a :: r, c, h => by
    unfold runL at h
    split at h
    · rename_i ha
      rw [List.take_succ_cons, List.mem_cons] at h
      rcases h with rfl | h
      · exact ha
      · exact runL_take s r c h
    · rw [List.take_zero] at h
      cases h
theorem runL_pos {s : List Nat} {c : Nat} {r : List Nat} (h : c ∈ s) : 0 < runL s (c :: r) := by
  unfold runL
  rw [if_pos h]
  omega
/-- a letter or a figure stands ahead -/
def byB : List Nat → Bool
  | [] => false
  | c :: _ => decide (c ∈ lets ++ figs)
/-- the figures behind an e -/
def noughts (r : List Nat) : List Nat := match r with
  | 101 :: t => match t.take (min 2 (runL figs t)) with
    | [] => []
    | 48 :: _ => []
    | f => f
  | _ => []
theorem nou_le (r : List Nat) : (noughts r).length ≤ 2 := by
  unfold noughts
  split
  · rename_i t
    have h : (t.take (min 2 (runL figs t))).length ≤ 2 := by rw [List.length_take]; omega
    split
    · exact Nat.zero_le _
    · exact Nat.zero_le _
    · exact h
  · exact Nat.zero_le _
/-- what a figure text is worth -/
def val (w : List Nat) : Nat := w.foldl (fun a d => 10 * a + (d - 48)) 0
theorem int_one : ∀ a ∈ figs, intText? (toS [a]) = some ((val [a] : Nat) : Int) := by decide +kernel
theorem int_two : ∀ a ∈ figs, ∀ b ∈ figs, intText? (toS [a, b]) = some ((val [a, b] : Nat) : Int) := by decide +kernel
theorem int_val {w : List Nat} (h : ∀ c ∈ w, c ∈ figs) (h1 : w ≠ []) (h2 : w.length ≤ 2) : intText? (toS w) = some ((val w : Nat) : Int) := by
  match w, h1, h2 with
  | [a], _, _ => exact int_one a (h a (by simp))
  | [a, b], _, _ => exact int_two a (h a (by simp)) b (h b (by simp))
  | _ :: _ :: _ :: _, _, h2 => simp at h2
theorem nou_figs (r : List Nat) : ∀ c ∈ noughts r, c ∈ figs := by
  unfold noughts
  split
  · rename_i t
    have h : ∀ c ∈ t.take (min 2 (runL figs t)), c ∈ figs := fun c hc => runL_take figs t c (by
      have e : t.take (min 2 (runL figs t)) = (t.take (runL figs t)).take 2 := by rw [List.take_take]
      rw [e] at hc
      exact List.mem_of_mem_take hc)
    split
    · intro c hc; cases hc
    · intro c hc; cases hc
    · exact h
  · intro c hc; cases hc
/-- many figures, and how long: of a number that begins at r -/
def numb (r : List Nat) : Nat × Nat := match r with
  | 48 :: _ => (1, 1)
  | _ => let n := runL figs r
         let w := noughts (r.drop n)
         if w = [] then (n, n) else (n + val w, n + 1 + w.length)
/-- the word that begins at r: its sort and how long it is -/
def wordAt (r : List Nat) : Option (Str × Nat) := match r with
  | [] => none
  | c :: t =>
    if c ∈ lets then
      let n := runL lets r
      if 12 < n ∨ byB (r.drop n) = true then none else some (if r.take n ∈ kept then "kept" else "name", n)
    else if c ∈ figs then
      let m := numb r
      if 18 < m.1 ∨ byB (r.drop m.2) = true then none else some ("number", m.2)
    else if r.take 2 ∈ dbls then some ("sign", 2)
    else if c ∈ sings then some ("sign", 1)
    else none
theorem noughts_len {n : Nat} (r : List Nat) (h : noughts (r.drop n) ≠ []) : n + 1 + (noughts (r.drop n)).length ≤ r.length := by
  unfold noughts at h ⊢
  split
  · rename_i t e
    have hl : t.length + 1 = (r.drop n).length := by rw [e]; rfl
    have ht : (t.take (min 2 (runL figs t))).length ≤ t.length := by rw [List.length_take]; omega
    rw [List.length_drop] at hl
    rw [e] at h
    have h' : (match t.take (min 2 (runL figs t)) with
      | [] => []
      | 48 :: _ => []
      | f => f : List Nat) ≠ [] := h
    split
    · rename_i e2; rw [e2] at h'; exact absurd rfl h'
    · rename_i e2; rw [e2] at h'; exact absurd rfl h'
    · omega
  · rename_i e
    split at h
    · rename_i t e2
      exact absurd e2 (e t)
    · exact absurd rfl h
theorem numb_le (r : List Nat) : (numb r).2 ≤ r.length := by
  unfold numb
  split
  · rw [List.length_cons]; omega
  · dsimp only
    split
    · exact runL_le figs r
    · rename_i h
      exact noughts_len r h
theorem numb_pos {c : Nat} {t : List Nat} (h : c ∈ figs) : 0 < (numb (c :: t)).2 := by
  unfold numb
  split
  · exact Nat.one_pos
  · dsimp only
    have := runL_pos (r := t) h
    split
    · exact this
    · omega
theorem word_len {r : List Nat} {s : Str} {n : Nat} (h : wordAt r = some (s, n)) : 0 < n ∧ n ≤ r.length := by
  unfold wordAt at h
  split at h
  · cases h
  · rename_i c t
    split at h
    · rename_i hc
      dsimp only at h
      split at h
      · cases h
      · cases h
        exact ⟨runL_pos hc, runL_le _ _⟩
    · split at h
      · rename_i hc
        dsimp only at h
        split at h
        · cases h
        · cases h
          exact ⟨numb_pos hc, numb_le _⟩
      · split at h
        · rename_i h2
          cases h
          refine ⟨by omega, ?_⟩
          cases t with
          | nil => exact absurd h2 (by have : ∀ w ∈ dbls, w.length = 2 := by decide
                                       exact fun z => by have := this _ z; simp at this)
          | cons d t => simp
        · split at h
          · cases h
            exact ⟨by omega, by simp⟩
          · cases h
/-- a word: sort, codes, place -/
abbrev Wo := Str × List Nat × Nat
/-- the words of a text from a place on, and the place at which none begins -/
def wordsF : Nat → List Nat → Nat → List Wo × Option Nat
  | 0, _, _ => ([], none)
  | _ + 1, [], _ => ([], none)
  | f + 1, c :: t, at_ => if c ∈ [32, 10] then wordsF f t (at_ + 1) else match wordAt (c :: t) with
    | none => ([], some at_)
    | some (s, n) => ((s, (c :: t).take n, at_) :: (wordsF f ((c :: t).drop n) (at_ + n)).1, (wordsF f ((c :: t).drop n) (at_ + n)).2)
theorem wordsF_more : ∀ (f : Nat) (r : List Nat) (a : Nat) (g : Nat), r.length ≤ f → r.length ≤ g → wordsF f r a = wordsF g r a
  | 0, r, a, g, h1, h2 => by
    have : r = [] := List.eq_nil_of_length_eq_zero (by omega)
    subst this
    cases g <;> rfl
  | f + 1, [], a, g, h1, h2 => by cases g <;> rfl
  | f + 1, c :: t, a, 0, h1, h2 => by simp at h2
  | f + 1, c :: t, a, g + 1, h1, h2 => by
    rw [List.length_cons] at h1 h2
    unfold wordsF
    split
    · exact wordsF_more f t (a + 1) g (by omega) (by omega)
    · split
      · rfl
      · rename_i s n e
        have hn := word_len e
        rw [List.length_cons] at hn
        have hl : ((c :: t).drop n).length = t.length + 1 - n := by rw [List.length_drop, List.length_cons]
        rw [wordsF_more f ((c :: t).drop n) (a + n) g (by omega) (by omega)]
def words (cs : List Nat) : List Wo × Option Nat := wordsF cs.length cs 0
/-- from the place a on -/
def wordsAt (cs : List Nat) (a : Nat) : List Wo × Option Nat := wordsF cs.length (cs.drop a) a
theorem wordsAt_end {cs : List Nat} {a : Nat} (h : cs.length ≤ a) : wordsAt cs a = ([], none) := by
  unfold wordsAt
  rw [List.drop_eq_nil_of_le h]
  cases cs.length <;> rfl
theorem wordsAt_blank {cs t : List Nat} {a c : Nat} (e : cs.drop a = c :: t) (h : c ∈ [32, 10]) : wordsAt cs a = wordsAt cs (a + 1) := by
  have hl : cs.length = (cs.length - 1) + 1 := by
    have := congrArg List.length e
    rw [List.length_drop, List.length_cons] at this
    omega
  have e2 : cs.drop (a + 1) = t := by rw [← List.drop_drop, e]; rfl
  have ht : t.length ≤ cs.length - 1 := by
    have := congrArg List.length e
    rw [List.length_drop, List.length_cons] at this
    omega
  unfold wordsAt
  rw [e, e2, hl]
  show (if c ∈ [32, 10] then _ else _) = _
  rw [if_pos h]
  exact wordsF_more _ _ _ _ ht (by omega)
theorem wordsAt_bad {cs t : List Nat} {a c : Nat} (e : cs.drop a = c :: t) (h : c ∉ [32, 10]) (hw : wordAt (c :: t) = none) : wordsAt cs a = ([], some a) := by
  have hl : cs.length = (cs.length - 1) + 1 := by
    have := congrArg List.length e
    rw [List.length_drop, List.length_cons] at this
    omega
  unfold wordsAt
  rw [e, hl]
  unfold wordsF
  rw [if_neg h, hw]
theorem wordsAt_word {cs t : List Nat} {a c : Nat} {s : Str} {n : Nat} (e : cs.drop a = c :: t) (h : c ∉ [32, 10]) (hw : wordAt (c :: t) = some (s, n)) :
    wordsAt cs a = ((s, (c :: t).take n, a) :: (wordsAt cs (a + n)).1, (wordsAt cs (a + n)).2) := by
  have hn := word_len hw
  have hcl := congrArg List.length e
  rw [List.length_drop, List.length_cons] at hcl
  rw [List.length_cons] at hn
  have hl : cs.length = (cs.length - 1) + 1 := by omega
  have e2 : cs.drop (a + n) = (c :: t).drop n := by rw [← List.drop_drop, e]
  have ht : ((c :: t).drop n).length = t.length + 1 - n := by rw [List.length_drop, List.length_cons]
  have k : wordsF (cs.length - 1) ((c :: t).drop n) (a + n) = wordsAt cs (a + n) := by
    unfold wordsAt
    rw [e2]
    exact wordsF_more _ _ _ _ (by omega) (by omega)
  have step : wordsF (cs.length - 1 + 1) (c :: t) a = ((s, (c :: t).take n, a) :: (wordsF (cs.length - 1) ((c :: t).drop n) (a + n)).1, (wordsF (cs.length - 1) ((c :: t).drop n) (a + n)).2) := by
    conv => lhs; unfold wordsF
    rw [if_neg h, hw]
  show wordsF cs.length (cs.drop a) a = _
  rw [e, show wordsF cs.length (c :: t) a = wordsF (cs.length - 1 + 1) (c :: t) a by rw [← hl], step, k]
end WD
namespace WD
open PySem PySem.Spec PyProof.Rows L2 LK
theorem lets_lit : ("abcdefghijklmnopqrstuvwxyz" : Str) = toS lets := by decide +kernel
theorem figs_lit : ("0123456789" : Str) = toS figs := by decide +kernel
theorem sings_lit : ("+-*/~<>!?:.,=(){}[];" : Str) = toS sings := by decide +kernel
theorem blank_lit : (" \n" : Str) = toS [32, 10] := by decide +kernel
theorem e_lit : ("e" : Str) = toS [101] := by decide +kernel
theorem n_lit : ("0" : Str) = toS [48] := by decide +kernel
theorem nil_lit : ("" : Str) = toS [] := by decide +kernel
theorem kept_lit : ([.str "let", .str "if", .str "else", .str "while", .str "return", .str "fail", .str "try", .str "catch", .str "out", .str "fn"] : List V) = kept.map fun a => V.str (toS a) := by decide +kernel
theorem dbls_lit : ([.str "<=", .str ">=", .str "==", .str "!=", .str "&&", .str "||"] : List V) = dbls.map fun a => V.str (toS a) := by decide +kernel
theorem noz_lit : ([.str "", .str "0"] : List V) = [[], [48]].map fun a => V.str (toS a) := by decide +kernel
/-- the refusal of a text at a place -/
def errAt (K : PySem.W.Frag) (E : XK) (H : Hp) (a : Nat) : Prop := ∀ d H', Same H H' → H' d = some (.xd [("at", .int a)]) → E (.ref (He.ga K "NoText")) (some d) H'
/-- a word as a tuple -/
def woV (w : Wo) : List V := [.str w.1, .str (toS w.2.1), .int w.2.2]
def woD (w : Wo) : PyData := .tuple [.str w.1, .str (toS w.2.1), .int w.2.2]
inductive Tups (K : PySem.W.Frag) (H : Hp) : List V → List Wo → Prop
  | nil : Tups K H [] []
  | cons {q : Addr} {w : Wo} {vs : List V} {ws : List Wo} (h : SqT K H q (woV w)) (r : Tups K H vs ws) : Tups K H (.ref q :: vs) (w :: ws)
section
variable {K : PySem.W.Frag} {H H2 : Hp}
theorem Tups.app : ∀ {vs : List V} {ws : List Wo} {q : Addr} {w : Wo}, Tups K H vs ws → SqT K H q (woV w) → Tups K H (vs ++ [.ref q]) (ws ++ [w])
  | _, _, _, _, .nil, h => .cons h .nil
  | _, _, _, _, .cons a r, h => .cons a (r.app h)
theorem Tups.same (e : Same H H2) : ∀ {vs : List V} {ws : List Wo}, Tups K H vs ws → Tups K H2 vs ws
  | _, _, .nil => .nil
  | _, _, .cons a r => .cons (Same.seqT e a) (Tups.same e r)
theorem Tups.but {p : Addr} {ys : List V} (b : But p H H2) (hp : H p = some (.lst ys)) : ∀ {vs : List V} {ws : List Wo}, Tups K H vs ws → Tups K H2 vs ws
  | _, _, .nil => .nil
  | _, _, .cons a r => .cons (But.seqT b hp a) (Tups.but b hp r)
theorem Tups.dp : ∀ {vs : List V} {ws : List Wo}, Tups K H vs ws → DpAll K H vs (ws.map woD)
  | _, _, .nil => .nil
  | _, _, .cons a r => .cons (.tup a (.cons (.str _) (.cons (.str _) (.cons (.int _) .nil)))) r.dp
theorem Tups.len : ∀ {vs : List V} {ws : List Wo}, Tups K H vs ws → vs.length = ws.length
  | _, _, .nil => rfl
  | _, _, .cons _ r => congrArg Nat.succ r.len
end
end WD
namespace WD
open PySem PySem.Spec PyProof.Rows L2 LK
def spRunEnd : Sp := fun vs H Q _ => ∃ (cs : List Nat) (a : Nat) (sg : List Nat), vs = [.str (toS cs), .int a, .str (toS sg)] ∧ a ≤ cs.length ∧ cs.length ≤ 100000 ∧ Q (.int ((a + runL sg (cs.drop a) : Nat) : Int)) H
def spStandsBy : Sp := fun vs H Q _ => ∃ (cs : List Nat) (a : Nat), vs = [.str (toS cs), .int a] ∧ cs.length ≤ 100000 ∧ Q (.bl (byB (cs.drop a))) H
def longL (r : List Nat) : Prop := 12 < runL lets r ∨ byB (r.drop (runL lets r)) = true
def spLettersEnd (K : PySem.W.Frag) : Sp := fun vs H Q E => ∃ (cs : List Nat) (a : Nat), vs = [.str (toS cs), .int a] ∧ a < cs.length ∧ cs.length ≤ 100000 ∧ (longL (cs.drop a) → errAt K E H a) ∧ (¬ longL (cs.drop a) → Q (.int ((a + runL lets (cs.drop a) : Nat) : Int)) H)
def spNoughts : Sp := fun vs H Q _ => ∃ (cs : List Nat) (a : Nat), vs = [.str (toS cs), .int a] ∧ cs.length ≤ 100000 ∧ ∀ H', Same H H' → Q (.str (toS (noughts (cs.drop a)))) H'
def longF (r : List Nat) : Prop := 18 < (numb r).1 ∨ byB (r.drop (numb r).2) = true
def spFiguresEnd (K : PySem.W.Frag) : Sp := fun vs H Q E => ∃ (cs : List Nat) (a : Nat), vs = [.str (toS cs), .int a] ∧ a < cs.length ∧ cs.length ≤ 100000 ∧ (longF (cs.drop a) → errAt K E H a) ∧ (¬ longF (cs.drop a) → ∀ H', Same H H' → Q (.int ((a + (numb (cs.drop a)).2 : Nat) : Int)) H')
def spWordAt (K : PySem.W.Frag) : Sp := fun vs H Q E => ∃ (cs : List Nat) (a : Nat), vs = [.str (toS cs), .int a] ∧ a < cs.length ∧ cs.length ≤ 100000 ∧ (wordAt (cs.drop a) = none → errAt K E H a) ∧
  ∀ s n, wordAt (cs.drop a) = some (s, n) → ∀ p H', H p = none → Same H H' → H' p = some (.tup [.str s, .str (toS ((cs.drop a).take n))]) → Q (.ref p) H'
def spWords (K : PySem.W.Frag) : Sp := fun vs H Q E => ∃ cs : List Nat, vs = [.str (toS cs)] ∧ cs.length ≤ 100000 ∧ (∀ a, (words cs).2 = some a → errAt K E H a) ∧
  ((words cs).2 = none → ∀ p H' vs, H p = none → Same H H' → H' p = some (.lst vs) → Tups K H' vs (words cs).1 → Q (.ref p) H')
end WD
namespace WD
open PySem LK
section
variable {c : Nat} {t : List Nat}
theorem wa_cons : wordAt (c :: t) = if c ∈ lets then (if 12 < runL lets (c :: t) ∨ byB ((c :: t).drop (runL lets (c :: t))) = true then none else some (if (c :: t).take (runL lets (c :: t)) ∈ kept then ("kept" : Str) else ("name" : Str), runL lets (c :: t)))
    else if c ∈ figs then (if 18 < (numb (c :: t)).1 ∨ byB ((c :: t).drop (numb (c :: t)).2) = true then none else some (("number" : Str), (numb (c :: t)).2))
    else if (c :: t).take 2 ∈ dbls then some (("sign" : Str), 2) else if c ∈ sings then some (("sign" : Str), 1) else none := rfl
theorem wa_letL (hc : c ∈ lets) (h : longL (c :: t)) : wordAt (c :: t) = none := by rw [wa_cons, if_pos hc]; exact if_pos h
theorem wa_let (hc : c ∈ lets) (h : ¬ longL (c :: t)) : wordAt (c :: t) = some (if (c :: t).take (runL lets (c :: t)) ∈ kept then ("kept" : Str) else ("name" : Str), runL lets (c :: t)) := by rw [wa_cons, if_pos hc]; exact if_neg h
theorem wa_figL (hc : c ∉ lets) (hf : c ∈ figs) (h : longF (c :: t)) : wordAt (c :: t) = none := by rw [wa_cons, if_neg hc, if_pos hf]; exact if_pos h
theorem wa_fig (hc : c ∉ lets) (hf : c ∈ figs) (h : ¬ longF (c :: t)) : wordAt (c :: t) = some (("number" : Str), (numb (c :: t)).2) := by rw [wa_cons, if_neg hc, if_pos hf]; exact if_neg h
theorem wa_dbl (hc : c ∉ lets) (hf : c ∉ figs) (h : (c :: t).take 2 ∈ dbls) : wordAt (c :: t) = some (("sign" : Str), 2) := by rw [wa_cons, if_neg hc, if_neg hf, if_pos h]
theorem wa_sing (hc : c ∉ lets) (hf : c ∉ figs) (h2 : (c :: t).take 2 ∉ dbls) (h : c ∈ sings) : wordAt (c :: t) = some (("sign" : Str), 1) := by rw [wa_cons, if_neg hc, if_neg hf, if_neg h2, if_pos h]
theorem wa_none (hc : c ∉ lets) (hf : c ∉ figs) (h2 : (c :: t).take 2 ∉ dbls) (h : c ∉ sings) : wordAt (c :: t) = none := by rw [wa_cons, if_neg hc, if_neg hf, if_neg h2, if_neg h]
end
end WD
namespace WD
open PySem PySem.Spec PyProof.Rows L2 LK
def nz : List Nat := [49, 50, 51, 52, 53, 54, 55, 56, 57]
theorem nz_lit : ([.str "1", .str "2", .str "3", .str "4", .str "5", .str "6", .str "7", .str "8", .str "9"] : List V) = (nz.map fun c => [c]).map fun a => V.str (toS a) := by decide +kernel
theorem nz_figs : ∀ c ∈ nz, c ∈ figs := by decide
theorem nz_of : ∀ c ∈ figs, c ≠ 48 → c ∈ nz := by decide
theorem nou_two {d d2 : Nat} {t : List Nat} (h : d ∈ nz) (h2 : d2 ∈ figs) : noughts (101 :: d :: d2 :: t) = [d, d2] := by
  have h0 : d ≠ 48 := fun z => by rw [z] at h; exact absurd h (by decide)
  have e : (d :: d2 :: t).take (min 2 (runL figs (d :: d2 :: t))) = [d, d2] := by
    have : runL figs (d :: d2 :: t) = runL figs t + 1 + 1 := by
      show (if _ then (if _ then _ else _) + 1 else _) = _
      rw [if_pos (nz_figs d h), if_pos h2]
    rw [this, show min 2 (runL figs t + 1 + 1) = 2 by omega]
    rfl
  show (match (d :: d2 :: t).take (min 2 (runL figs (d :: d2 :: t))) with
    | [] => []
    | 48 :: _ => []
    | f => f) = _
  rw [e]
  split
  · rename_i z; cases z
  · rename_i z; cases z; exact absurd rfl h0
  · rfl
theorem nou_one {d : Nat} {t : List Nat} (h : d ∈ nz) (h2 : ∀ d2 t2, t = d2 :: t2 → d2 ∉ figs) : noughts (101 :: d :: t) = [d] := by
  have h0 : d ≠ 48 := fun z => by rw [z] at h; exact absurd h (by decide)
  have e : (d :: t).take (min 2 (runL figs (d :: t))) = [d] := by
    have h3 : runL figs t = 0 := by
      cases t with
      | nil => rfl
      | cons d2 t2 =>
        show (if _ then _ else _) = _
        rw [if_neg (h2 d2 t2 rfl)]
    have : runL figs (d :: t) = 1 := by
      show (if _ then _ else _) = _
      rw [if_pos (nz_figs d h), h3]
    rw [this]
    rfl
  show (match (d :: t).take (min 2 (runL figs (d :: t))) with
    | [] => []
    | 48 :: _ => []
    | f => f) = _
  rw [e]
  split
  · rename_i z; cases z
  · rename_i z; cases z; exact absurd rfl h0
  · rfl
theorem nou_none {r : List Nat} (h : ∀ d t, r = 101 :: d :: t → d ∉ nz) : noughts r = [] := by
  unfold noughts
  split
  · rename_i t
    cases t with
    | nil => rfl
    | cons d t =>
      have hd := h d t rfl
      by_cases hf : d ∈ figs
      · have h0 : d = 48 := Classical.byContradiction fun z => hd (nz_of d hf z)
        subst h0
        have : runL figs (48 :: t) = runL figs t + 1 := by
          show (if _ then _ else _) = _
          rw [if_pos hf]
        rw [this]
        obtain ⟨m, hm⟩ : ∃ m, min 2 (runL figs t + 1) = m + 1 := ⟨min 2 (runL figs t + 1) - 1, by omega⟩
        rw [hm]
        rfl
      · have : runL figs (d :: t) = 0 := by
          show (if _ then _ else _) = _
          rw [if_neg hf]
        rw [this]
        rfl
  · rfl
def spNumEnd : Sp := fun vs H Q _ => ∃ (cs : List Nat) (a c : Nat) (t : List Nat), vs = [.str (toS cs), .int a] ∧ cs.drop a = c :: t ∧ c ∈ figs ∧ cs.length ≤ 100000 ∧
  ∀ p H', H p = none → Same H H' → H' p = some (.tup [.int ((a + (numb (c :: t)).2 : Nat) : Int), .int ((numb (c :: t)).1 : Nat)]) → Q (.ref p) H'
def spLawWordAt : Sp := fun vs H Q _ => ∃ (cs : List Nat) (a : Nat), vs = [.str (toS cs), .int a] ∧ a < cs.length ∧ cs.length ≤ 100000 ∧ (wordAt (cs.drop a) = none → ∀ H', Same H H' → Q .non H') ∧
  ∀ s n, wordAt (cs.drop a) = some (s, n) → ∀ p H', H p = none → Same H H' → H' p = some (.tup (woV (s, (cs.drop a).take n, a))) → Q (.ref p) H'
def opt : Option Nat → V
  | none => .non
  | some a => .int a
def spLawWords (K : PySem.W.Frag) : Sp := fun vs H Q _ => ∃ cs : List Nat, vs = [.str (toS cs)] ∧ cs.length ≤ 100000 ∧
  ∀ p q H' vs, Same H H' → SqT K H' p [.ref q, opt (words cs).2] → H q = none → H' q = some (.lst vs) → Tups K H' vs (words cs).1 → Q (.ref p) H'
end WD
namespace WD
open PySem PySem.Spec PyProof.Rows L2 LK
/-- a text of proper codes, not long -/
def Txt (n : Nat) (cs : List Nat) : Prop := (∀ c ∈ cs, c < 1114112) ∧ cs.length ≤ n
theorem Txt.app {n m : Nat} {a b : List Nat} (x : Txt n a) (y : Txt m b) : Txt (n + m) (a ++ b) := by
  refine ⟨fun c hc => ?_, ?_⟩
  · rcases List.mem_append.mp hc with h | h
    · exact x.1 c h
    · exact y.1 c h
  · rw [List.length_append]
    have := x.2
    have := y.2
    omega
theorem Txt.mono {n m : Nat} {a : List Nat} (x : Txt n a) (h : n ≤ m) : Txt m a := ⟨x.1, Nat.le_trans x.2 h⟩
theorem Txt.sub {n : Nat} {a b : List Nat} (x : Txt n a) (h : ∀ c ∈ b, c ∈ a) (l : b.length ≤ a.length) : Txt n b := ⟨fun c hc => x.1 c (h c hc), Nat.le_trans l x.2⟩
theorem Txt.ok {n : Nat} {a : List Nat} (x : Txt n a) : PyData.strOk (toS a) = true := by
  show (toS a).cps.all (fun x => decide (x < 0x110000)) = true
  rw [Array.all_eq_true]
  intro i hi
  refine decide_eq_true (x.1 _ ?_)
  show a.toArray[i] ∈ a
  simp
def txtB (n : Nat) : V → Bool
  | .str z => (z.cps.toList.all fun c => decide (c < 1114112)) && decide (z.cps.toList.length ≤ n)
  | _ => false
theorem txtB_ok {n : Nat} {v : V} (h : txtB n v = true) : ∃ a, v = .str (toS a) ∧ Txt n a := by
  cases v with
  | str z =>
    obtain ⟨h1, h2⟩ := Bool.and_eq_true_iff.mp (show ((z.cps.toList.all fun c => decide (c < 1114112)) && decide (z.cps.toList.length ≤ n)) = true from h)
    exact ⟨z.cps.toList, by rw [← toS_of], fun c hc => of_decide_eq_true (List.all_eq_true.mp h1 c hc), of_decide_eq_true h2⟩
  | _ => cases h
def sorts : List Str := ["kept", "name", "number", "sign"]
theorem word_sort {r : List Nat} {s : Str} {n : Nat} (h : wordAt r = some (s, n)) : s ∈ sorts := by
  cases r with
  | nil => cases h
  | cons c t =>
    rw [wa_cons] at h
    split at h
    · split at h
      · cases h
      · cases h
        split
        · simp [sorts]
        · simp [sorts]
    · split at h
      · split at h
        · cases h
        · cases h
          simp [sorts]
      · split at h
        · cases h
          simp [sorts]
        · split at h
          · cases h
            simp [sorts]
          · cases h
theorem wordsF_of : ∀ (f : Nat) (r : List Nat) (a : Nat), ∀ w ∈ (wordsF f r a).1, w.1 ∈ sorts ∧ w.2.1.length ≤ r.length ∧ ∀ c ∈ w.2.1, c ∈ r
  | 0, r, a, w, h => by cases h
  | f + 1, [], a, w, h => by cases h
  | f + 1, c :: t, a, w, h => by
    unfold wordsF at h
    split at h
    · have z := wordsF_of f t (a + 1) w h
      exact ⟨z.1, Nat.le_succ_of_le z.2.1, fun x hx => List.mem_cons_of_mem _ (z.2.2 x hx)⟩
    · split at h
      · cases h
      · rename_i s n e
        rcases List.mem_cons.mp h with rfl | h
        · exact ⟨word_sort e, by rw [List.length_take]; exact Nat.min_le_right .., fun x hx => List.mem_of_mem_take hx⟩
        · have z := wordsF_of f _ _ w h
          refine ⟨z.1, Nat.le_trans z.2.1 (by rw [List.length_drop]; exact Nat.sub_le ..), fun x hx => List.mem_of_mem_drop (z.2.2 x hx)⟩
theorem sorts_ok : ∀ s ∈ sorts, PyData.strOk s = true := by decide +kernel
theorem lay_words : ∀ ws : List Wo, (∀ w ∈ ws, PyData.strOk w.1 = true ∧ PyData.strOk (toS w.2.1) = true) → PyData.canLayAll0 (ws.map woD) = true ∧ PyData.depthAll (ws.map woD) ≤ 4
  | [], _ => ⟨rfl, Nat.zero_le _⟩
  | w :: ws, h => by
    obtain ⟨h1, h2⟩ := lay_words ws fun x hx => h x (List.mem_cons_of_mem _ hx)
    obtain ⟨h3, h4⟩ := h w (List.mem_cons_self ..)
    rw [List.map_cons]
    constructor
    · show (PyData.canLay0 (woD w) && PyData.canLayAll0 (ws.map woD)) = true
      rw [h1, Bool.and_true]
      simp only [woD, PyData.canLay0, PyData.canLayAll0, h3, h4, Bool.and_true]
    · simp only [woD, PyData.depth, PyData.depthAll] at h2 ⊢
      omega
theorem shaped_words {n : Nat} {cs : List Nat} (x : Txt n cs) : PySem.SeqAt.shaped (.list ((words cs).1.map woD)) = true := by
  obtain ⟨h1, h2⟩ := lay_words (words cs).1 fun w hw => by
    obtain ⟨z1, z2, z3⟩ := wordsF_of cs.length cs 0 w hw
    exact ⟨sorts_ok _ z1, (x.sub z3 z2).ok⟩
  show (PyData.canLay0 (.list ((words cs).1.map woD)) && decide (PyData.depth (.list ((words cs).1.map woD)) ≤ 64)) = true
  have h3 : PyData.depth (.list ((words cs).1.map woD)) ≤ 64 := by
    simp only [PyData.depth]
    omega
  rw [decide_eq_true h3, Bool.and_true]
  simp only [PyData.canLay0]
  exact h1
end WD
namespace WD
open PySem LK
theorem wordsF_len : ∀ (f : Nat) (r : List Nat) (a : Nat), (wordsF f r a).1.length ≤ r.length
  | 0, r, a => Nat.zero_le _
  | f + 1, [], a => Nat.zero_le _
  | f + 1, c :: t, a => by
    unfold wordsF
    split
    · exact Nat.le_succ_of_le (wordsF_len f t (a + 1))
    · split
      · exact Nat.zero_le _
      · rename_i s n e
        have hn := word_len e
        have z := wordsF_len f ((c :: t).drop n) (a + n)
        rw [List.length_drop] at z
        show (wordsF f ((c :: t).drop n) (a + n)).1.length + 1 ≤ _
        omega
theorem words_len (cs : List Nat) : (words cs).1.length ≤ cs.length := wordsF_len _ _ _
end WD

set_option Elab.async false
set_option linter.all false
set_option maxRecDepth 100000
set_option maxHeartbeats 4000000
namespace P02
open PySem L2 LK DL WD
theorem sz : sizeLine = 16777216 := rfl
theorem a_aug {i : Nat} {f : D → D → Option D} {e : DE} {ρ : DS} : dAug i f e ρ = match gs ρ i with
  | .fz c => (e ρ).bind fun a ρ1 => match f c a.z with
    | some d => .ok .nx (ρ1.set i (.fz d))
    | none => .bad
  | _ => .bad := rfl
theorem g_add {x y : Int} : aAdd (.int x) (.int y) = some (.int (x + y)) := rfl
theorem ix_str {w : List Nat} {n : Nat} {c : Nat} (hz : w.length ≤ sizeLine) (h : w[n]? = some c) : fIx (.str w) (.int (n : Nat)) = some (.fz (.str [c])) := by
  rw [f_ixS, if_pos hz, at_nat, h]
  rfl
theorem drop_at {w : List Nat} {n : Nat} (h : n < w.length) : w.drop n = w[n] :: w.drop (n + 1) := List.drop_eq_getElem_cons h
/-! the ends of runs -/
theorem loop_run {cs sg : List Nat} (hz : cs.length ≤ sizeLine) : ∀ (n b F : Nat), cs.length - b ≤ n → b ≤ cs.length → n < F →
    dWhile (dAnd (dTb (dOp2 fLt (dVar 1) (dLenO 0))) (dTb (dOp2 fIn (dPk 0 (dVar 1)) (dVar 2)))) (dAug 1 aAdd (dC (.int 1))) F [.fz (.str cs), .fz (.int (b : Nat)), .fz (.str sg)] = .ok .nx [.fz (.str cs), .fz (.int (b + runL sg (cs.drop b) : Nat)), .fz (.str sg)] := by
  intro n
  induction n with
  | zero =>
    intro b F h1 h2 h3
    obtain ⟨F, rfl⟩ : ∃ G, F = G + 1 := ⟨F - 1, by omega⟩
    have hb : ¬ ((b : Nat) : Int) < (cs.length : Nat) := by omega
    have e : cs.drop b = [] := List.drop_eq_nil_of_le (by omega)
    rw [e]
    simp only [a_whl, a_nonV, a_pk, a_lenO, a_mP, a_mL, a_mB, a_run, a_runB, a_nx, a_seq, a_if, a_ret, a_retN, a_brk, a_cnt, a_drop, a_asg, a_forS, a_for0, a_var, a_mov, a_C, a_nil, a_cons, a_op1, a_op2, a_opN, a_te, a_tb, a_not, a_and, a_or, a_yes, a_andE, a_orE, a_notE, a_ifE, a_call, a_callK, a_callB, a_app, a_sto, a_sl, a_on, a_os, a_itV, a_itN, a_lc, a_m1, a_raP, a_raN, a_chain, a_try, a_gN, a_gE, a_gP, a_gW1, a_gW2, a_gW3, z_fz, z_ow, s_fz, s_ow, o_ow, o_bw, w_nil, w_cons, i_lst, i_tup, i_str, b_bl, t_bl, t_non, n_int, f_addI, f_addL, f_I, f_sub, f_eqI, f_neI, f_eqS, f_neS, f_ltI, f_leI, f_gtI, f_geI, f_lenL, f_lenT, f_lenC, f_lenS, f_lst, f_tup, f_ixL, f_ixT, f_zLT, f_zTT, f_zLL, f_all, f_any, f_tuL, rs_bind_ok, rs_bind_err, rs_of_some, rs_res_ok, rs_res_err, gs_0, gs_1, gs_2, gs_3, gs_4, gs_5, gs_6, gs_7, gs_8, gs_9, gs_10, gs_11, gs_12, ent, entB, Option.map_some, Option.bind_some, List.length_cons, List.length_nil, List.length_map, List.map_cons, List.map_nil, List.replicate, List.cons_append, List.nil_append, List.set_cons_zero, List.set_cons_succ, Nat.reduceAdd, Nat.reduceSub, Nat.zero_add, if_true, f_lenS, hz, hb, decide_false, Bool.false_eq_true, if_false, runL, Nat.add_zero]
  | succ n ih =>
    intro b F h1 h2 h3
    obtain ⟨F, rfl⟩ : ∃ G, F = G + 1 := ⟨F - 1, by omega⟩
    by_cases hb : b < cs.length
    · have hb' : ((b : Nat) : Int) < (cs.length : Nat) := by omega
      have hx := ix_str hz (List.getElem?_eq_getElem hb)
      rw [drop_at hb]
      by_cases hc : cs[b] ∈ sg
      · have e1 : ((b : Nat) : Int) + 1 = ((b + 1 : Nat) : Int) := by omega
        have := ih (b + 1) F (by omega) (by omega) (by omega)
        simp only [a_whl, a_nonV, a_pk, a_lenO, a_mP, a_mL, a_mB, a_run, a_runB, a_nx, a_seq, a_if, a_ret, a_retN, a_brk, a_cnt, a_drop, a_asg, a_forS, a_for0, a_var, a_mov, a_C, a_nil, a_cons, a_op1, a_op2, a_opN, a_te, a_tb, a_not, a_and, a_or, a_yes, a_andE, a_orE, a_notE, a_ifE, a_call, a_callK, a_callB, a_app, a_sto, a_sl, a_on, a_os, a_itV, a_itN, a_lc, a_m1, a_raP, a_raN, a_chain, a_try, a_gN, a_gE, a_gP, a_gW1, a_gW2, a_gW3, z_fz, z_ow, s_fz, s_ow, o_ow, o_bw, w_nil, w_cons, i_lst, i_tup, i_str, b_bl, t_bl, t_non, n_int, f_addI, f_addL, f_I, f_sub, f_eqI, f_neI, f_eqS, f_neS, f_ltI, f_leI, f_gtI, f_geI, f_lenL, f_lenT, f_lenC, f_lenS, f_lst, f_tup, f_ixL, f_ixT, f_zLT, f_zTT, f_zLL, f_all, f_any, f_tuL, rs_bind_ok, rs_bind_err, rs_of_some, rs_res_ok, rs_res_err, gs_0, gs_1, gs_2, gs_3, gs_4, gs_5, gs_6, gs_7, gs_8, gs_9, gs_10, gs_11, gs_12, ent, entB, Option.map_some, Option.bind_some, List.length_cons, List.length_nil, List.length_map, List.map_cons, List.map_nil, List.replicate, List.cons_append, List.nil_append, List.set_cons_zero, List.set_cons_succ, Nat.reduceAdd, Nat.reduceSub, Nat.zero_add, if_true, f_lenS, hz, hb', decide_true, hx, f_in1, hc, a_aug, g_add, e1]
        rw [this, runL, if_pos hc, show b + 1 + runL sg (cs.drop (b + 1)) = b + (runL sg (cs.drop (b + 1)) + 1) by omega]
      · simp only [a_whl, a_nonV, a_pk, a_lenO, a_mP, a_mL, a_mB, a_run, a_runB, a_nx, a_seq, a_if, a_ret, a_retN, a_brk, a_cnt, a_drop, a_asg, a_forS, a_for0, a_var, a_mov, a_C, a_nil, a_cons, a_op1, a_op2, a_opN, a_te, a_tb, a_not, a_and, a_or, a_yes, a_andE, a_orE, a_notE, a_ifE, a_call, a_callK, a_callB, a_app, a_sto, a_sl, a_on, a_os, a_itV, a_itN, a_lc, a_m1, a_raP, a_raN, a_chain, a_try, a_gN, a_gE, a_gP, a_gW1, a_gW2, a_gW3, z_fz, z_ow, s_fz, s_ow, o_ow, o_bw, w_nil, w_cons, i_lst, i_tup, i_str, b_bl, t_bl, t_non, n_int, f_addI, f_addL, f_I, f_sub, f_eqI, f_neI, f_eqS, f_neS, f_ltI, f_leI, f_gtI, f_geI, f_lenL, f_lenT, f_lenC, f_lenS, f_lst, f_tup, f_ixL, f_ixT, f_zLT, f_zTT, f_zLL, f_all, f_any, f_tuL, rs_bind_ok, rs_bind_err, rs_of_some, rs_res_ok, rs_res_err, gs_0, gs_1, gs_2, gs_3, gs_4, gs_5, gs_6, gs_7, gs_8, gs_9, gs_10, gs_11, gs_12, ent, entB, Option.map_some, Option.bind_some, List.length_cons, List.length_nil, List.length_map, List.map_cons, List.map_nil, List.replicate, List.cons_append, List.nil_append, List.set_cons_zero, List.set_cons_succ, Nat.reduceAdd, Nat.reduceSub, Nat.zero_add, if_true, f_lenS, hz, hb', decide_true, hx, f_in1, hc, decide_false, Bool.false_eq_true, if_false]
        rw [runL, if_neg hc, Nat.add_zero]
    · have hb' : ¬ ((b : Nat) : Int) < (cs.length : Nat) := by omega
      have e : cs.drop b = [] := List.drop_eq_nil_of_le (by omega)
      rw [e]
      simp only [a_whl, a_nonV, a_pk, a_lenO, a_mP, a_mL, a_mB, a_run, a_runB, a_nx, a_seq, a_if, a_ret, a_retN, a_brk, a_cnt, a_drop, a_asg, a_forS, a_for0, a_var, a_mov, a_C, a_nil, a_cons, a_op1, a_op2, a_opN, a_te, a_tb, a_not, a_and, a_or, a_yes, a_andE, a_orE, a_notE, a_ifE, a_call, a_callK, a_callB, a_app, a_sto, a_sl, a_on, a_os, a_itV, a_itN, a_lc, a_m1, a_raP, a_raN, a_chain, a_try, a_gN, a_gE, a_gP, a_gW1, a_gW2, a_gW3, z_fz, z_ow, s_fz, s_ow, o_ow, o_bw, w_nil, w_cons, i_lst, i_tup, i_str, b_bl, t_bl, t_non, n_int, f_addI, f_addL, f_I, f_sub, f_eqI, f_neI, f_eqS, f_neS, f_ltI, f_leI, f_gtI, f_geI, f_lenL, f_lenT, f_lenC, f_lenS, f_lst, f_tup, f_ixL, f_ixT, f_zLT, f_zTT, f_zLL, f_all, f_any, f_tuL, rs_bind_ok, rs_bind_err, rs_of_some, rs_res_ok, rs_res_err, gs_0, gs_1, gs_2, gs_3, gs_4, gs_5, gs_6, gs_7, gs_8, gs_9, gs_10, gs_11, gs_12, ent, entB, Option.map_some, Option.bind_some, List.length_cons, List.length_nil, List.length_map, List.map_cons, List.map_nil, List.replicate, List.cons_append, List.nil_append, List.set_cons_zero, List.set_cons_succ, Nat.reduceAdd, Nat.reduceSub, Nat.zero_add, if_true, f_lenS, hz, hb', decide_false, Bool.false_eq_true, if_false, runL, Nat.add_zero]
theorem e_run {cs sg : List Nat} {a : Nat} (hl : cs.length ≤ 100000) (ha : a ≤ cs.length) : m_run_end [.str cs, .int (a : Nat), .str sg] = .ok (.fz (.int (a + runL sg (cs.drop a) : Nat))) := by
  have hF : 200000 < FUEL := by decide
  have h := loop_run (sg := sg) (show cs.length ≤ sizeLine by rw [sz]; omega) (cs.length - a) a FUEL (Nat.le_refl _) ha (by omega)
  simp only [m_run_end, c_run_end, a_nonV, a_pk, a_lenO, a_mP, a_mL, a_mB, a_run, a_runB, a_nx, a_seq, a_if, a_ret, a_retN, a_brk, a_cnt, a_drop, a_asg, a_forS, a_for0, a_var, a_mov, a_C, a_nil, a_cons, a_op1, a_op2, a_opN, a_te, a_tb, a_not, a_and, a_or, a_yes, a_andE, a_orE, a_notE, a_ifE, a_call, a_callK, a_callB, a_app, a_sto, a_sl, a_on, a_os, a_itV, a_itN, a_lc, a_m1, a_raP, a_raN, a_chain, a_try, a_gN, a_gE, a_gP, a_gW1, a_gW2, a_gW3, z_fz, z_ow, s_fz, s_ow, o_ow, o_bw, w_nil, w_cons, i_lst, i_tup, i_str, b_bl, t_bl, t_non, n_int, f_addI, f_addL, f_I, f_sub, f_eqI, f_neI, f_eqS, f_neS, f_ltI, f_leI, f_gtI, f_geI, f_lenL, f_lenT, f_lenC, f_lenS, f_lst, f_tup, f_ixL, f_ixT, f_zLT, f_zTT, f_zLL, f_all, f_any, f_tuL, rs_bind_ok, rs_bind_err, rs_of_some, rs_res_ok, rs_res_err, gs_0, gs_1, gs_2, gs_3, gs_4, gs_5, gs_6, gs_7, gs_8, gs_9, gs_10, gs_11, gs_12, ent, entB, Option.map_some, Option.bind_some, List.length_cons, List.length_nil, List.length_map, List.map_cons, List.map_nil, List.replicate, List.cons_append, List.nil_append, List.set_cons_zero, List.set_cons_succ, Nat.reduceAdd, Nat.reduceSub, Nat.zero_add, if_true, h]
theorem e_by {cs : List Nat} {a : Nat} (hl : cs.length ≤ 100000) : m_stands_by [.str cs, .int (a : Nat)] = .ok (.fz (.bl (byB (cs.drop a)))) := by
  have hz : cs.length ≤ sizeLine := by rw [sz]; omega
  have hadd : fAdd (.str [97, 98, 99, 100, 101, 102, 103, 104, 105, 106, 107, 108, 109, 110, 111, 112, 113, 114, 115, 116, 117, 118, 119, 120, 121, 122]) (.str [48, 49, 50, 51, 52, 53, 54, 55, 56, 57]) = some (.fz (.str (lets ++ figs))) := f_addS.trans (if_pos (by decide))
  by_cases h : a < cs.length
  · have h' : ((a : Nat) : Int) < (cs.length : Nat) := by omega
    have hx := ix_str hz (List.getElem?_eq_getElem h)
    rw [drop_at h]
    simp only [m_stands_by, c_stands_by, a_nonV, a_pk, a_lenO, a_mP, a_mL, a_mB, a_run, a_runB, a_nx, a_seq, a_if, a_ret, a_retN, a_brk, a_cnt, a_drop, a_asg, a_forS, a_for0, a_var, a_mov, a_C, a_nil, a_cons, a_op1, a_op2, a_opN, a_te, a_tb, a_not, a_and, a_or, a_yes, a_andE, a_orE, a_notE, a_ifE, a_call, a_callK, a_callB, a_app, a_sto, a_sl, a_on, a_os, a_itV, a_itN, a_lc, a_m1, a_raP, a_raN, a_chain, a_try, a_gN, a_gE, a_gP, a_gW1, a_gW2, a_gW3, z_fz, z_ow, s_fz, s_ow, o_ow, o_bw, w_nil, w_cons, i_lst, i_tup, i_str, b_bl, t_bl, t_non, n_int, f_addI, f_addL, f_I, f_sub, f_eqI, f_neI, f_eqS, f_neS, f_ltI, f_leI, f_gtI, f_geI, f_lenL, f_lenT, f_lenC, f_lenS, f_lst, f_tup, f_ixL, f_ixT, f_zLT, f_zTT, f_zLL, f_all, f_any, f_tuL, rs_bind_ok, rs_bind_err, rs_of_some, rs_res_ok, rs_res_err, gs_0, gs_1, gs_2, gs_3, gs_4, gs_5, gs_6, gs_7, gs_8, gs_9, gs_10, gs_11, gs_12, ent, entB, Option.map_some, Option.bind_some, List.length_cons, List.length_nil, List.length_map, List.map_cons, List.map_nil, List.replicate, List.cons_append, List.nil_append, List.set_cons_zero, List.set_cons_succ, Nat.reduceAdd, Nat.reduceSub, Nat.zero_add, if_true, f_lenS, hz, h', decide_true, hx, hadd, f_in1, byB]
  · have h' : ¬ ((a : Nat) : Int) < (cs.length : Nat) := by omega
    have e : cs.drop a = [] := List.drop_eq_nil_of_le (by omega)
    rw [e]
    simp only [m_stands_by, c_stands_by, a_nonV, a_pk, a_lenO, a_mP, a_mL, a_mB, a_run, a_runB, a_nx, a_seq, a_if, a_ret, a_retN, a_brk, a_cnt, a_drop, a_asg, a_forS, a_for0, a_var, a_mov, a_C, a_nil, a_cons, a_op1, a_op2, a_opN, a_te, a_tb, a_not, a_and, a_or, a_yes, a_andE, a_orE, a_notE, a_ifE, a_call, a_callK, a_callB, a_app, a_sto, a_sl, a_on, a_os, a_itV, a_itN, a_lc, a_m1, a_raP, a_raN, a_chain, a_try, a_gN, a_gE, a_gP, a_gW1, a_gW2, a_gW3, z_fz, z_ow, s_fz, s_ow, o_ow, o_bw, w_nil, w_cons, i_lst, i_tup, i_str, b_bl, t_bl, t_non, n_int, f_addI, f_addL, f_I, f_sub, f_eqI, f_neI, f_eqS, f_neS, f_ltI, f_leI, f_gtI, f_geI, f_lenL, f_lenT, f_lenC, f_lenS, f_lst, f_tup, f_ixL, f_ixT, f_zLT, f_zTT, f_zLL, f_all, f_any, f_tuL, rs_bind_ok, rs_bind_err, rs_of_some, rs_res_ok, rs_res_err, gs_0, gs_1, gs_2, gs_3, gs_4, gs_5, gs_6, gs_7, gs_8, gs_9, gs_10, gs_11, gs_12, ent, entB, Option.map_some, Option.bind_some, List.length_cons, List.length_nil, List.length_map, List.map_cons, List.map_nil, List.replicate, List.cons_append, List.nil_append, List.set_cons_zero, List.set_cons_succ, Nat.reduceAdd, Nat.reduceSub, Nat.zero_add, if_true, f_lenS, hz, h', decide_false, byB]
theorem e_letters {cs : List Nat} {a : Nat} (hl : cs.length ≤ 100000) (ha : a ≤ cs.length) : (longL (cs.drop a) → m_letters_end [.str cs, .int (a : Nat)] = .err "NoText" [("at", .int (a : Nat))]) ∧ (¬ longL (cs.drop a) → m_letters_end [.str cs, .int (a : Nat)] = .ok (.fz (.int (a + runL lets (cs.drop a) : Nat)))) := by
  have hr := e_run (sg := lets) hl ha
  have hb := e_by (a := a + runL lets (cs.drop a)) hl
  rw [← List.drop_drop] at hb
  unfold longL
  have e1 : (12 : Int) < ((a + runL lets (cs.drop a) : Nat) : Int) - (a : Nat) ↔ 12 < runL lets (cs.drop a) := by omega
  generalize runL lets (cs.drop a) = R at *
  generalize ((a + R : Nat) : Int) = R' at *
  unfold lets at hr
  by_cases h1 : (12 : Int) < R' - (a : Nat)
  · refine ⟨fun _ => ?_, fun z => absurd (.inl (e1.mp h1)) z⟩
    simp only [m_letters_end, c_letters_end, a_nonV, a_pk, a_lenO, a_mP, a_mL, a_mB, a_run, a_runB, a_nx, a_seq, a_if, a_ret, a_retN, a_brk, a_cnt, a_drop, a_asg, a_forS, a_for0, a_var, a_mov, a_C, a_nil, a_cons, a_op1, a_op2, a_opN, a_te, a_tb, a_not, a_and, a_or, a_yes, a_andE, a_orE, a_notE, a_ifE, a_call, a_callK, a_callB, a_app, a_sto, a_sl, a_on, a_os, a_itV, a_itN, a_lc, a_m1, a_raP, a_raN, a_chain, a_try, a_gN, a_gE, a_gP, a_gW1, a_gW2, a_gW3, z_fz, z_ow, s_fz, s_ow, o_ow, o_bw, w_nil, w_cons, i_lst, i_tup, i_str, b_bl, t_bl, t_non, n_int, f_addI, f_addL, f_I, f_sub, f_eqI, f_neI, f_eqS, f_neS, f_ltI, f_leI, f_gtI, f_geI, f_lenL, f_lenT, f_lenC, f_lenS, f_lst, f_tup, f_ixL, f_ixT, f_zLT, f_zTT, f_zLL, f_all, f_any, f_tuL, rs_bind_ok, rs_bind_err, rs_of_some, rs_res_ok, rs_res_err, gs_0, gs_1, gs_2, gs_3, gs_4, gs_5, gs_6, gs_7, gs_8, gs_9, gs_10, gs_11, gs_12, ent, entB, Option.map_some, Option.bind_some, List.length_cons, List.length_nil, List.length_map, List.map_cons, List.map_nil, List.replicate, List.cons_append, List.nil_append, List.set_cons_zero, List.set_cons_succ, Nat.reduceAdd, Nat.reduceSub, Nat.zero_add, if_true, hr, h1, decide_true, List.reverse_cons, List.reverse_nil, List.zip_cons_cons, List.zip_nil_left]
  · cases h2 : byB ((cs.drop a).drop R) with
    | true =>
      refine ⟨fun _ => ?_, fun z => absurd (.inr rfl) z⟩
      rw [h2] at hb
      simp only [m_letters_end, c_letters_end, a_nonV, a_pk, a_lenO, a_mP, a_mL, a_mB, a_run, a_runB, a_nx, a_seq, a_if, a_ret, a_retN, a_brk, a_cnt, a_drop, a_asg, a_forS, a_for0, a_var, a_mov, a_C, a_nil, a_cons, a_op1, a_op2, a_opN, a_te, a_tb, a_not, a_and, a_or, a_yes, a_andE, a_orE, a_notE, a_ifE, a_call, a_callK, a_callB, a_app, a_sto, a_sl, a_on, a_os, a_itV, a_itN, a_lc, a_m1, a_raP, a_raN, a_chain, a_try, a_gN, a_gE, a_gP, a_gW1, a_gW2, a_gW3, z_fz, z_ow, s_fz, s_ow, o_ow, o_bw, w_nil, w_cons, i_lst, i_tup, i_str, b_bl, t_bl, t_non, n_int, f_addI, f_addL, f_I, f_sub, f_eqI, f_neI, f_eqS, f_neS, f_ltI, f_leI, f_gtI, f_geI, f_lenL, f_lenT, f_lenC, f_lenS, f_lst, f_tup, f_ixL, f_ixT, f_zLT, f_zTT, f_zLL, f_all, f_any, f_tuL, rs_bind_ok, rs_bind_err, rs_of_some, rs_res_ok, rs_res_err, gs_0, gs_1, gs_2, gs_3, gs_4, gs_5, gs_6, gs_7, gs_8, gs_9, gs_10, gs_11, gs_12, ent, entB, Option.map_some, Option.bind_some, List.length_cons, List.length_nil, List.length_map, List.map_cons, List.map_nil, List.replicate, List.cons_append, List.nil_append, List.set_cons_zero, List.set_cons_succ, Nat.reduceAdd, Nat.reduceSub, Nat.zero_add, if_true, hr, h1, hb, decide_false, Bool.false_eq_true, if_false, List.reverse_cons, List.reverse_nil, List.zip_cons_cons, List.zip_nil_left]
    | false =>
      refine ⟨fun z => z.elim (fun z => absurd (e1.mpr z) h1) (fun z => absurd z (by decide)), fun _ => ?_⟩
      rw [h2] at hb
      simp only [m_letters_end, c_letters_end, a_nonV, a_pk, a_lenO, a_mP, a_mL, a_mB, a_run, a_runB, a_nx, a_seq, a_if, a_ret, a_retN, a_brk, a_cnt, a_drop, a_asg, a_forS, a_for0, a_var, a_mov, a_C, a_nil, a_cons, a_op1, a_op2, a_opN, a_te, a_tb, a_not, a_and, a_or, a_yes, a_andE, a_orE, a_notE, a_ifE, a_call, a_callK, a_callB, a_app, a_sto, a_sl, a_on, a_os, a_itV, a_itN, a_lc, a_m1, a_raP, a_raN, a_chain, a_try, a_gN, a_gE, a_gP, a_gW1, a_gW2, a_gW3, z_fz, z_ow, s_fz, s_ow, o_ow, o_bw, w_nil, w_cons, i_lst, i_tup, i_str, b_bl, t_bl, t_non, n_int, f_addI, f_addL, f_I, f_sub, f_eqI, f_neI, f_eqS, f_neS, f_ltI, f_leI, f_gtI, f_geI, f_lenL, f_lenT, f_lenC, f_lenS, f_lst, f_tup, f_ixL, f_ixT, f_zLT, f_zTT, f_zLL, f_all, f_any, f_tuL, rs_bind_ok, rs_bind_err, rs_of_some, rs_res_ok, rs_res_err, gs_0, gs_1, gs_2, gs_3, gs_4, gs_5, gs_6, gs_7, gs_8, gs_9, gs_10, gs_11, gs_12, ent, entB, Option.map_some, Option.bind_some, List.length_cons, List.length_nil, List.length_map, List.map_cons, List.map_nil, List.replicate, List.cons_append, List.nil_append, List.set_cons_zero, List.set_cons_succ, Nat.reduceAdd, Nat.reduceSub, Nat.zero_add, if_true, hr, h1, hb, decide_false, Bool.false_eq_true, if_false]
/-! noughts behind an e -/
theorem cut_at {w : List Nat} {i j : Nat} : cutG w (some (i : Int)) (some (j : Int)) = (w.drop i).take (j - i) := by
  unfold cutG
  rw [HT.sIx_nat, HT.sIx_nat]
  by_cases hi : i ≤ w.length
  · rw [Nat.min_eq_left hi]
    by_cases hj : j ≤ w.length
    · rw [Nat.min_eq_left hj]
    · rw [Nat.min_eq_right (by omega), List.take_of_length_le (by rw [List.length_drop]; omega), List.take_of_length_le (by rw [List.length_drop]; omega)]
  · rw [Nat.min_eq_right (show w.length ≤ i by omega), List.drop_of_length_le (Nat.le_refl _), List.drop_of_length_le (by omega), List.take_nil, List.take_nil]
theorem f_slAt {w : List Nat} {i j : Nat} (h : w.length ≤ sizeLine) : fSl (.str w) (some (i : Int)) (some (j : Int)) = some (.fz (.str ((w.drop i).take (j - i)))) := by
  show (if w.length ≤ sizeLine then some (Vl.fz (.str (cutG w (some (i : Int)) (some (j : Int))))) else none) = _
  rw [if_pos h, cut_at]
theorem eqv_str (v w : List Nat) : eqv (.str v) (.str w) = decide (v = w) := by
  have e : eqv (.str v) (.str w) = (toS v == toS w) := by simp [eqv, D.py, PyData.eqv]
  rw [e]
  by_cases h : v = w
  · rw [h, decide_eq_true rfl]
    exact beq_self_eq_true _
  · rw [decide_eq_false h]
    exact Bool.eq_false_iff.mpr fun z => h (toS_inj (eq_of_beq z))
theorem any_strs (ws : List (List Nat)) (w : List Nat) : ((ws.map D.str).any fun d => eqv d (.str w)) = decide (w ∈ ws) := by
  induction ws with
  | nil => rfl
  | cons v ws ih =>
    rw [List.map_cons, List.any_cons, ih, eqv_str]
    by_cases h : v = w
    · subst h
      simp
    · by_cases h2 : w ∈ ws
      · simp [h2]
      · simp [h, h2, Ne.symm h]
theorem flat_strs (ws : List (List Nat)) : (ws.map D.str).all flatD = true := List.all_eq_true.mpr fun d hd => by
  obtain ⟨w, _, rfl⟩ := List.mem_map.mp hd
  rfl
theorem f_inT (ws : List (List Nat)) (w : List Nat) : fIn (.str w) (.tup (ws.map .str)) = some (.fz (.bl (decide (w ∈ ws)))) := by
  show ((if flatD (.str w) = true ∧ (ws.map D.str).all flatD = true then some ((ws.map D.str).any fun d => eqv d (.str w)) else none)).map _ = _
  rw [if_pos ⟨rfl, flat_strs ws⟩, any_strs]
  rfl
theorem f_min {i j : Int} : fMin2 [.int i, .int j] = some (.fz (.int (if j < i then j else i))) := rfl
theorem nou_eq (f : List Nat) : (match f with
    | [] => []
    | 48 :: _ => []
    | f => f) = if f.take 1 ∈ [([] : List Nat), [48]] then [] else f := by
  rcases f with _ | ⟨d, f⟩
  · rfl
  · by_cases h : d = 48
    · subst h
      rfl
    · have e : ¬ (d :: f).take 1 ∈ [([] : List Nat), [48]] := by simp [h]
      rw [if_neg e]
      split
      · rename_i z
        cases z
      · rename_i z
        exact absurd (List.cons.inj z).1 h
      · rfl
theorem e_noughts {cs : List Nat} {a : Nat} (hl : cs.length ≤ 100000) (ha : a ≤ cs.length) : m_noughts_at [.str cs, .int (a : Nat)] = .ok (.fz (.str (noughts (cs.drop a)))) := by
  have hz : cs.length ≤ sizeLine := by rw [sz]; omega
  have e1 : ((a : Nat) : Int) + 1 = ((a + 1 : Nat) : Int) := by omega
  have s1 := f_slAt (w := cs) (i := a) (j := a + 1) hz
  rw [show a + 1 - a = 1 by omega] at s1
  have h2s : (2 : Nat) ≤ sizeLine := by decide
  have hin := fun w => f_inT [[], [48]] w
  simp only [List.map_cons, List.map_nil] at hin
  rcases hd : cs.drop a with _ | ⟨c, t⟩
  · rw [hd] at s1
    have hne : decide (([] : List Nat).take 1 = [101]) = false := by decide
    simp only [m_noughts_at, c_noughts_at, a_nonV, a_pk, a_lenO, a_mP, a_mL, a_mB, a_run, a_runB, a_nx, a_seq, a_if, a_ret, a_retN, a_brk, a_cnt, a_drop, a_asg, a_forS, a_for0, a_var, a_mov, a_C, a_nil, a_cons, a_op1, a_op2, a_opN, a_te, a_tb, a_not, a_and, a_or, a_yes, a_andE, a_orE, a_notE, a_ifE, a_call, a_callK, a_callB, a_app, a_sto, a_sl, a_on, a_os, a_itV, a_itN, a_lc, a_m1, a_raP, a_raN, a_chain, a_try, a_gN, a_gE, a_gP, a_gW1, a_gW2, a_gW3, z_fz, z_ow, s_fz, s_ow, o_ow, o_bw, w_nil, w_cons, i_lst, i_tup, i_str, b_bl, t_bl, t_non, n_int, f_addI, f_addL, f_I, f_sub, f_eqI, f_neI, f_eqS, f_neS, f_ltI, f_leI, f_gtI, f_geI, f_lenL, f_lenT, f_lenC, f_lenS, f_lst, f_tup, f_ixL, f_ixT, f_zLT, f_zTT, f_zLL, f_all, f_any, f_tuL, rs_bind_ok, rs_bind_err, rs_of_some, rs_res_ok, rs_res_err, gs_0, gs_1, gs_2, gs_3, gs_4, gs_5, gs_6, gs_7, gs_8, gs_9, gs_10, gs_11, gs_12, ent, entB, Option.map_some, Option.bind_some, List.length_cons, List.length_nil, List.length_map, List.map_cons, List.map_nil, List.replicate, List.cons_append, List.nil_append, List.set_cons_zero, List.set_cons_succ, Nat.reduceAdd, Nat.reduceSub, Nat.zero_add, if_true, e1, s1, hne, Bool.not_false, noughts]
  · rw [hd] at s1
    by_cases hc : c = 101
    · subst hc
      have halt : a < cs.length := by
        rcases Nat.lt_or_ge a cs.length with z | z
        · exact z
        · rw [List.drop_eq_nil_of_le z] at hd
          cases hd
      have ht : cs.drop (a + 1) = t := by
        have := drop_at halt
        rw [hd] at this
        exact (List.cons.inj this).2.symm
      have hr := e_run (sg := figs) (a := a + 1) hl (by omega)
      rw [ht] at hr
      have hne : decide ((101 :: t).take 1 = [101]) = true := decide_eq_true rfl
      have hm : (if ((a + 1 + runL figs t : Nat) : Int) < ((a : Nat) : Int) + 3 then ((a + 1 + runL figs t : Nat) : Int) else ((a : Nat) : Int) + 3) = ((a + 1 + min 2 (runL figs t) : Nat) : Int) := by
        split <;> omega
      have s2 := f_slAt (w := cs) (i := a + 1) (j := a + 1 + min 2 (runL figs t)) hz
      rw [ht, show a + 1 + min 2 (runL figs t) - (a + 1) = min 2 (runL figs t) by omega] at s2
      have hF : (t.take (min 2 (runL figs t))).length ≤ sizeLine := by rw [List.length_take, sz]; omega
      have s3 := f_slTo (w := t.take (min 2 (runL figs t))) (n := 1) hF
      have hn : noughts (101 :: t) = (if (t.take (min 2 (runL figs t))).take 1 ∈ [[], [48]] then [] else t.take (min 2 (runL figs t))) := nou_eq _
      rw [hn]
      generalize hf : t.take (min 2 (runL figs t)) = f at *
      generalize ((a + 1 + min 2 (runL figs t) : Nat) : Int) = A2 at *
      generalize ((a + 1 + runL figs t : Nat) : Int) = A1 at *
      unfold figs at hr
      by_cases h : f.take 1 ∈ [([] : List Nat), [48]]
      · have h' : decide (f.take 1 ∈ [([] : List Nat), [48]]) = true := decide_eq_true h
        rw [if_pos h]
        have s3 : fSl (.str f) none (some 1) = some (.fz (.str (f.take 1))) := s3
        simp only [m_noughts_at, c_noughts_at, a_nonV, a_pk, a_lenO, a_mP, a_mL, a_mB, a_run, a_runB, a_nx, a_seq, a_if, a_ret, a_retN, a_brk, a_cnt, a_drop, a_asg, a_forS, a_for0, a_var, a_mov, a_C, a_nil, a_cons, a_op1, a_op2, a_opN, a_te, a_tb, a_not, a_and, a_or, a_yes, a_andE, a_orE, a_notE, a_ifE, a_call, a_callK, a_callB, a_app, a_sto, a_sl, a_on, a_os, a_itV, a_itN, a_lc, a_m1, a_raP, a_raN, a_chain, a_try, a_gN, a_gE, a_gP, a_gW1, a_gW2, a_gW3, z_fz, z_ow, s_fz, s_ow, o_ow, o_bw, w_nil, w_cons, i_lst, i_tup, i_str, b_bl, t_bl, t_non, n_int, f_addI, f_addL, f_I, f_sub, f_eqI, f_neI, f_eqS, f_neS, f_ltI, f_leI, f_gtI, f_geI, f_lenL, f_lenT, f_lenC, f_lenS, f_lst, f_tup, f_ixL, f_ixT, f_zLT, f_zTT, f_zLL, f_all, f_any, f_tuL, rs_bind_ok, rs_bind_err, rs_of_some, rs_res_ok, rs_res_err, gs_0, gs_1, gs_2, gs_3, gs_4, gs_5, gs_6, gs_7, gs_8, gs_9, gs_10, gs_11, gs_12, ent, entB, Option.map_some, Option.bind_some, List.length_cons, List.length_nil, List.length_map, List.map_cons, List.map_nil, List.replicate, List.cons_append, List.nil_append, List.set_cons_zero, List.set_cons_succ, Nat.reduceAdd, Nat.reduceSub, Nat.zero_add, if_true, e1, s1, hne, Bool.not_true, Bool.false_eq_true, if_false, f_min, hr, hm, s2, s3, f_tup, h2s, hin, h']
      · have h' : decide (f.take 1 ∈ [([] : List Nat), [48]]) = false := decide_eq_false h
        rw [if_neg h]
        have s3 : fSl (.str f) none (some 1) = some (.fz (.str (f.take 1))) := s3
        simp only [m_noughts_at, c_noughts_at, a_nonV, a_pk, a_lenO, a_mP, a_mL, a_mB, a_run, a_runB, a_nx, a_seq, a_if, a_ret, a_retN, a_brk, a_cnt, a_drop, a_asg, a_forS, a_for0, a_var, a_mov, a_C, a_nil, a_cons, a_op1, a_op2, a_opN, a_te, a_tb, a_not, a_and, a_or, a_yes, a_andE, a_orE, a_notE, a_ifE, a_call, a_callK, a_callB, a_app, a_sto, a_sl, a_on, a_os, a_itV, a_itN, a_lc, a_m1, a_raP, a_raN, a_chain, a_try, a_gN, a_gE, a_gP, a_gW1, a_gW2, a_gW3, z_fz, z_ow, s_fz, s_ow, o_ow, o_bw, w_nil, w_cons, i_lst, i_tup, i_str, b_bl, t_bl, t_non, n_int, f_addI, f_addL, f_I, f_sub, f_eqI, f_neI, f_eqS, f_neS, f_ltI, f_leI, f_gtI, f_geI, f_lenL, f_lenT, f_lenC, f_lenS, f_lst, f_tup, f_ixL, f_ixT, f_zLT, f_zTT, f_zLL, f_all, f_any, f_tuL, rs_bind_ok, rs_bind_err, rs_of_some, rs_res_ok, rs_res_err, gs_0, gs_1, gs_2, gs_3, gs_4, gs_5, gs_6, gs_7, gs_8, gs_9, gs_10, gs_11, gs_12, ent, entB, Option.map_some, Option.bind_some, List.length_cons, List.length_nil, List.length_map, List.map_cons, List.map_nil, List.replicate, List.cons_append, List.nil_append, List.set_cons_zero, List.set_cons_succ, Nat.reduceAdd, Nat.reduceSub, Nat.zero_add, if_true, e1, s1, hne, Bool.not_true, Bool.false_eq_true, if_false, f_min, hr, hm, s2, s3, f_tup, h2s, hin, h']
    · have hne : decide ((c :: t).take 1 = [101]) = false := decide_eq_false fun z => hc (List.cons.inj z).1
      have hn : noughts (c :: t) = [] := by
        unfold noughts
        split
        · rename_i z
          exact absurd (List.cons.inj z).1 hc
        · rfl
      rw [hn]
      simp only [m_noughts_at, c_noughts_at, a_nonV, a_pk, a_lenO, a_mP, a_mL, a_mB, a_run, a_runB, a_nx, a_seq, a_if, a_ret, a_retN, a_brk, a_cnt, a_drop, a_asg, a_forS, a_for0, a_var, a_mov, a_C, a_nil, a_cons, a_op1, a_op2, a_opN, a_te, a_tb, a_not, a_and, a_or, a_yes, a_andE, a_orE, a_notE, a_ifE, a_call, a_callK, a_callB, a_app, a_sto, a_sl, a_on, a_os, a_itV, a_itN, a_lc, a_m1, a_raP, a_raN, a_chain, a_try, a_gN, a_gE, a_gP, a_gW1, a_gW2, a_gW3, z_fz, z_ow, s_fz, s_ow, o_ow, o_bw, w_nil, w_cons, i_lst, i_tup, i_str, b_bl, t_bl, t_non, n_int, f_addI, f_addL, f_I, f_sub, f_eqI, f_neI, f_eqS, f_neS, f_ltI, f_leI, f_gtI, f_geI, f_lenL, f_lenT, f_lenC, f_lenS, f_lst, f_tup, f_ixL, f_ixT, f_zLT, f_zTT, f_zLL, f_all, f_any, f_tuL, rs_bind_ok, rs_bind_err, rs_of_some, rs_res_ok, rs_res_err, gs_0, gs_1, gs_2, gs_3, gs_4, gs_5, gs_6, gs_7, gs_8, gs_9, gs_10, gs_11, gs_12, ent, entB, Option.map_some, Option.bind_some, List.length_cons, List.length_nil, List.length_map, List.map_cons, List.map_nil, List.replicate, List.cons_append, List.nil_append, List.set_cons_zero, List.set_cons_succ, Nat.reduceAdd, Nat.reduceSub, Nat.zero_add, if_true, e1, s1, hne, Bool.not_false]
end P02

set_option Elab.async false
set_option linter.all false
set_option maxRecDepth 100000
set_option maxHeartbeats 4000000
namespace P02
open PySem L2 LK DL WD
theorem fig_end {cs : List Nat} {a : Nat} {n m : Nat} {w : Sl} (hl : cs.length ≤ 100000) : (18 < m ∨ byB (cs.drop (a + n)) = true → ∃ ρ, (dSeq (dIf (dOr (dTb (dOp2 fGt (dVar 3) (dC (.int 18)))) (dTe (dCall m_stands_by (dCons (dVar 0) (dCons (dVar 2) dNil))))) (dRaP "NoText" ["at"] (dCons (dVar 1) dNil)) dNx)
  (dRet (dMov 2))) [.fz (.str cs), .fz (.int (a : Nat)), .fz (.int (a + n : Nat)), .fz (.int (m : Nat)), w] = .err "NoText" [("at", .int (a : Nat))] ρ) ∧ (¬ (18 < m ∨ byB (cs.drop (a + n)) = true) → ∃ ρ, (dSeq (dIf (dOr (dTb (dOp2 fGt (dVar 3) (dC (.int 18)))) (dTe (dCall m_stands_by (dCons (dVar 0) (dCons (dVar 2) dNil))))) (dRaP "NoText" ["at"] (dCons (dVar 1) dNil)) dNx)
  (dRet (dMov 2))) [.fz (.str cs), .fz (.int (a : Nat)), .fz (.int (a + n : Nat)), .fz (.int (m : Nat)), w] = .ok (.rt (.fz (.int (a + n : Nat)))) ρ) := by
  have hb := e_by (a := a + n) hl
  have e1 : (18 : Int) < (m : Nat) ↔ 18 < m := by omega
  generalize ((a + n : Nat) : Int) = N at *
  generalize ((m : Nat) : Int) = M at *
  by_cases h1 : (18 : Int) < M
  · refine ⟨fun _ => ⟨[.fz (.str cs), .fz (.int (a : Nat)), .fz (.int N), .fz (.int M), w], ?_⟩, fun z => absurd (.inl (e1.mp h1)) z⟩
    simp only [a_nonV, a_pk, a_lenO, a_mP, a_mL, a_mB, a_run, a_runB, a_nx, a_seq, a_if, a_ret, a_retN, a_brk, a_cnt, a_drop, a_asg, a_forS, a_for0, a_var, a_mov, a_C, a_nil, a_cons, a_op1, a_op2, a_opN, a_te, a_tb, a_not, a_and, a_or, a_yes, a_andE, a_orE, a_notE, a_ifE, a_call, a_callK, a_callB, a_app, a_sto, a_sl, a_on, a_os, a_itV, a_itN, a_lc, a_m1, a_raP, a_raN, a_chain, a_try, a_gN, a_gE, a_gP, a_gW1, a_gW2, a_gW3, z_fz, z_ow, s_fz, s_ow, o_ow, o_bw, w_nil, w_cons, i_lst, i_tup, i_str, b_bl, t_bl, t_non, n_int, f_addI, f_addL, f_I, f_sub, f_eqI, f_neI, f_eqS, f_neS, f_ltI, f_leI, f_gtI, f_geI, f_lenL, f_lenT, f_lenC, f_lenS, f_lst, f_tup, f_ixL, f_ixT, f_zLT, f_zTT, f_zLL, f_all, f_any, f_tuL, rs_bind_ok, rs_bind_err, rs_of_some, rs_res_ok, rs_res_err, gs_0, gs_1, gs_2, gs_3, gs_4, gs_5, gs_6, gs_7, gs_8, gs_9, gs_10, gs_11, gs_12, ent, entB, Option.map_some, Option.bind_some, List.length_cons, List.length_nil, List.length_map, List.map_cons, List.map_nil, List.replicate, List.cons_append, List.nil_append, List.set_cons_zero, List.set_cons_succ, Nat.reduceAdd, Nat.reduceSub, Nat.zero_add, if_true, h1, decide_true, List.reverse_cons, List.reverse_nil, List.zip_cons_cons, List.zip_nil_left]
  · cases h2 : byB (cs.drop (a + n)) with
    | true =>
      refine ⟨fun _ => ⟨[.fz (.str cs), .fz (.int (a : Nat)), .fz (.int N), .fz (.int M), w], ?_⟩, fun z => absurd (.inr rfl) z⟩
      rw [h2] at hb
      simp only [a_nonV, a_pk, a_lenO, a_mP, a_mL, a_mB, a_run, a_runB, a_nx, a_seq, a_if, a_ret, a_retN, a_brk, a_cnt, a_drop, a_asg, a_forS, a_for0, a_var, a_mov, a_C, a_nil, a_cons, a_op1, a_op2, a_opN, a_te, a_tb, a_not, a_and, a_or, a_yes, a_andE, a_orE, a_notE, a_ifE, a_call, a_callK, a_callB, a_app, a_sto, a_sl, a_on, a_os, a_itV, a_itN, a_lc, a_m1, a_raP, a_raN, a_chain, a_try, a_gN, a_gE, a_gP, a_gW1, a_gW2, a_gW3, z_fz, z_ow, s_fz, s_ow, o_ow, o_bw, w_nil, w_cons, i_lst, i_tup, i_str, b_bl, t_bl, t_non, n_int, f_addI, f_addL, f_I, f_sub, f_eqI, f_neI, f_eqS, f_neS, f_ltI, f_leI, f_gtI, f_geI, f_lenL, f_lenT, f_lenC, f_lenS, f_lst, f_tup, f_ixL, f_ixT, f_zLT, f_zTT, f_zLL, f_all, f_any, f_tuL, rs_bind_ok, rs_bind_err, rs_of_some, rs_res_ok, rs_res_err, gs_0, gs_1, gs_2, gs_3, gs_4, gs_5, gs_6, gs_7, gs_8, gs_9, gs_10, gs_11, gs_12, ent, entB, Option.map_some, Option.bind_some, List.length_cons, List.length_nil, List.length_map, List.map_cons, List.map_nil, List.replicate, List.cons_append, List.nil_append, List.set_cons_zero, List.set_cons_succ, Nat.reduceAdd, Nat.reduceSub, Nat.zero_add, if_true, h1, hb, decide_false, Bool.false_eq_true, if_false, List.reverse_cons, List.reverse_nil, List.zip_cons_cons, List.zip_nil_left]
    | false =>
      refine ⟨fun z => z.elim (fun z => absurd (e1.mpr z) h1) (fun z => absurd z (by decide)), fun _ => ⟨[.fz (.str cs), .fz (.int (a : Nat)), .fz (.int N), .fz (.int M), w], ?_⟩⟩
      rw [h2] at hb
      simp only [a_nonV, a_pk, a_lenO, a_mP, a_mL, a_mB, a_run, a_runB, a_nx, a_seq, a_if, a_ret, a_retN, a_brk, a_cnt, a_drop, a_asg, a_forS, a_for0, a_var, a_mov, a_C, a_nil, a_cons, a_op1, a_op2, a_opN, a_te, a_tb, a_not, a_and, a_or, a_yes, a_andE, a_orE, a_notE, a_ifE, a_call, a_callK, a_callB, a_app, a_sto, a_sl, a_on, a_os, a_itV, a_itN, a_lc, a_m1, a_raP, a_raN, a_chain, a_try, a_gN, a_gE, a_gP, a_gW1, a_gW2, a_gW3, z_fz, z_ow, s_fz, s_ow, o_ow, o_bw, w_nil, w_cons, i_lst, i_tup, i_str, b_bl, t_bl, t_non, n_int, f_addI, f_addL, f_I, f_sub, f_eqI, f_neI, f_eqS, f_neS, f_ltI, f_leI, f_gtI, f_geI, f_lenL, f_lenT, f_lenC, f_lenS, f_lst, f_tup, f_ixL, f_ixT, f_zLT, f_zTT, f_zLL, f_all, f_any, f_tuL, rs_bind_ok, rs_bind_err, rs_of_some, rs_res_ok, rs_res_err, gs_0, gs_1, gs_2, gs_3, gs_4, gs_5, gs_6, gs_7, gs_8, gs_9, gs_10, gs_11, gs_12, ent, entB, Option.map_some, Option.bind_some, List.length_cons, List.length_nil, List.length_map, List.map_cons, List.map_nil, List.replicate, List.cons_append, List.nil_append, List.set_cons_zero, List.set_cons_succ, Nat.reduceAdd, Nat.reduceSub, Nat.zero_add, if_true, h1, hb, decide_false, Bool.false_eq_true, if_false]
theorem run_err {f : DC} {ρ ρ' : DS} {c : Str} {fs : List (Str × D)} (h : f ρ = .err c fs ρ') : runD f ρ = .err c fs := by
  unfold runD
  rw [h]
theorem run_ret {f : DC} {ρ ρ' : DS} {r : Vl} (h : f ρ = .ok (.rt r) ρ') : runD f ρ = .ok r := by
  unfold runD
  rw [h]
theorem seq_go {f g : DC} {ρ ρ1 : DS} (h : f ρ = .ok .nx ρ1) : dSeq f g ρ = g ρ1 := by
  rw [a_seq, h]
  rfl
theorem numb_48 (t : List Nat) : numb (48 :: t) = (1, 1) := rfl
theorem numb_no {c : Nat} {t : List Nat} (h : c ≠ 48) : numb (c :: t) = (if noughts ((c :: t).drop (runL figs (c :: t))) = [] then (runL figs (c :: t), runL figs (c :: t)) else (runL figs (c :: t) + val (noughts ((c :: t).drop (runL figs (c :: t)))), runL figs (c :: t) + 1 + (noughts ((c :: t).drop (runL figs (c :: t)))).length)) := by
  unfold numb
  split
  · rename_i z
    exact absurd (List.cons.inj z).1 h
  · rfl
theorem e_figures {cs t : List Nat} {a c : Nat} (hl : cs.length ≤ 100000) (hd : cs.drop a = c :: t) : (longF (c :: t) → m_figures_end [.str cs, .int (a : Nat)] = .err "NoText" [("at", .int (a : Nat))]) ∧ (¬ longF (c :: t) → m_figures_end [.str cs, .int (a : Nat)] = .ok (.fz (.int (a + (numb (c :: t)).2 : Nat)))) := by
  have hz : cs.length ≤ sizeLine := by rw [sz]; omega
  have halt : a < cs.length := by
    rcases Nat.lt_or_ge a cs.length with z | z
    · exact z
    · rw [List.drop_eq_nil_of_le z] at hd
      cases hd
  have hc : cs[a]? = some c := by
    have := drop_at halt
    rw [hd] at this
    rw [List.getElem?_eq_getElem halt, (List.cons.inj this).1]
  have hx := ix_str hz hc
  have hr := e_run (sg := figs) hl (Nat.le_of_lt halt)
  rw [hd] at hr
  have ht : ∀ n, cs.drop (a + n) = (c :: t).drop n := fun n => by rw [← hd, List.drop_drop]
  have hle : runL figs (c :: t) ≤ (c :: t).length := runL_le _ _
  have hlen : (c :: t).length = cs.length - a := by rw [← hd, List.length_drop]
  -- to the last test
  have key : ∃ w : Sl, ∀ g : DC, mP 2 5 (dSeq (dAsg (dCall m_run_end (dCons (dVar 0) (dCons (dVar 1) (dCons (dC (.str [48, 49, 50, 51, 52, 53, 54, 55, 56, 57])) dNil)))) (gN 2))
  (dSeq (dIf (dTb (dOp2 fEq (dPk 0 (dVar 1)) (dC (.str [48])))) (dAsg (dOp2 fAdd (dVar 1) (dC (.int 1))) (gN 2)) dNx)
  (dSeq (dAsg (dOp2 (fI iSub) (dVar 2) (dVar 1)) (gN 3))
  (dSeq (dAsg (dCall m_noughts_at (dCons (dVar 0) (dCons (dVar 2) dNil))) (gN 4))
  (dSeq (dIf (dAnd (dTb (dOp2 fNe (dVar 4) (dC (.str [])))) (dTb (dOp2 fNe (dPk 0 (dVar 1)) (dC (.str [48]))))) (dSeq (dAug 3 aAdd (dOpN fInt (dCons (dVar 4) dNil)))
  (dAug 2 aAdd (dOp2 fAdd (dC (.int 1)) (dLenO 4)))) dNx) g))))) [.str cs, .int (a : Nat)] = runD g [.fz (.str cs), .fz (.int (a : Nat)), .fz (.int (a + (numb (c :: t)).2 : Nat)), .fz (.int ((numb (c :: t)).1 : Nat)), w] := by
    by_cases h0 : c = 48
    · subst h0
      have hn := e_noughts (a := a + 1) hl (by omega)
      rw [ht 1] at hn
      have e1 : ((a : Nat) : Int) + 1 = ((a + 1 : Nat) : Int) := by omega
      have e2 : ((a + 1 : Nat) : Int) - ((a : Nat) : Int) = ((1 : Nat) : Int) := by omega
      rw [numb_48]
      unfold figs at hr
      generalize noughts ((48 :: t).drop 1) = w at hn
      refine ⟨.fz (.str w), fun g => ?_⟩
      by_cases hw : w = []
      · have hw' : decide (w = []) = true := decide_eq_true hw
        simp only [a_nonV, a_pk, a_lenO, a_mP, a_mL, a_mB, a_run, a_runB, a_nx, a_seq, a_if, a_ret, a_retN, a_brk, a_cnt, a_drop, a_asg, a_forS, a_for0, a_var, a_mov, a_C, a_nil, a_cons, a_op1, a_op2, a_opN, a_te, a_tb, a_not, a_and, a_or, a_yes, a_andE, a_orE, a_notE, a_ifE, a_call, a_callK, a_callB, a_app, a_sto, a_sl, a_on, a_os, a_itV, a_itN, a_lc, a_m1, a_raP, a_raN, a_chain, a_try, a_gN, a_gE, a_gP, a_gW1, a_gW2, a_gW3, z_fz, z_ow, s_fz, s_ow, o_ow, o_bw, w_nil, w_cons, i_lst, i_tup, i_str, b_bl, t_bl, t_non, n_int, f_addI, f_addL, f_I, f_sub, f_eqI, f_neI, f_eqS, f_neS, f_ltI, f_leI, f_gtI, f_geI, f_lenL, f_lenT, f_lenC, f_lenS, f_lst, f_tup, f_ixL, f_ixT, f_zLT, f_zTT, f_zLL, f_all, f_any, f_tuL, rs_bind_ok, rs_bind_err, rs_of_some, rs_res_ok, rs_res_err, gs_0, gs_1, gs_2, gs_3, gs_4, gs_5, gs_6, gs_7, gs_8, gs_9, gs_10, gs_11, gs_12, ent, entB, Option.map_some, Option.bind_some, List.length_cons, List.length_nil, List.length_map, List.map_cons, List.map_nil, List.replicate, List.cons_append, List.nil_append, List.set_cons_zero, List.set_cons_succ, Nat.reduceAdd, Nat.reduceSub, Nat.zero_add, if_true, hr, hx, decide_true, e1, e2, hn, hw', Bool.not_true, Bool.false_eq_true, if_false]
      · have hw' : decide (w = []) = false := decide_eq_false hw
        simp only [a_nonV, a_pk, a_lenO, a_mP, a_mL, a_mB, a_run, a_runB, a_nx, a_seq, a_if, a_ret, a_retN, a_brk, a_cnt, a_drop, a_asg, a_forS, a_for0, a_var, a_mov, a_C, a_nil, a_cons, a_op1, a_op2, a_opN, a_te, a_tb, a_not, a_and, a_or, a_yes, a_andE, a_orE, a_notE, a_ifE, a_call, a_callK, a_callB, a_app, a_sto, a_sl, a_on, a_os, a_itV, a_itN, a_lc, a_m1, a_raP, a_raN, a_chain, a_try, a_gN, a_gE, a_gP, a_gW1, a_gW2, a_gW3, z_fz, z_ow, s_fz, s_ow, o_ow, o_bw, w_nil, w_cons, i_lst, i_tup, i_str, b_bl, t_bl, t_non, n_int, f_addI, f_addL, f_I, f_sub, f_eqI, f_neI, f_eqS, f_neS, f_ltI, f_leI, f_gtI, f_geI, f_lenL, f_lenT, f_lenC, f_lenS, f_lst, f_tup, f_ixL, f_ixT, f_zLT, f_zTT, f_zLL, f_all, f_any, f_tuL, rs_bind_ok, rs_bind_err, rs_of_some, rs_res_ok, rs_res_err, gs_0, gs_1, gs_2, gs_3, gs_4, gs_5, gs_6, gs_7, gs_8, gs_9, gs_10, gs_11, gs_12, ent, entB, Option.map_some, Option.bind_some, List.length_cons, List.length_nil, List.length_map, List.map_cons, List.map_nil, List.replicate, List.cons_append, List.nil_append, List.set_cons_zero, List.set_cons_succ, Nat.reduceAdd, Nat.reduceSub, Nat.zero_add, if_true, hr, hx, decide_true, e1, e2, hn, hw', Bool.not_true, Bool.not_false, Bool.false_eq_true, if_false]
    · have h0' : decide (([c] : List Nat) = [48]) = false := decide_eq_false fun z => h0 (List.cons.inj z).1
      have hn := e_noughts (a := a + runL figs (c :: t)) hl (by omega)
      rw [ht] at hn
      have e2 : ((a + runL figs (c :: t) : Nat) : Int) - ((a : Nat) : Int) = ((runL figs (c :: t) : Nat) : Int) := by omega
      rw [numb_no h0]
      have hfg : ∀ c1 ∈ noughts ((c :: t).drop (runL figs (c :: t))), c1 ∈ figs := nou_figs _
      have hl2 : (noughts ((c :: t).drop (runL figs (c :: t)))).length ≤ 2 := nou_le _
      unfold figs at hr
      generalize noughts ((c :: t).drop (runL figs (c :: t))) = w at *
      unfold figs at hn e2 ⊢
      generalize runL [48, 49, 50, 51, 52, 53, 54, 55, 56, 57] (c :: t) = R at *
      by_cases hw : w = []
      · have hw' : decide (w = []) = true := decide_eq_true hw
        refine ⟨.fz (.str w), fun g => ?_⟩
        rw [if_pos hw]
        simp only [a_nonV, a_pk, a_lenO, a_mP, a_mL, a_mB, a_run, a_runB, a_nx, a_seq, a_if, a_ret, a_retN, a_brk, a_cnt, a_drop, a_asg, a_forS, a_for0, a_var, a_mov, a_C, a_nil, a_cons, a_op1, a_op2, a_opN, a_te, a_tb, a_not, a_and, a_or, a_yes, a_andE, a_orE, a_notE, a_ifE, a_call, a_callK, a_callB, a_app, a_sto, a_sl, a_on, a_os, a_itV, a_itN, a_lc, a_m1, a_raP, a_raN, a_chain, a_try, a_gN, a_gE, a_gP, a_gW1, a_gW2, a_gW3, z_fz, z_ow, s_fz, s_ow, o_ow, o_bw, w_nil, w_cons, i_lst, i_tup, i_str, b_bl, t_bl, t_non, n_int, f_addI, f_addL, f_I, f_sub, f_eqI, f_neI, f_eqS, f_neS, f_ltI, f_leI, f_gtI, f_geI, f_lenL, f_lenT, f_lenC, f_lenS, f_lst, f_tup, f_ixL, f_ixT, f_zLT, f_zTT, f_zLL, f_all, f_any, f_tuL, rs_bind_ok, rs_bind_err, rs_of_some, rs_res_ok, rs_res_err, gs_0, gs_1, gs_2, gs_3, gs_4, gs_5, gs_6, gs_7, gs_8, gs_9, gs_10, gs_11, gs_12, ent, entB, Option.map_some, Option.bind_some, List.length_cons, List.length_nil, List.length_map, List.map_cons, List.map_nil, List.replicate, List.cons_append, List.nil_append, List.set_cons_zero, List.set_cons_succ, Nat.reduceAdd, Nat.reduceSub, Nat.zero_add, if_true, hr, hx, h0', e2, hn, hw', Bool.not_true, Bool.not_false, Bool.false_eq_true, if_false]
      · have hw' : decide (w = []) = false := decide_eq_false hw
        have hi : fInt [.str w] = some (.fz (.int (val w : Nat))) := by
          show (if w.length ≤ 640 then (PySem.intText? (toS w)).map fun n => Vl.fz (.int n) else none) = _
          rw [if_pos (by omega), int_val hfg hw hl2]
          rfl
        have hwz : w.length ≤ sizeLine := by rw [sz]; omega
        have e3 : ((R : Nat) : Int) + ((val w : Nat) : Int) = ((R + val w : Nat) : Int) := by omega
        have e4 : ((a + R : Nat) : Int) + (1 + ((w.length : Nat) : Int)) = ((a + (R + 1 + w.length) : Nat) : Int) := by omega
        refine ⟨.fz (.str w), fun g => ?_⟩
        rw [if_neg hw]
        simp only [a_nonV, a_pk, a_lenO, a_mP, a_mL, a_mB, a_run, a_runB, a_nx, a_seq, a_if, a_ret, a_retN, a_brk, a_cnt, a_drop, a_asg, a_forS, a_for0, a_var, a_mov, a_C, a_nil, a_cons, a_op1, a_op2, a_opN, a_te, a_tb, a_not, a_and, a_or, a_yes, a_andE, a_orE, a_notE, a_ifE, a_call, a_callK, a_callB, a_app, a_sto, a_sl, a_on, a_os, a_itV, a_itN, a_lc, a_m1, a_raP, a_raN, a_chain, a_try, a_gN, a_gE, a_gP, a_gW1, a_gW2, a_gW3, z_fz, z_ow, s_fz, s_ow, o_ow, o_bw, w_nil, w_cons, i_lst, i_tup, i_str, b_bl, t_bl, t_non, n_int, f_addI, f_addL, f_I, f_sub, f_eqI, f_neI, f_eqS, f_neS, f_ltI, f_leI, f_gtI, f_geI, f_lenL, f_lenT, f_lenC, f_lenS, f_lst, f_tup, f_ixL, f_ixT, f_zLT, f_zTT, f_zLL, f_all, f_any, f_tuL, rs_bind_ok, rs_bind_err, rs_of_some, rs_res_ok, rs_res_err, gs_0, gs_1, gs_2, gs_3, gs_4, gs_5, gs_6, gs_7, gs_8, gs_9, gs_10, gs_11, gs_12, ent, entB, Option.map_some, Option.bind_some, List.length_cons, List.length_nil, List.length_map, List.map_cons, List.map_nil, List.replicate, List.cons_append, List.nil_append, List.set_cons_zero, List.set_cons_succ, Nat.reduceAdd, Nat.reduceSub, Nat.zero_add, if_true, hr, hx, h0', e2, hn, hw', Bool.not_true, Bool.not_false, Bool.false_eq_true, if_false, a_aug, g_add, hi, f_lenS, hwz, e3, e4]
  obtain ⟨w, key⟩ := key
  have fe := fig_end (a := a) (n := (numb (c :: t)).2) (m := (numb (c :: t)).1) (w := w) hl
  rw [ht] at fe
  unfold longF
  refine ⟨fun h => ?_, fun h => ?_⟩
  · obtain ⟨ρ, z⟩ := fe.1 h
    exact (key _).trans (run_err z)
  · obtain ⟨ρ, z⟩ := fe.2 h
    exact (key _).trans (run_ret z)
end P02

set_option Elab.async false
set_option linter.all false
set_option maxRecDepth 100000
set_option maxHeartbeats 4000000
namespace P02
open PySem L2 LK DL WD
def sc (s : Str) : List Nat := s.cps.toList
theorem sc_kept : sc "kept" = [107, 101, 112, 116] := by decide +kernel
theorem sc_name : sc "name" = [110, 97, 109, 101] := by decide +kernel
theorem sc_number : sc "number" = [110, 117, 109, 98, 101, 114] := by decide +kernel
theorem sc_sign : sc "sign" = [115, 105, 103, 110] := by decide +kernel
theorem kept_is : kept = [[108, 101, 116], [105, 102], [101, 108, 115, 101], [119, 104, 105, 108, 101], [114, 101, 116, 117, 114, 110], [102, 97, 105, 108], [116, 114, 121], [99, 97, 116, 99, 104], [111, 117, 116], [102, 110]] := by decide +kernel
theorem e_word {cs t : List Nat} {a c : Nat} (hl : cs.length ≤ 100000) (hd : cs.drop a = c :: t) : (wordAt (c :: t) = none → m_word_at [.str cs, .int (a : Nat)] = .err "NoText" [("at", .int (a : Nat))]) ∧ (∀ s n, wordAt (c :: t) = some (s, n) → m_word_at [.str cs, .int (a : Nat)] = .ok (.fz (.tup [.str (sc s), .str ((c :: t).take n)]))) := by
  have hz : cs.length ≤ sizeLine := by rw [sz]; omega
  have halt : a < cs.length := by
    rcases Nat.lt_or_ge a cs.length with z | z
    · exact z
    · rw [List.drop_eq_nil_of_le z] at hd
      cases hd
  have hc : cs[a]? = some c := by
    have := drop_at halt
    rw [hd] at this
    rw [List.getElem?_eq_getElem halt, (List.cons.inj this).1]
  have hx := ix_str hz hc
  have h2s : (2 : Nat) ≤ sizeLine := by decide
  have hcut : ∀ n, fSl (.str cs) (some (a : Int)) (some ((a + n : Nat) : Int)) = some (.fz (.str ((c :: t).take n))) := fun n => by
    rw [f_slAt hz, hd, show a + n - a = n by omega]
  have hK := fun w => f_inT kept w
  have hD := fun w => f_inT dbls w
  have L := e_letters hl (Nat.le_of_lt halt)
  rw [hd] at L
  have Fg := e_figures hl hd
  have e2 : ((a : Nat) : Int) + 2 = ((a + 2 : Nat) : Int) := by omega
  by_cases h1 : c ∈ lets
  · have h1' : decide (c ∈ lets) = true := decide_eq_true h1
    by_cases hlg : longL (c :: t)
    · have hL := L.1 hlg
      refine ⟨fun _ => ?_, fun s n z => (nomatch (wa_letL h1 hlg).symm.trans z)⟩
      unfold lets at h1'
      simp only [m_word_at, c_word_at, a_nonV, a_pk, a_lenO, a_mP, a_mL, a_mB, a_run, a_runB, a_nx, a_seq, a_if, a_ret, a_retN, a_brk, a_cnt, a_drop, a_asg, a_forS, a_for0, a_var, a_mov, a_C, a_nil, a_cons, a_op1, a_op2, a_opN, a_te, a_tb, a_not, a_and, a_or, a_yes, a_andE, a_orE, a_notE, a_ifE, a_call, a_callK, a_callB, a_app, a_sto, a_sl, a_on, a_os, a_itV, a_itN, a_lc, a_m1, a_raP, a_raN, a_chain, a_try, a_gN, a_gE, a_gP, a_gW1, a_gW2, a_gW3, z_fz, z_ow, s_fz, s_ow, o_ow, o_bw, w_nil, w_cons, i_lst, i_tup, i_str, b_bl, t_bl, t_non, n_int, f_addI, f_addL, f_I, f_sub, f_eqI, f_neI, f_eqS, f_neS, f_ltI, f_leI, f_gtI, f_geI, f_lenL, f_lenT, f_lenC, f_lenS, f_lst, f_tup, f_ixL, f_ixT, f_zLT, f_zTT, f_zLL, f_all, f_any, f_tuL, rs_bind_ok, rs_bind_err, rs_of_some, rs_res_ok, rs_res_err, gs_0, gs_1, gs_2, gs_3, gs_4, gs_5, gs_6, gs_7, gs_8, gs_9, gs_10, gs_11, gs_12, ent, entB, Option.map_some, Option.bind_some, List.length_cons, List.length_nil, List.length_map, List.map_cons, List.map_nil, List.replicate, List.cons_append, List.nil_append, List.set_cons_zero, List.set_cons_succ, Nat.reduceAdd, Nat.reduceSub, Nat.zero_add, if_true, hx, f_in1, h1', hL]
    · have hL := L.2 hlg
      have hw := wa_let h1 hlg
      refine ⟨fun z => (nomatch hw.symm.trans z), fun s n z => ?_⟩
      have z := Option.some.inj (hw.symm.trans z)
      have hcu := hcut (runL lets (c :: t))
      obtain ⟨R, hR⟩ : ∃ R, R = runL lets (c :: t) := ⟨_, rfl⟩
      rw [← hR] at hL hcu z
      obtain ⟨A1, hA⟩ : ∃ A1 : Int, A1 = ((a + R : Nat) : Int) := ⟨_, rfl⟩
      rw [← hA] at hL hcu
      unfold lets at h1'
      by_cases hk : (c :: t).take R ∈ kept
      · rw [if_pos hk] at z
        have hk' := hK ((c :: t).take R)
        rw [decide_eq_true hk, kept_is] at hk'
        simp only [List.map_cons, List.map_nil] at hk'
        cases z
        rw [sc_kept]
        simp only [m_word_at, c_word_at, a_nonV, a_pk, a_lenO, a_mP, a_mL, a_mB, a_run, a_runB, a_nx, a_seq, a_if, a_ret, a_retN, a_brk, a_cnt, a_drop, a_asg, a_forS, a_for0, a_var, a_mov, a_C, a_nil, a_cons, a_op1, a_op2, a_opN, a_te, a_tb, a_not, a_and, a_or, a_yes, a_andE, a_orE, a_notE, a_ifE, a_call, a_callK, a_callB, a_app, a_sto, a_sl, a_on, a_os, a_itV, a_itN, a_lc, a_m1, a_raP, a_raN, a_chain, a_try, a_gN, a_gE, a_gP, a_gW1, a_gW2, a_gW3, z_fz, z_ow, s_fz, s_ow, o_ow, o_bw, w_nil, w_cons, i_lst, i_tup, i_str, b_bl, t_bl, t_non, n_int, f_addI, f_addL, f_I, f_sub, f_eqI, f_neI, f_eqS, f_neS, f_ltI, f_leI, f_gtI, f_geI, f_lenL, f_lenT, f_lenC, f_lenS, f_lst, f_tup, f_ixL, f_ixT, f_zLT, f_zTT, f_zLL, f_all, f_any, f_tuL, rs_bind_ok, rs_bind_err, rs_of_some, rs_res_ok, rs_res_err, gs_0, gs_1, gs_2, gs_3, gs_4, gs_5, gs_6, gs_7, gs_8, gs_9, gs_10, gs_11, gs_12, ent, entB, Option.map_some, Option.bind_some, List.length_cons, List.length_nil, List.length_map, List.map_cons, List.map_nil, List.replicate, List.cons_append, List.nil_append, List.set_cons_zero, List.set_cons_succ, Nat.reduceAdd, Nat.reduceSub, Nat.zero_add, if_true, hx, f_in1, h1', hL, hcu, hk', f_tup, h2s]
      · rw [if_neg hk] at z
        have hk' := hK ((c :: t).take R)
        rw [decide_eq_false hk, kept_is] at hk'
        simp only [List.map_cons, List.map_nil] at hk'
        cases z
        rw [sc_name]
        simp only [m_word_at, c_word_at, a_nonV, a_pk, a_lenO, a_mP, a_mL, a_mB, a_run, a_runB, a_nx, a_seq, a_if, a_ret, a_retN, a_brk, a_cnt, a_drop, a_asg, a_forS, a_for0, a_var, a_mov, a_C, a_nil, a_cons, a_op1, a_op2, a_opN, a_te, a_tb, a_not, a_and, a_or, a_yes, a_andE, a_orE, a_notE, a_ifE, a_call, a_callK, a_callB, a_app, a_sto, a_sl, a_on, a_os, a_itV, a_itN, a_lc, a_m1, a_raP, a_raN, a_chain, a_try, a_gN, a_gE, a_gP, a_gW1, a_gW2, a_gW3, z_fz, z_ow, s_fz, s_ow, o_ow, o_bw, w_nil, w_cons, i_lst, i_tup, i_str, b_bl, t_bl, t_non, n_int, f_addI, f_addL, f_I, f_sub, f_eqI, f_neI, f_eqS, f_neS, f_ltI, f_leI, f_gtI, f_geI, f_lenL, f_lenT, f_lenC, f_lenS, f_lst, f_tup, f_ixL, f_ixT, f_zLT, f_zTT, f_zLL, f_all, f_any, f_tuL, rs_bind_ok, rs_bind_err, rs_of_some, rs_res_ok, rs_res_err, gs_0, gs_1, gs_2, gs_3, gs_4, gs_5, gs_6, gs_7, gs_8, gs_9, gs_10, gs_11, gs_12, ent, entB, Option.map_some, Option.bind_some, List.length_cons, List.length_nil, List.length_map, List.map_cons, List.map_nil, List.replicate, List.cons_append, List.nil_append, List.set_cons_zero, List.set_cons_succ, Nat.reduceAdd, Nat.reduceSub, Nat.zero_add, if_true, hx, f_in1, h1', hL, hcu, hk', f_tup, h2s, Bool.false_eq_true, if_false]
  · have h1' : decide (c ∈ lets) = false := decide_eq_false h1
    unfold lets at h1'
    by_cases h2 : c ∈ figs
    · have h2' : decide (c ∈ figs) = true := decide_eq_true h2
      unfold figs at h2'
      by_cases hlg : longF (c :: t)
      · have hF := Fg.1 hlg
        refine ⟨fun _ => ?_, fun s n z => (nomatch (wa_figL h1 h2 hlg).symm.trans z)⟩
        simp only [m_word_at, c_word_at, a_nonV, a_pk, a_lenO, a_mP, a_mL, a_mB, a_run, a_runB, a_nx, a_seq, a_if, a_ret, a_retN, a_brk, a_cnt, a_drop, a_asg, a_forS, a_for0, a_var, a_mov, a_C, a_nil, a_cons, a_op1, a_op2, a_opN, a_te, a_tb, a_not, a_and, a_or, a_yes, a_andE, a_orE, a_notE, a_ifE, a_call, a_callK, a_callB, a_app, a_sto, a_sl, a_on, a_os, a_itV, a_itN, a_lc, a_m1, a_raP, a_raN, a_chain, a_try, a_gN, a_gE, a_gP, a_gW1, a_gW2, a_gW3, z_fz, z_ow, s_fz, s_ow, o_ow, o_bw, w_nil, w_cons, i_lst, i_tup, i_str, b_bl, t_bl, t_non, n_int, f_addI, f_addL, f_I, f_sub, f_eqI, f_neI, f_eqS, f_neS, f_ltI, f_leI, f_gtI, f_geI, f_lenL, f_lenT, f_lenC, f_lenS, f_lst, f_tup, f_ixL, f_ixT, f_zLT, f_zTT, f_zLL, f_all, f_any, f_tuL, rs_bind_ok, rs_bind_err, rs_of_some, rs_res_ok, rs_res_err, gs_0, gs_1, gs_2, gs_3, gs_4, gs_5, gs_6, gs_7, gs_8, gs_9, gs_10, gs_11, gs_12, ent, entB, Option.map_some, Option.bind_some, List.length_cons, List.length_nil, List.length_map, List.map_cons, List.map_nil, List.replicate, List.cons_append, List.nil_append, List.set_cons_zero, List.set_cons_succ, Nat.reduceAdd, Nat.reduceSub, Nat.zero_add, if_true, hx, f_in1, h1', h2', hF, Bool.false_eq_true, if_false]
      · have hF := Fg.2 hlg
        have hw := wa_fig h1 h2 hlg
        refine ⟨fun z => (nomatch hw.symm.trans z), fun s n z => ?_⟩
        have z := Option.some.inj (hw.symm.trans z)
        cases z
        have hcu := hcut (numb (c :: t)).2
        generalize (numb (c :: t)).2 = R at *
        generalize ((a + R : Nat) : Int) = A1 at *
        rw [sc_number]
        simp only [m_word_at, c_word_at, a_nonV, a_pk, a_lenO, a_mP, a_mL, a_mB, a_run, a_runB, a_nx, a_seq, a_if, a_ret, a_retN, a_brk, a_cnt, a_drop, a_asg, a_forS, a_for0, a_var, a_mov, a_C, a_nil, a_cons, a_op1, a_op2, a_opN, a_te, a_tb, a_not, a_and, a_or, a_yes, a_andE, a_orE, a_notE, a_ifE, a_call, a_callK, a_callB, a_app, a_sto, a_sl, a_on, a_os, a_itV, a_itN, a_lc, a_m1, a_raP, a_raN, a_chain, a_try, a_gN, a_gE, a_gP, a_gW1, a_gW2, a_gW3, z_fz, z_ow, s_fz, s_ow, o_ow, o_bw, w_nil, w_cons, i_lst, i_tup, i_str, b_bl, t_bl, t_non, n_int, f_addI, f_addL, f_I, f_sub, f_eqI, f_neI, f_eqS, f_neS, f_ltI, f_leI, f_gtI, f_geI, f_lenL, f_lenT, f_lenC, f_lenS, f_lst, f_tup, f_ixL, f_ixT, f_zLT, f_zTT, f_zLL, f_all, f_any, f_tuL, rs_bind_ok, rs_bind_err, rs_of_some, rs_res_ok, rs_res_err, gs_0, gs_1, gs_2, gs_3, gs_4, gs_5, gs_6, gs_7, gs_8, gs_9, gs_10, gs_11, gs_12, ent, entB, Option.map_some, Option.bind_some, List.length_cons, List.length_nil, List.length_map, List.map_cons, List.map_nil, List.replicate, List.cons_append, List.nil_append, List.set_cons_zero, List.set_cons_succ, Nat.reduceAdd, Nat.reduceSub, Nat.zero_add, if_true, hx, f_in1, h1', h2', hF, hcu, f_tup, h2s, Bool.false_eq_true, if_false]
    · have h2' : decide (c ∈ figs) = false := decide_eq_false h2
      unfold figs at h2'
      have hcu := hcut 2
      rw [← e2] at hcu
      by_cases h3 : (c :: t).take 2 ∈ dbls
      · have h3' := hD ((c :: t).take 2)
        rw [decide_eq_true h3] at h3'
        unfold dbls at h3'
        simp only [List.map_cons, List.map_nil] at h3'
        have hw := wa_dbl h1 h2 h3
        refine ⟨fun z => (nomatch hw.symm.trans z), fun s n z => ?_⟩
        have z := Option.some.inj (hw.symm.trans z)
        cases z
        rw [sc_sign]
        simp only [m_word_at, c_word_at, a_nonV, a_pk, a_lenO, a_mP, a_mL, a_mB, a_run, a_runB, a_nx, a_seq, a_if, a_ret, a_retN, a_brk, a_cnt, a_drop, a_asg, a_forS, a_for0, a_var, a_mov, a_C, a_nil, a_cons, a_op1, a_op2, a_opN, a_te, a_tb, a_not, a_and, a_or, a_yes, a_andE, a_orE, a_notE, a_ifE, a_call, a_callK, a_callB, a_app, a_sto, a_sl, a_on, a_os, a_itV, a_itN, a_lc, a_m1, a_raP, a_raN, a_chain, a_try, a_gN, a_gE, a_gP, a_gW1, a_gW2, a_gW3, z_fz, z_ow, s_fz, s_ow, o_ow, o_bw, w_nil, w_cons, i_lst, i_tup, i_str, b_bl, t_bl, t_non, n_int, f_addI, f_addL, f_I, f_sub, f_eqI, f_neI, f_eqS, f_neS, f_ltI, f_leI, f_gtI, f_geI, f_lenL, f_lenT, f_lenC, f_lenS, f_lst, f_tup, f_ixL, f_ixT, f_zLT, f_zTT, f_zLL, f_all, f_any, f_tuL, rs_bind_ok, rs_bind_err, rs_of_some, rs_res_ok, rs_res_err, gs_0, gs_1, gs_2, gs_3, gs_4, gs_5, gs_6, gs_7, gs_8, gs_9, gs_10, gs_11, gs_12, ent, entB, Option.map_some, Option.bind_some, List.length_cons, List.length_nil, List.length_map, List.map_cons, List.map_nil, List.replicate, List.cons_append, List.nil_append, List.set_cons_zero, List.set_cons_succ, Nat.reduceAdd, Nat.reduceSub, Nat.zero_add, if_true, hx, f_in1, h1', h2', hcu, h3', f_tup, h2s, Bool.false_eq_true, if_false]
      · have h3' := hD ((c :: t).take 2)
        rw [decide_eq_false h3] at h3'
        unfold dbls at h3'
        simp only [List.map_cons, List.map_nil] at h3'
        by_cases h4 : c ∈ sings
        · have h4' : decide (c ∈ sings) = true := decide_eq_true h4
          unfold sings at h4'
          have hw := wa_sing h1 h2 h3 h4
          refine ⟨fun z => (nomatch hw.symm.trans z), fun s n z => ?_⟩
          have z := Option.some.inj (hw.symm.trans z)
          cases z
          rw [sc_sign]
          simp only [m_word_at, c_word_at, a_nonV, a_pk, a_lenO, a_mP, a_mL, a_mB, a_run, a_runB, a_nx, a_seq, a_if, a_ret, a_retN, a_brk, a_cnt, a_drop, a_asg, a_forS, a_for0, a_var, a_mov, a_C, a_nil, a_cons, a_op1, a_op2, a_opN, a_te, a_tb, a_not, a_and, a_or, a_yes, a_andE, a_orE, a_notE, a_ifE, a_call, a_callK, a_callB, a_app, a_sto, a_sl, a_on, a_os, a_itV, a_itN, a_lc, a_m1, a_raP, a_raN, a_chain, a_try, a_gN, a_gE, a_gP, a_gW1, a_gW2, a_gW3, z_fz, z_ow, s_fz, s_ow, o_ow, o_bw, w_nil, w_cons, i_lst, i_tup, i_str, b_bl, t_bl, t_non, n_int, f_addI, f_addL, f_I, f_sub, f_eqI, f_neI, f_eqS, f_neS, f_ltI, f_leI, f_gtI, f_geI, f_lenL, f_lenT, f_lenC, f_lenS, f_lst, f_tup, f_ixL, f_ixT, f_zLT, f_zTT, f_zLL, f_all, f_any, f_tuL, rs_bind_ok, rs_bind_err, rs_of_some, rs_res_ok, rs_res_err, gs_0, gs_1, gs_2, gs_3, gs_4, gs_5, gs_6, gs_7, gs_8, gs_9, gs_10, gs_11, gs_12, ent, entB, Option.map_some, Option.bind_some, List.length_cons, List.length_nil, List.length_map, List.map_cons, List.map_nil, List.replicate, List.cons_append, List.nil_append, List.set_cons_zero, List.set_cons_succ, Nat.reduceAdd, Nat.reduceSub, Nat.zero_add, if_true, hx, f_in1, h1', h2', hcu, h3', h4', f_tup, h2s, Bool.false_eq_true, if_false]
          rfl
        · have h4' : decide (c ∈ sings) = false := decide_eq_false h4
          unfold sings at h4'
          refine ⟨fun _ => ?_, fun s n z => (nomatch (wa_none h1 h2 h3 h4).symm.trans z)⟩
          simp only [m_word_at, c_word_at, a_nonV, a_pk, a_lenO, a_mP, a_mL, a_mB, a_run, a_runB, a_nx, a_seq, a_if, a_ret, a_retN, a_brk, a_cnt, a_drop, a_asg, a_forS, a_for0, a_var, a_mov, a_C, a_nil, a_cons, a_op1, a_op2, a_opN, a_te, a_tb, a_not, a_and, a_or, a_yes, a_andE, a_orE, a_notE, a_ifE, a_call, a_callK, a_callB, a_app, a_sto, a_sl, a_on, a_os, a_itV, a_itN, a_lc, a_m1, a_raP, a_raN, a_chain, a_try, a_gN, a_gE, a_gP, a_gW1, a_gW2, a_gW3, z_fz, z_ow, s_fz, s_ow, o_ow, o_bw, w_nil, w_cons, i_lst, i_tup, i_str, b_bl, t_bl, t_non, n_int, f_addI, f_addL, f_I, f_sub, f_eqI, f_neI, f_eqS, f_neS, f_ltI, f_leI, f_gtI, f_geI, f_lenL, f_lenT, f_lenC, f_lenS, f_lst, f_tup, f_ixL, f_ixT, f_zLT, f_zTT, f_zLL, f_all, f_any, f_tuL, rs_bind_ok, rs_bind_err, rs_of_some, rs_res_ok, rs_res_err, gs_0, gs_1, gs_2, gs_3, gs_4, gs_5, gs_6, gs_7, gs_8, gs_9, gs_10, gs_11, gs_12, ent, entB, Option.map_some, Option.bind_some, List.length_cons, List.length_nil, List.length_map, List.map_cons, List.map_nil, List.replicate, List.cons_append, List.nil_append, List.set_cons_zero, List.set_cons_succ, Nat.reduceAdd, Nat.reduceSub, Nat.zero_add, if_true, hx, f_in1, h1', h2', hcu, h3', h4', Bool.false_eq_true, if_false, List.reverse_cons, List.reverse_nil, List.zip_cons_cons, List.zip_nil_left]
end P02

set_option Elab.async false
set_option linter.all false
set_option maxRecDepth 100000
set_option maxHeartbeats 4000000
namespace P02
open PySem L2 LK DL WD
def woT (w : Wo) : D := .tup [.str (sc w.1), .str w.2.1, .int (w.2.2 : Nat)]
abbrev CW : DT := dTb (dOp2 fLt (dVar 2) (dLenO 0))
abbrev BW : DC := (dIf (dTb (dOp2 fIn (dPk 0 (dVar 2)) (dC (.str [32, 10])))) (dAug 2 aAdd (dC (.int 1))) (dSeq (dAsg (dCall m_word_at (dCons (dVar 0) (dCons (dVar 2) dNil))) (gW 2 (gP (gN 3) (gP (gN 4) gE))))
  (dSeq (dDrop (dApp 1 (dOpN fTup (dCons (dVar 3) (dCons (dVar 4) (dCons (dVar 2) dNil))))))
  (dAug 2 aAdd (dLenO 4)))))
theorem whl_end {c : DT} {f : DC} {F : Nat} {ρ : DS} (h : c ρ = .ok false ρ) : dWhile c f (F + 1) ρ = .ok .nx ρ := by
  rw [a_whl, h]
  rfl
theorem whl_go {c : DT} {f : DC} {F : Nat} {ρ ρ1 : DS} (h : c ρ = .ok true ρ) (h2 : f ρ = .ok .nx ρ1) : dWhile c f (F + 1) ρ = dWhile c f F ρ1 := by
  rw [a_whl, h, rs_bind_ok, if_pos rfl, h2]
  rfl
theorem whl_err {c : DT} {f : DC} {F : Nat} {ρ ρ1 : DS} {k : Str} {fs : List (Str × D)} (h : c ρ = .ok true ρ) (h2 : f ρ = .err k fs ρ1) : dWhile c f (F + 1) ρ = .err k fs ρ1 := by
  rw [a_whl, h, rs_bind_ok, if_pos rfl, h2]
  rfl
theorem test_w {cs : List Nat} {b : Nat} {s1 s3 s4 : Sl} (hz : cs.length ≤ sizeLine) : CW [.fz (.str cs), s1, .fz (.int (b : Nat)), s3, s4] = .ok (decide (b < cs.length)) [.fz (.str cs), s1, .fz (.int (b : Nat)), s3, s4] := by
  have e : decide (((b : Nat) : Int) < (cs.length : Nat)) = decide (b < cs.length) := by
    by_cases h : b < cs.length
    · rw [decide_eq_true h, decide_eq_true (by omega)]
    · rw [decide_eq_false h, decide_eq_false (by omega)]
  simp only [CW, a_nonV, a_pk, a_lenO, a_mP, a_mL, a_mB, a_run, a_runB, a_nx, a_seq, a_if, a_ret, a_retN, a_brk, a_cnt, a_drop, a_asg, a_forS, a_for0, a_var, a_mov, a_C, a_nil, a_cons, a_op1, a_op2, a_opN, a_te, a_tb, a_not, a_and, a_or, a_yes, a_andE, a_orE, a_notE, a_ifE, a_call, a_callK, a_callB, a_app, a_sto, a_sl, a_on, a_os, a_itV, a_itN, a_lc, a_m1, a_raP, a_raN, a_chain, a_try, a_gN, a_gE, a_gP, a_gW1, a_gW2, a_gW3, z_fz, z_ow, s_fz, s_ow, o_ow, o_bw, w_nil, w_cons, i_lst, i_tup, i_str, b_bl, t_bl, t_non, n_int, f_addI, f_addL, f_I, f_sub, f_eqI, f_neI, f_eqS, f_neS, f_ltI, f_leI, f_gtI, f_geI, f_lenL, f_lenT, f_lenC, f_lenS, f_lst, f_tup, f_ixL, f_ixT, f_zLT, f_zTT, f_zLL, f_all, f_any, f_tuL, rs_bind_ok, rs_bind_err, rs_of_some, rs_res_ok, rs_res_err, gs_0, gs_1, gs_2, gs_3, gs_4, gs_5, gs_6, gs_7, gs_8, gs_9, gs_10, gs_11, gs_12, ent, entB, Option.map_some, Option.bind_some, List.length_cons, List.length_nil, List.length_map, List.map_cons, List.map_nil, List.replicate, List.cons_append, List.nil_append, List.set_cons_zero, List.set_cons_succ, Nat.reduceAdd, Nat.reduceSub, Nat.zero_add, if_true, f_lenS, hz, e]
theorem loop_w {cs : List Nat} (hl : cs.length ≤ 100000) : ∀ (n b : Nat) (acc : List D) (s3 s4 : Sl) (F : Nat), cs.length - b ≤ n → b ≤ cs.length → n < F → acc.length ≤ b →
    (∀ q, (wordsAt cs b).2 = some q → ∃ ρ, dWhile CW BW F [.fz (.str cs), .ow (.lst acc), .fz (.int (b : Nat)), s3, s4] = .err "NoText" [("at", .int (q : Nat))] ρ) ∧
    ((wordsAt cs b).2 = none → ∃ e t3 t4, dWhile CW BW F [.fz (.str cs), .ow (.lst acc), .fz (.int (b : Nat)), s3, s4] = .ok .nx [.fz (.str cs), .ow (.lst (acc ++ (wordsAt cs b).1.map woT)), .fz (.int e), t3, t4]) := by
  have hz : cs.length ≤ sizeLine := by rw [sz]; omega
  intro n
  induction n with
  | zero =>
    intro b acc s3 s4 F h1 h2 h3 h4
    obtain ⟨F, rfl⟩ : ∃ G, F = G + 1 := ⟨F - 1, by omega⟩
    have e := wordsAt_end (show cs.length ≤ b by omega)
    rw [e]
    refine ⟨fun q z => (nomatch z), fun _ => ⟨b, s3, s4, ?_⟩⟩
    rw [whl_end ((test_w hz).trans (by rw [decide_eq_false (by omega)])), List.map_nil, List.append_nil]
  | succ n ih =>
    intro b acc s3 s4 F h1 h2 h3 h4
    obtain ⟨F, rfl⟩ : ∃ G, F = G + 1 := ⟨F - 1, by omega⟩
    by_cases hb : b < cs.length
    · have ht := (test_w (s1 := .ow (.lst acc)) (s3 := s3) (s4 := s4) (b := b) hz).trans (by rw [decide_eq_true hb])
      have hd := drop_at hb
      have hx := ix_str hz (List.getElem?_eq_getElem hb)
      generalize cs[b] = c at hd hx
      generalize cs.drop (b + 1) = t at hd
      have e1 : ((b : Nat) : Int) + 1 = ((b + 1 : Nat) : Int) := by omega
      by_cases hc : c ∈ [32, 10]
      · have hc' : decide (c ∈ [32, 10]) = true := decide_eq_true hc
        have hgo : BW [.fz (.str cs), .ow (.lst acc), .fz (.int (b : Nat)), s3, s4] = .ok .nx [.fz (.str cs), .ow (.lst acc), .fz (.int (b + 1 : Nat)), s3, s4] := by
          simp only [BW, a_nonV, a_pk, a_lenO, a_mP, a_mL, a_mB, a_run, a_runB, a_nx, a_seq, a_if, a_ret, a_retN, a_brk, a_cnt, a_drop, a_asg, a_forS, a_for0, a_var, a_mov, a_C, a_nil, a_cons, a_op1, a_op2, a_opN, a_te, a_tb, a_not, a_and, a_or, a_yes, a_andE, a_orE, a_notE, a_ifE, a_call, a_callK, a_callB, a_app, a_sto, a_sl, a_on, a_os, a_itV, a_itN, a_lc, a_m1, a_raP, a_raN, a_chain, a_try, a_gN, a_gE, a_gP, a_gW1, a_gW2, a_gW3, z_fz, z_ow, s_fz, s_ow, o_ow, o_bw, w_nil, w_cons, i_lst, i_tup, i_str, b_bl, t_bl, t_non, n_int, f_addI, f_addL, f_I, f_sub, f_eqI, f_neI, f_eqS, f_neS, f_ltI, f_leI, f_gtI, f_geI, f_lenL, f_lenT, f_lenC, f_lenS, f_lst, f_tup, f_ixL, f_ixT, f_zLT, f_zTT, f_zLL, f_all, f_any, f_tuL, rs_bind_ok, rs_bind_err, rs_of_some, rs_res_ok, rs_res_err, gs_0, gs_1, gs_2, gs_3, gs_4, gs_5, gs_6, gs_7, gs_8, gs_9, gs_10, gs_11, gs_12, ent, entB, Option.map_some, Option.bind_some, List.length_cons, List.length_nil, List.length_map, List.map_cons, List.map_nil, List.replicate, List.cons_append, List.nil_append, List.set_cons_zero, List.set_cons_succ, Nat.reduceAdd, Nat.reduceSub, Nat.zero_add, if_true, hx, f_in1, hc', a_aug, g_add, e1]
        rw [wordsAt_blank hd hc, whl_go ht hgo]
        exact ih (b + 1) acc s3 s4 F (by omega) (by omega) (by omega) (by omega)
      · have hc' : decide (c ∈ [32, 10]) = false := decide_eq_false hc
        have W := e_word hl hd
        cases hw : wordAt (c :: t) with
        | none =>
          have W := W.1 hw
          have hgo : ∃ ρ, BW [.fz (.str cs), .ow (.lst acc), .fz (.int (b : Nat)), s3, s4] = .err "NoText" [("at", .int (b : Nat))] ρ := ⟨_, by
            simp only [BW, a_nonV, a_pk, a_lenO, a_mP, a_mL, a_mB, a_run, a_runB, a_nx, a_seq, a_if, a_ret, a_retN, a_brk, a_cnt, a_drop, a_asg, a_forS, a_for0, a_var, a_mov, a_C, a_nil, a_cons, a_op1, a_op2, a_opN, a_te, a_tb, a_not, a_and, a_or, a_yes, a_andE, a_orE, a_notE, a_ifE, a_call, a_callK, a_callB, a_app, a_sto, a_sl, a_on, a_os, a_itV, a_itN, a_lc, a_m1, a_raP, a_raN, a_chain, a_try, a_gN, a_gE, a_gP, a_gW1, a_gW2, a_gW3, z_fz, z_ow, s_fz, s_ow, o_ow, o_bw, w_nil, w_cons, i_lst, i_tup, i_str, b_bl, t_bl, t_non, n_int, f_addI, f_addL, f_I, f_sub, f_eqI, f_neI, f_eqS, f_neS, f_ltI, f_leI, f_gtI, f_geI, f_lenL, f_lenT, f_lenC, f_lenS, f_lst, f_tup, f_ixL, f_ixT, f_zLT, f_zTT, f_zLL, f_all, f_any, f_tuL, rs_bind_ok, rs_bind_err, rs_of_some, rs_res_ok, rs_res_err, gs_0, gs_1, gs_2, gs_3, gs_4, gs_5, gs_6, gs_7, gs_8, gs_9, gs_10, gs_11, gs_12, ent, entB, Option.map_some, Option.bind_some, List.length_cons, List.length_nil, List.length_map, List.map_cons, List.map_nil, List.replicate, List.cons_append, List.nil_append, List.set_cons_zero, List.set_cons_succ, Nat.reduceAdd, Nat.reduceSub, Nat.zero_add, if_true, hx, f_in1, hc', W, Bool.false_eq_true, if_false]
            rfl⟩
          obtain ⟨ρ, hgo⟩ := hgo
          rw [wordsAt_bad hd hc hw, whl_err ht hgo]
          refine ⟨fun q z => ⟨ρ, ?_⟩, fun z => nomatch z⟩
          cases z
          rfl
        | some sn =>
          obtain ⟨s, k⟩ := sn
          have W := W.2 s k hw
          obtain ⟨k0, k1⟩ := word_len hw
          have hlen : (c :: t).length = cs.length - b := by rw [← hd, List.length_drop]
          have hkl : ((c :: t).take k).length = k := by rw [List.length_take]; omega
          rw [wordsAt_word hd hc hw]
          generalize (c :: t).take k = w at W hkl
          have hwz : w.length ≤ sizeLine := by rw [sz]; omega
          have e2 : ((b : Nat) : Int) + ((w.length : Nat) : Int) = ((b + k : Nat) : Int) := by omega
          have hal : acc.length < sizeLine := by rw [sz]; omega
          have h3s : (3 : Nat) ≤ sizeLine := by decide
          have hgo : BW [.fz (.str cs), .ow (.lst acc), .fz (.int (b : Nat)), s3, s4] = .ok .nx [.fz (.str cs), .ow (.lst (acc ++ [woT (s, w, b)])), .fz (.int (b + k : Nat)), .fz (.str (sc s)), .fz (.str w)] := by
            simp only [BW, a_nonV, a_pk, a_lenO, a_mP, a_mL, a_mB, a_run, a_runB, a_nx, a_seq, a_if, a_ret, a_retN, a_brk, a_cnt, a_drop, a_asg, a_forS, a_for0, a_var, a_mov, a_C, a_nil, a_cons, a_op1, a_op2, a_opN, a_te, a_tb, a_not, a_and, a_or, a_yes, a_andE, a_orE, a_notE, a_ifE, a_call, a_callK, a_callB, a_app, a_sto, a_sl, a_on, a_os, a_itV, a_itN, a_lc, a_m1, a_raP, a_raN, a_chain, a_try, a_gN, a_gE, a_gP, a_gW1, a_gW2, a_gW3, z_fz, z_ow, s_fz, s_ow, o_ow, o_bw, w_nil, w_cons, i_lst, i_tup, i_str, b_bl, t_bl, t_non, n_int, f_addI, f_addL, f_I, f_sub, f_eqI, f_neI, f_eqS, f_neS, f_ltI, f_leI, f_gtI, f_geI, f_lenL, f_lenT, f_lenC, f_lenS, f_lst, f_tup, f_ixL, f_ixT, f_zLT, f_zTT, f_zLL, f_all, f_any, f_tuL, rs_bind_ok, rs_bind_err, rs_of_some, rs_res_ok, rs_res_err, gs_0, gs_1, gs_2, gs_3, gs_4, gs_5, gs_6, gs_7, gs_8, gs_9, gs_10, gs_11, gs_12, ent, entB, Option.map_some, Option.bind_some, List.length_cons, List.length_nil, List.length_map, List.map_cons, List.map_nil, List.replicate, List.cons_append, List.nil_append, List.set_cons_zero, List.set_cons_succ, Nat.reduceAdd, Nat.reduceSub, Nat.zero_add, if_true, hx, f_in1, hc', W, Bool.false_eq_true, if_false, f_tup, h3s, hal, f_lenS, hwz, a_aug, g_add, e2, woT]
          rw [whl_go ht hgo]
          have i := ih (b + k) (acc ++ [woT (s, w, b)]) (.fz (.str (sc s))) (.fz (.str w)) F (by omega) (by omega) (by omega) (by rw [List.length_append, List.length_singleton]; omega)
          refine ⟨i.1, fun z => ?_⟩
          obtain ⟨e, t3, t4, i⟩ := i.2 z
          exact ⟨e, t3, t4, by rw [i, List.map_cons, List.append_assoc]; rfl⟩
    · have e := wordsAt_end (show cs.length ≤ b by omega)
      rw [e]
      refine ⟨fun q z => (nomatch z), fun _ => ⟨b, s3, s4, ?_⟩⟩
      rw [whl_end ((test_w hz).trans (by rw [decide_eq_false hb])), List.map_nil, List.append_nil]
theorem e_words {cs : List Nat} (hl : cs.length ≤ 100000) : (∀ q, (words cs).2 = some q → m_words [.str cs] = .err "NoText" [("at", .int (q : Nat))]) ∧ ((words cs).2 = none → m_words [.str cs] = .ok (.ow (.lst ((words cs).1.map woT)))) := by
  have hF : 200000 < FUEL := by decide
  have h0 : (0 : Nat) ≤ sizeLine := by decide
  have hw : words cs = wordsAt cs 0 := by unfold words wordsAt; rw [List.drop_zero]
  have L := loop_w hl cs.length 0 [] .un .un FUEL (by omega) (by omega) (by omega) (by simp)
  rw [← hw] at L
  unfold CW BW at L
  refine ⟨fun q z => ?_, fun z => ?_⟩
  · obtain ⟨ρ, h⟩ := L.1 q z
    have h : dWhile _ _ FUEL [.fz (.str cs), .ow (.lst []), .fz (.int 0), .un, .un] = _ := h
    simp only [m_words, c_words, a_nonV, a_pk, a_lenO, a_mP, a_mL, a_mB, a_run, a_runB, a_nx, a_seq, a_if, a_ret, a_retN, a_brk, a_cnt, a_drop, a_asg, a_forS, a_for0, a_var, a_mov, a_C, a_nil, a_cons, a_op1, a_op2, a_opN, a_te, a_tb, a_not, a_and, a_or, a_yes, a_andE, a_orE, a_notE, a_ifE, a_call, a_callK, a_callB, a_app, a_sto, a_sl, a_on, a_os, a_itV, a_itN, a_lc, a_m1, a_raP, a_raN, a_chain, a_try, a_gN, a_gE, a_gP, a_gW1, a_gW2, a_gW3, z_fz, z_ow, s_fz, s_ow, o_ow, o_bw, w_nil, w_cons, i_lst, i_tup, i_str, b_bl, t_bl, t_non, n_int, f_addI, f_addL, f_I, f_sub, f_eqI, f_neI, f_eqS, f_neS, f_ltI, f_leI, f_gtI, f_geI, f_lenL, f_lenT, f_lenC, f_lenS, f_lst, f_tup, f_ixL, f_ixT, f_zLT, f_zTT, f_zLL, f_all, f_any, f_tuL, rs_bind_ok, rs_bind_err, rs_of_some, rs_res_ok, rs_res_err, gs_0, gs_1, gs_2, gs_3, gs_4, gs_5, gs_6, gs_7, gs_8, gs_9, gs_10, gs_11, gs_12, ent, entB, Option.map_some, Option.bind_some, List.length_cons, List.length_nil, List.length_map, List.map_cons, List.map_nil, List.replicate, List.cons_append, List.nil_append, List.set_cons_zero, List.set_cons_succ, Nat.reduceAdd, Nat.reduceSub, Nat.zero_add, if_true, f_lst, h0, h]
  · obtain ⟨e, t3, t4, h⟩ := L.2 z
    have h : dWhile _ _ FUEL [.fz (.str cs), .ow (.lst []), .fz (.int 0), .un, .un] = _ := h
    simp only [m_words, c_words, a_nonV, a_pk, a_lenO, a_mP, a_mL, a_mB, a_run, a_runB, a_nx, a_seq, a_if, a_ret, a_retN, a_brk, a_cnt, a_drop, a_asg, a_forS, a_for0, a_var, a_mov, a_C, a_nil, a_cons, a_op1, a_op2, a_opN, a_te, a_tb, a_not, a_and, a_or, a_yes, a_andE, a_orE, a_notE, a_ifE, a_call, a_callK, a_callB, a_app, a_sto, a_sl, a_on, a_os, a_itV, a_itN, a_lc, a_m1, a_raP, a_raN, a_chain, a_try, a_gN, a_gE, a_gP, a_gW1, a_gW2, a_gW3, z_fz, z_ow, s_fz, s_ow, o_ow, o_bw, w_nil, w_cons, i_lst, i_tup, i_str, b_bl, t_bl, t_non, n_int, f_addI, f_addL, f_I, f_sub, f_eqI, f_neI, f_eqS, f_neS, f_ltI, f_leI, f_gtI, f_geI, f_lenL, f_lenT, f_lenC, f_lenS, f_lst, f_tup, f_ixL, f_ixT, f_zLT, f_zTT, f_zLL, f_all, f_any, f_tuL, rs_bind_ok, rs_bind_err, rs_of_some, rs_res_ok, rs_res_err, gs_0, gs_1, gs_2, gs_3, gs_4, gs_5, gs_6, gs_7, gs_8, gs_9, gs_10, gs_11, gs_12, ent, entB, Option.map_some, Option.bind_some, List.length_cons, List.length_nil, List.length_map, List.map_cons, List.map_nil, List.replicate, List.cons_append, List.nil_append, List.set_cons_zero, List.set_cons_succ, Nat.reduceAdd, Nat.reduceSub, Nat.zero_add, if_true, f_lst, h0, h, List.nil_append]
end P02

set_option Elab.async false
set_option linter.all false
set_option maxRecDepth 100000
set_option maxHeartbeats 4000000
namespace P02
open PySem L2 LK DL WD
theorem for_go {g : Vl → DS → Option DS} {f : DC} {d : D} {ds : List D} {ρ ρ1 ρ2 : DS} (h1 : g (.fz d) ρ = some ρ1) (h2 : f ρ1 = .ok .nx ρ2) : dFor g f (d :: ds) ρ = dFor g f ds ρ2 := by
  rw [a_for1, h1]
  dsimp only
  rw [h2, rs_bind_ok]
abbrev ten : List Str := ["NoText", "NoTree", "NoPath", "NoNaming", "NoLetters", "NoCount", "NoTurning", "NoMap", "NoLine", "TooMany"]
abbrev xNoText (a : Int) : D := .exc "NoText" [("at", .int a)]
theorem mem_NoText : ("NoText" : Str) ∈ ten := by decide +kernel
theorem isX_NoText {a : Int} {p : Str → Bool} {b : Bool} (h : p "NoText" = b) : fIsX ten p (xNoText a) = some (.fz (.bl b)) := by
  show (if ("NoText" : Str) ∈ ten then some (Vl.fz (.bl (p "NoText"))) else none) = _
  rw [if_pos mem_NoText, h]
theorem e_only_NoText (a : Int) : m__law_only [xNoText a, .str [78, 111, 84, 101, 120, 116]] = .ok (.fz (.bl true)) := by
  have k0 := isX_NoText (a := a) (p := fun d => decide (d = "NoText")) (b := true) (by decide +kernel)
  have k1 := isX_NoText (a := a) (p := fun d => decide (d = "NoTree")) (b := false) (by decide +kernel)
  have k2 := isX_NoText (a := a) (p := fun d => decide (d = "NoPath")) (b := false) (by decide +kernel)
  have k3 := isX_NoText (a := a) (p := fun d => decide (d = "NoNaming")) (b := false) (by decide +kernel)
  have k4 := isX_NoText (a := a) (p := fun d => decide (d = "NoLetters")) (b := false) (by decide +kernel)
  have k5 := isX_NoText (a := a) (p := fun d => decide (d = "NoCount")) (b := false) (by decide +kernel)
  have k6 := isX_NoText (a := a) (p := fun d => decide (d = "NoTurning")) (b := false) (by decide +kernel)
  have k7 := isX_NoText (a := a) (p := fun d => decide (d = "NoMap")) (b := false) (by decide +kernel)
  have k8 := isX_NoText (a := a) (p := fun d => decide (d = "NoLine")) (b := false) (by decide +kernel)
  have k9 := isX_NoText (a := a) (p := fun d => decide (d = "TooMany")) (b := false) (by decide +kernel)
  have kf_true := isX_NoText (a := a) (p := fun _ => true) (b := true) rfl
  have kf_false := isX_NoText (a := a) (p := fun _ => false) (b := false) rfl
  have s1 : (1 : Nat) ≤ sizeLine := by decide
  have s2 : (2 : Nat) ≤ sizeLine := by decide
  have s3 : (3 : Nat) ≤ sizeLine := by decide
  have s6 : (6 : Nat) ≤ sizeLine := by decide
  have s8 : (8 : Nat) ≤ sizeLine := by decide
  have s9 : (9 : Nat) ≤ sizeLine := by decide
  have s10 : (10 : Nat) ≤ sizeLine := by decide
  have t0 : (0 : Nat) < sizeLine := by decide
  have t9 : (9 : Nat) < sizeLine := by decide
  have hne : fNe (.lst [.str [78, 111, 84, 101, 120, 116]]) (.lst [.str [78, 111, 84, 101, 120, 116]]) = some (.fz (.bl false)) := fne_self (by decide +kernel)
  simp only [m__law_only, c__law_only, a_nonV, a_pk, a_lenO, a_mP, a_mL, a_mB, a_run, a_runB, a_nx, a_seq, a_if, a_ret, a_retN, a_brk, a_cnt, a_drop, a_asg, a_forS, a_for0, a_var, a_mov, a_C, a_nil, a_cons, a_op1, a_op2, a_opN, a_te, a_tb, a_not, a_and, a_or, a_yes, a_andE, a_orE, a_notE, a_ifE, a_call, a_callK, a_callB, a_app, a_sto, a_sl, a_on, a_os, a_itV, a_itN, a_lc, a_m1, a_raP, a_raN, a_chain, a_try, a_gN, a_gE, a_gP, a_gW1, a_gW2, a_gW3, z_fz, z_ow, s_fz, s_ow, o_ow, o_bw, w_nil, w_cons, i_lst, i_tup, i_str, b_bl, t_bl, t_non, n_int, f_addI, f_addS, f_addL, f_I, f_mulI, f_sub, f_eqI, f_neI, f_eqS, f_neS, f_ltI, f_leI, f_gtI, f_geI, f_lenL, f_lenT, f_lenC, f_lenS, f_lst, f_tup, f_ixL, f_ixT, f_ixS, f_zLT, f_zTT, f_zLL, f_all, f_any, f_tuL, rs_bind_ok, rs_bind_err, rs_of_some, rs_res_ok, rs_res_err, gs_0, gs_1, gs_2, gs_3, gs_4, gs_5, gs_6, gs_7, gs_8, gs_9, gs_10, gs_11, gs_12, ent, entB, Option.map_some, Option.bind_some, List.length_cons, List.length_nil, List.length_map, List.map_cons, List.map_nil, List.replicate, List.cons_append, List.nil_append, List.set_cons_zero, List.set_cons_succ, Nat.reduceAdd, Nat.reduceSub, Nat.zero_add, if_true, lcl0, lcl1, k0, k1, k2, k3, k4, k5, k6, k7, k8, k9, kf_true, kf_false, f_lst, s1, s2, s3, s6, s8, s9, s10, t0, t9, f_zLL, List.zip_cons_cons, List.zip_nil_left, hne, Bool.false_eq_true, if_false]
/-! cells and piles -/
theorem e_mixed (c k : Int) : ∃ v, m__law_mixed [.int c, .int k] = .ok (.fz (.int v)) := by
  have e1 := fmod_range (a := c.fmod 2147483647 * 48271 + k * 69621 + 1048583) (b := 2147483629) (by decide)
  have e2 := fmod_range (a := (c.fmod 2147483647 * 48271 + k * 69621 + 1048583).fmod 2147483629 * (c.fmod 2147483647 * 48271 + k * 69621 + 1048583).fmod 2147483629) (b := 2147483587) (by decide)
  have i1 := iMod_p (i := c) (show (0:Int) < 2147483647 by decide)
  simp only [m__law_mixed, c__law_mixed, a_nonV, a_pk, a_lenO, a_mP, a_mL, a_mB, a_run, a_runB, a_nx, a_seq, a_if, a_ret, a_retN, a_brk, a_cnt, a_drop, a_asg, a_forS, a_for0, a_var, a_mov, a_C, a_nil, a_cons, a_op1, a_op2, a_opN, a_te, a_tb, a_not, a_and, a_or, a_yes, a_andE, a_orE, a_notE, a_ifE, a_call, a_callK, a_callB, a_app, a_sto, a_sl, a_on, a_os, a_itV, a_itN, a_lc, a_m1, a_raP, a_raN, a_chain, a_try, a_gN, a_gE, a_gP, a_gW1, a_gW2, a_gW3, z_fz, z_ow, s_fz, s_ow, o_ow, o_bw, w_nil, w_cons, i_lst, i_tup, i_str, b_bl, t_bl, t_non, n_int, f_addI, f_addS, f_addL, f_I, f_mulI, f_sub, f_eqI, f_neI, f_eqS, f_neS, f_ltI, f_leI, f_gtI, f_geI, f_lenL, f_lenT, f_lenC, f_lenS, f_lst, f_tup, f_ixL, f_ixT, f_ixS, f_zLT, f_zTT, f_zLL, f_all, f_any, f_tuL, rs_bind_ok, rs_bind_err, rs_of_some, rs_res_ok, rs_res_err, gs_0, gs_1, gs_2, gs_3, gs_4, gs_5, gs_6, gs_7, gs_8, gs_9, gs_10, gs_11, gs_12, ent, entB, Option.map_some, Option.bind_some, List.length_cons, List.length_nil, List.length_map, List.map_cons, List.map_nil, List.replicate, List.cons_append, List.nil_append, List.set_cons_zero, List.set_cons_succ, Nat.reduceAdd, Nat.reduceSub, Nat.zero_add, if_true, iMod_p (show (0:Int) < 2147483647 by decide), iMod_p (show (0:Int) < 2147483629 by decide), iMul_r (show (-(2^64):Int) < 48271 by decide) (by decide), iMul_r (show (-(2^64):Int) < 69621 by decide) (by decide)]
  rw [iMul_l (by omega) (by omega)]
  simp only [a_nonV, a_pk, a_lenO, a_mP, a_mL, a_mB, a_run, a_runB, a_nx, a_seq, a_if, a_ret, a_retN, a_brk, a_cnt, a_drop, a_asg, a_forS, a_for0, a_var, a_mov, a_C, a_nil, a_cons, a_op1, a_op2, a_opN, a_te, a_tb, a_not, a_and, a_or, a_yes, a_andE, a_orE, a_notE, a_ifE, a_call, a_callK, a_callB, a_app, a_sto, a_sl, a_on, a_os, a_itV, a_itN, a_lc, a_m1, a_raP, a_raN, a_chain, a_try, a_gN, a_gE, a_gP, a_gW1, a_gW2, a_gW3, z_fz, z_ow, s_fz, s_ow, o_ow, o_bw, w_nil, w_cons, i_lst, i_tup, i_str, b_bl, t_bl, t_non, n_int, f_addI, f_addS, f_addL, f_I, f_mulI, f_sub, f_eqI, f_neI, f_eqS, f_neS, f_ltI, f_leI, f_gtI, f_geI, f_lenL, f_lenT, f_lenC, f_lenS, f_lst, f_tup, f_ixL, f_ixT, f_ixS, f_zLT, f_zTT, f_zLL, f_all, f_any, f_tuL, rs_bind_ok, rs_bind_err, rs_of_some, rs_res_ok, rs_res_err, gs_0, gs_1, gs_2, gs_3, gs_4, gs_5, gs_6, gs_7, gs_8, gs_9, gs_10, gs_11, gs_12, ent, entB, Option.map_some, Option.bind_some, List.length_cons, List.length_nil, List.length_map, List.map_cons, List.map_nil, List.replicate, List.cons_append, List.nil_append, List.set_cons_zero, List.set_cons_succ, Nat.reduceAdd, Nat.reduceSub, Nat.zero_add, if_true, iMod_p (show (0:Int) < 2147483587 by decide)]
  rw [iMul_l (by omega) (by omega)]
  simp only [a_nonV, a_pk, a_lenO, a_mP, a_mL, a_mB, a_run, a_runB, a_nx, a_seq, a_if, a_ret, a_retN, a_brk, a_cnt, a_drop, a_asg, a_forS, a_for0, a_var, a_mov, a_C, a_nil, a_cons, a_op1, a_op2, a_opN, a_te, a_tb, a_not, a_and, a_or, a_yes, a_andE, a_orE, a_notE, a_ifE, a_call, a_callK, a_callB, a_app, a_sto, a_sl, a_on, a_os, a_itV, a_itN, a_lc, a_m1, a_raP, a_raN, a_chain, a_try, a_gN, a_gE, a_gP, a_gW1, a_gW2, a_gW3, z_fz, z_ow, s_fz, s_ow, o_ow, o_bw, w_nil, w_cons, i_lst, i_tup, i_str, b_bl, t_bl, t_non, n_int, f_addI, f_addS, f_addL, f_I, f_mulI, f_sub, f_eqI, f_neI, f_eqS, f_neS, f_ltI, f_leI, f_gtI, f_geI, f_lenL, f_lenT, f_lenC, f_lenS, f_lst, f_tup, f_ixL, f_ixT, f_ixS, f_zLT, f_zTT, f_zLL, f_all, f_any, f_tuL, rs_bind_ok, rs_bind_err, rs_of_some, rs_res_ok, rs_res_err, gs_0, gs_1, gs_2, gs_3, gs_4, gs_5, gs_6, gs_7, gs_8, gs_9, gs_10, gs_11, gs_12, ent, entB, Option.map_some, Option.bind_some, List.length_cons, List.length_nil, List.length_map, List.map_cons, List.map_nil, List.replicate, List.cons_append, List.nil_append, List.set_cons_zero, List.set_cons_succ, Nat.reduceAdd, Nat.reduceSub, Nat.zero_add, if_true, iMod_p (show (0:Int) < 2147483579 by decide)]
  exact ⟨_, rfl⟩
theorem iDiv_big {i j : Int} (h : 0 < j) (h2 : j < 2 ^ 200) : iDiv i j = some (i.fdiv j) := if_pos (.inr ⟨h, by
  have : j.natAbs.log2 < 200 := (Nat.log2_lt (by omega)).mpr (by omega)
  omega⟩)
theorem e_take (p : Int) {n : Int} (h : 0 < n) (h2 : n < 2 ^ 200) : m__law_take (.lst [.int p]) [.int n] = .ok (.fz (.int (p.fmod n)), .lst [.int (p.fdiv n)]) := by
  have hx1 : ixN 1 0 = some 0 := rfl
  simp only [m__law_take, c__law_take, a_nonV, a_pk, a_lenO, a_mP, a_mL, a_mB, a_run, a_runB, a_nx, a_seq, a_if, a_ret, a_retN, a_brk, a_cnt, a_drop, a_asg, a_forS, a_for0, a_var, a_mov, a_C, a_nil, a_cons, a_op1, a_op2, a_opN, a_te, a_tb, a_not, a_and, a_or, a_yes, a_andE, a_orE, a_notE, a_ifE, a_call, a_callK, a_callB, a_app, a_sto, a_sl, a_on, a_os, a_itV, a_itN, a_lc, a_m1, a_raP, a_raN, a_chain, a_try, a_gN, a_gE, a_gP, a_gW1, a_gW2, a_gW3, z_fz, z_ow, s_fz, s_ow, o_ow, o_bw, w_nil, w_cons, i_lst, i_tup, i_str, b_bl, t_bl, t_non, n_int, f_addI, f_addS, f_addL, f_I, f_mulI, f_sub, f_eqI, f_neI, f_eqS, f_neS, f_ltI, f_leI, f_gtI, f_geI, f_lenL, f_lenT, f_lenC, f_lenS, f_lst, f_tup, f_ixL, f_ixT, f_ixS, f_zLT, f_zTT, f_zLL, f_all, f_any, f_tuL, rs_bind_ok, rs_bind_err, rs_of_some, rs_res_ok, rs_res_err, gs_0, gs_1, gs_2, gs_3, gs_4, gs_5, gs_6, gs_7, gs_8, gs_9, gs_10, gs_11, gs_12, ent, entB, Option.map_some, Option.bind_some, List.length_cons, List.length_nil, List.length_map, List.map_cons, List.map_nil, List.replicate, List.cons_append, List.nil_append, List.set_cons_zero, List.set_cons_succ, Nat.reduceAdd, Nat.reduceSub, Nat.zero_add, if_true, iMod_p h, iDiv_big h h2, at_0, hx1]
theorem mulOk {x y r : Int} (h : iMul x y = some r) : fMulS (.int x) (.int y) = some (.fz (.int r)) := f_mulI.trans (by rw [h]; rfl)
theorem add_2 {A B : DE} {ρ : DS} {a b : Int} (h1 : A ρ = .ok (.fz (.int a)) ρ) (h2 : B ρ = .ok (.fz (.int b)) ρ) : dOp2 fAdd A B ρ = .ok (.fz (.int (a + b))) ρ := by
  rw [a_op2, h1, rs_bind_ok, h2, rs_bind_ok, z_fz, z_fz, f_addI, rs_of_some]
theorem mul_2 {A B : DE} {ρ : DS} {a b : Int} (h1 : A ρ = .ok (.fz (.int a)) ρ) (h2 : B ρ = .ok (.fz (.int b)) ρ) (h : iMul a b = some (a * b)) : dOp2 fMulS A B ρ = .ok (.fz (.int (a * b))) ρ := by
  rw [a_op2, h1, rs_bind_ok, h2, rs_bind_ok, z_fz, z_fz, mulOk h, rs_of_some]
theorem body_cell {m : List D → Res Vl} {A B : DE} {X s : Sl} {k c f a b v : Int} (h1 : A [X, .fz (.int k), .fz (.int c), .fz (.int f), s] = .ok (.fz (.int a)) [X, .fz (.int k), .fz (.int c), .fz (.int f), s]) (h2 : B [X, .fz (.int k), .fz (.int c), .fz (.int f), s] = .ok (.fz (.int b)) [X, .fz (.int k), .fz (.int c), .fz (.int f), s]) (hm : m [.int c, .int b] = .ok (.fz (.int v))) :
    dAsg (dOp2 fAdd A (dCall m (dCons (dVar 2) (dCons B dNil)))) (gN 3) [X, .fz (.int k), .fz (.int c), .fz (.int f), s] = .ok .nx [X, .fz (.int k), .fz (.int c), .fz (.int (a + v)), s] := by
  simp only [a_nonV, a_pk, a_lenO, a_mP, a_mL, a_mB, a_run, a_runB, a_nx, a_seq, a_if, a_ret, a_retN, a_brk, a_cnt, a_drop, a_asg, a_forS, a_for0, a_var, a_mov, a_C, a_nil, a_cons, a_op1, a_op2, a_opN, a_te, a_tb, a_not, a_and, a_or, a_yes, a_andE, a_orE, a_notE, a_ifE, a_call, a_callK, a_callB, a_app, a_sto, a_sl, a_on, a_os, a_itV, a_itN, a_lc, a_m1, a_raP, a_raN, a_chain, a_try, a_gN, a_gE, a_gP, a_gW1, a_gW2, a_gW3, z_fz, z_ow, s_fz, s_ow, o_ow, o_bw, w_nil, w_cons, i_lst, i_tup, i_str, b_bl, t_bl, t_non, n_int, f_addI, f_addS, f_addL, f_I, f_sub, f_eqI, f_neI, f_eqS, f_neS, f_ltI, f_leI, f_gtI, f_geI, f_lenL, f_lenT, f_lenC, f_lenS, f_lst, f_tup, f_ixL, f_ixT, f_ixS, f_zLT, f_zTT, f_zLL, f_all, f_any, f_tuL, rs_bind_ok, rs_bind_err, rs_of_some, rs_res_ok, rs_res_err, gs_0, gs_1, gs_2, gs_3, gs_4, gs_5, gs_6, gs_7, gs_8, gs_9, gs_10, gs_11, gs_12, ent, entB, Option.map_some, Option.bind_some, List.length_cons, List.length_nil, List.length_map, List.map_cons, List.map_nil, List.replicate, List.cons_append, List.nil_append, List.set_cons_zero, List.set_cons_succ, Nat.reduceAdd, Nat.reduceSub, Nat.zero_add, if_true, h1, h2, hm]
theorem loop_cell {mm : List D → Res Vl} (hmm : ∀ c k : Int, ∃ v, mm [.int c, .int k] = .ok (.fz (.int v))) (X : Sl) (c k : Int) (ds : List Nat) : ∀ (f : Int) (s : Sl), (∀ j ∈ ds, j < 1000) → ∃ v s', dFor (gN 4) (dAsg (dOp2 fAdd (dOp2 fMulS (dVar 3) (dC (.int 2147483579))) (dCall mm (dCons (dVar 2) (dCons (dOp2 fAdd (dOp2 fAdd (dOp2 fMulS (dC (.int 7)) (dVar 1)) (dOp2 fMulS (dC (.int 100)) (dVar 4))) (dOp2 fMulS (dVar 4) (dVar 4))) dNil)))) (gN 3)) (ds.map fun j => .int (j : Nat)) [X, .fz (.int k), .fz (.int c), .fz (.int f), s] = .ok .nx [X, .fz (.int k), .fz (.int c), .fz (.int v), s'] := by
  induction ds with
  | nil => exact fun f s _ => ⟨f, s, rfl⟩
  | cons j ds ih =>
    intro f s h
    have hj := h j (List.mem_cons_self ..)
    have hi0 : (0 : Int) ≤ (j : Nat) := by omega
    have hi1 : ((j : Nat) : Int) < 1000 := by omega
    rw [List.map_cons]
    generalize ((j : Nat) : Int) = i at hi0 hi1 ⊢
    obtain ⟨m, hm⟩ := hmm c (7 * k + 100 * i + i * i)
    obtain ⟨v, s', hv⟩ := ih (f * 2147483579 + m) (.fz (.int i)) fun x hx => h x (List.mem_cons_of_mem _ hx)
    refine ⟨v, s', (for_go (ρ1 := [X, .fz (.int k), .fz (.int c), .fz (.int f), .fz (.int i)]) (ρ2 := [X, .fz (.int k), .fz (.int c), .fz (.int (f * 2147483579 + m)), .fz (.int i)]) rfl ?_).trans hv⟩
    refine body_cell (a := f * 2147483579) (b := 7 * k + 100 * i + i * i) ?_ ?_ hm
    · exact mul_2 rfl rfl (iMul_r (by omega) (by omega))
    · refine add_2 (add_2 ?_ ?_) ?_
      · exact mul_2 rfl rfl (iMul_l (by omega) (by omega))
      · exact mul_2 rfl rfl (iMul_l (by omega) (by omega))
      · exact mul_2 rfl rfl (iMul_l (by omega) (by omega))
abbrev CT : DC := (dSeq (dIf (dTb (dOp2 fGe (dVar 2) (dOp2 (fI iPow) (dC (.int 10)) (dC (.int 18))))) (dRet (dOp2 (fI iMod) (dOp2 (fI iSub) (dVar 2) (dOp2 (fI iPow) (dC (.int 10)) (dC (.int 18)))) (dOp2 fMulS (dOp2 fMulS (dOp2 fMulS (dOp2 (fI iPow) (dC (.int 10)) (dC (.int 60))) (dOp2 (fI iPow) (dC (.int 10)) (dC (.int 60)))) (dOp2 (fI iPow) (dC (.int 10)) (dC (.int 60)))) (dOp2 (fI iPow) (dC (.int 10)) (dC (.int 60)))))) dNx)
  (dSeq (dAsg (dC (.int 0)) (gN 3))
  (dSeq (dForS (dItN dR1 (dCons (dC (.int 24)) dNil)) (gN 4) (dAsg (dOp2 fAdd (dOp2 fMulS (dVar 3) (dC (.int 2147483579))) (dCall m__law_mixed (dCons (dVar 2) (dCons (dOp2 fAdd (dOp2 fAdd (dOp2 fMulS (dC (.int 7)) (dVar 1)) (dOp2 fMulS (dC (.int 100)) (dVar 4))) (dOp2 fMulS (dVar 4) (dVar 4))) dNil)))) (gN 3)))
  (dRet (dMov 3)))))
theorem cell_end (X : Sl) (c k : Int) (hk : -(2 ^ 64) < k ∧ k < 2 ^ 64) : ∃ v ρ, CT [X, .fz (.int k), .fz (.int c), .un, .un] = .ok (.rt (.fz (.int v))) ρ := by
  have p18 : iPow 10 18 = some (10 ^ 18) := by decide +kernel
  have p60 : iPow 10 60 = some (10 ^ 60) := by decide +kernel
  have m1 : iMul (10 ^ 60) (10 ^ 60) = some (10 ^ 120) := by decide +kernel
  have m2 : iMul (10 ^ 120) (10 ^ 60) = some (10 ^ 180) := by decide +kernel
  have m3 : iMul (10 ^ 180) (10 ^ 60) = some (10 ^ 240) := by decide +kernel
  have i240 : ∀ i : Int, iMod i (10 ^ 240) = some (i.fmod (10 ^ 240)) := fun i => iMod_p (by decide +kernel)
  have r1 : dR1 [.int 24] = some ((List.range 24).map fun k => .int (k : Nat)) := rfl
  by_cases hc : (10 ^ 18 : Int) ≤ c
  · exact ⟨_, _, by simp only [a_nonV, a_pk, a_lenO, a_mP, a_mL, a_mB, a_run, a_runB, a_nx, a_seq, a_if, a_ret, a_retN, a_brk, a_cnt, a_drop, a_asg, a_forS, a_for0, a_var, a_mov, a_C, a_nil, a_cons, a_op1, a_op2, a_opN, a_te, a_tb, a_not, a_and, a_or, a_yes, a_andE, a_orE, a_notE, a_ifE, a_call, a_callK, a_callB, a_app, a_sto, a_sl, a_on, a_os, a_itV, a_itN, a_lc, a_m1, a_raP, a_raN, a_chain, a_try, a_gN, a_gE, a_gP, a_gW1, a_gW2, a_gW3, z_fz, z_ow, s_fz, s_ow, o_ow, o_bw, w_nil, w_cons, i_lst, i_tup, i_str, b_bl, t_bl, t_non, n_int, f_addI, f_addS, f_addL, f_I, f_mulI, f_sub, f_eqI, f_neI, f_eqS, f_neS, f_ltI, f_leI, f_gtI, f_geI, f_lenL, f_lenT, f_lenC, f_lenS, f_lst, f_tup, f_ixL, f_ixT, f_ixS, f_zLT, f_zTT, f_zLL, f_all, f_any, f_tuL, rs_bind_ok, rs_bind_err, rs_of_some, rs_res_ok, rs_res_err, gs_0, gs_1, gs_2, gs_3, gs_4, gs_5, gs_6, gs_7, gs_8, gs_9, gs_10, gs_11, gs_12, ent, entB, Option.map_some, Option.bind_some, List.length_cons, List.length_nil, List.length_map, List.map_cons, List.map_nil, List.replicate, List.cons_append, List.nil_append, List.set_cons_zero, List.set_cons_succ, Nat.reduceAdd, Nat.reduceSub, Nat.zero_add, if_true, p18, p60, m1, m2, m3, i240, hc, decide_true]; rfl⟩
  · obtain ⟨v, s', hf⟩ := loop_cell e_mixed X c k (List.range 24) 0 .un (fun j hj => by have := List.mem_range.mp hj; omega)
    exact ⟨v, _, by simp only [a_nonV, a_pk, a_lenO, a_mP, a_mL, a_mB, a_run, a_runB, a_nx, a_seq, a_if, a_ret, a_retN, a_brk, a_cnt, a_drop, a_asg, a_forS, a_for0, a_var, a_mov, a_C, a_nil, a_cons, a_op1, a_op2, a_opN, a_te, a_tb, a_not, a_and, a_or, a_yes, a_andE, a_orE, a_notE, a_ifE, a_call, a_callK, a_callB, a_app, a_sto, a_sl, a_on, a_os, a_itV, a_itN, a_lc, a_m1, a_raP, a_raN, a_chain, a_try, a_gN, a_gE, a_gP, a_gW1, a_gW2, a_gW3, z_fz, z_ow, s_fz, s_ow, o_ow, o_bw, w_nil, w_cons, i_lst, i_tup, i_str, b_bl, t_bl, t_non, n_int, f_addI, f_addS, f_addL, f_I, f_mulI, f_sub, f_eqI, f_neI, f_eqS, f_neS, f_ltI, f_leI, f_gtI, f_geI, f_lenL, f_lenT, f_lenC, f_lenS, f_lst, f_tup, f_ixL, f_ixT, f_ixS, f_zLT, f_zTT, f_zLL, f_all, f_any, f_tuL, rs_bind_ok, rs_bind_err, rs_of_some, rs_res_ok, rs_res_err, gs_0, gs_1, gs_2, gs_3, gs_4, gs_5, gs_6, gs_7, gs_8, gs_9, gs_10, gs_11, gs_12, ent, entB, Option.map_some, Option.bind_some, List.length_cons, List.length_nil, List.length_map, List.map_cons, List.map_nil, List.replicate, List.cons_append, List.nil_append, List.set_cons_zero, List.set_cons_succ, Nat.reduceAdd, Nat.reduceSub, Nat.zero_add, if_true, p18, hc, decide_false, Bool.false_eq_true, if_false, r1, hf]; rfl⟩
theorem e_cell (ns : List Int) (k : Nat) (hk : k < 1000) : ∃ v, m__law_cell [.scr ns, .int (k : Nat)] = .ok (.fz (.int v)) := by
  by_cases hl : k < ns.length
  · have hl' : ((k : Nat) : Int) < (ns.length : Nat) := by omega
    have hx : fIx (.scr ns) (.int (k : Nat)) = some (.fz (.int ns[k])) := by
      show (atI ns (k : Nat)).map _ = _
      rw [at_nat, List.getElem?_eq_getElem hl]
      rfl
    obtain ⟨v, ρ, hv⟩ := cell_end (.fz (.scr ns)) ns[k] (k : Nat) (by omega)
    refine ⟨v, ?_⟩
    have e : ∀ g : DC, g [.fz (.scr ns), .fz (.int (k : Nat)), .fz (.int ns[k]), .un, .un] = .ok (.rt (.fz (.int v))) ρ → mP 2 5 (dSeq (dAsg (dC (.int 0)) (gN 2)) (dSeq (dIf (dTb (dOp2 fLt (dVar 1) (dLenO 0))) (dAsg (dPk 0 (dVar 1)) (gN 2)) dNx) g)) [.scr ns, .int (k : Nat)] = .ok (.fz (.int v)) := fun g hg => by
      simp only [a_nonV, a_pk, a_lenO, a_mP, a_mL, a_mB, a_run, a_runB, a_nx, a_seq, a_if, a_ret, a_retN, a_brk, a_cnt, a_drop, a_asg, a_forS, a_for0, a_var, a_mov, a_C, a_nil, a_cons, a_op1, a_op2, a_opN, a_te, a_tb, a_not, a_and, a_or, a_yes, a_andE, a_orE, a_notE, a_ifE, a_call, a_callK, a_callB, a_app, a_sto, a_sl, a_on, a_os, a_itV, a_itN, a_lc, a_m1, a_raP, a_raN, a_chain, a_try, a_gN, a_gE, a_gP, a_gW1, a_gW2, a_gW3, z_fz, z_ow, s_fz, s_ow, o_ow, o_bw, w_nil, w_cons, i_lst, i_tup, i_str, b_bl, t_bl, t_non, n_int, f_addI, f_addS, f_addL, f_I, f_mulI, f_sub, f_eqI, f_neI, f_eqS, f_neS, f_ltI, f_leI, f_gtI, f_geI, f_lenL, f_lenT, f_lenC, f_lenS, f_lst, f_tup, f_ixL, f_ixT, f_ixS, f_zLT, f_zTT, f_zLL, f_all, f_any, f_tuL, rs_bind_ok, rs_bind_err, rs_of_some, rs_res_ok, rs_res_err, gs_0, gs_1, gs_2, gs_3, gs_4, gs_5, gs_6, gs_7, gs_8, gs_9, gs_10, gs_11, gs_12, ent, entB, Option.map_some, Option.bind_some, List.length_cons, List.length_nil, List.length_map, List.map_cons, List.map_nil, List.replicate, List.cons_append, List.nil_append, List.set_cons_zero, List.set_cons_succ, Nat.reduceAdd, Nat.reduceSub, Nat.zero_add, if_true, f_lenC, hl', decide_true, hx, hg]
    exact e CT hv
  · have hl' : ¬ ((k : Nat) : Int) < (ns.length : Nat) := by omega
    obtain ⟨v, ρ, hv⟩ := cell_end (.fz (.scr ns)) 0 (k : Nat) (by omega)
    refine ⟨v, ?_⟩
    have e : ∀ g : DC, g [.fz (.scr ns), .fz (.int (k : Nat)), .fz (.int 0), .un, .un] = .ok (.rt (.fz (.int v))) ρ → mP 2 5 (dSeq (dAsg (dC (.int 0)) (gN 2)) (dSeq (dIf (dTb (dOp2 fLt (dVar 1) (dLenO 0))) (dAsg (dPk 0 (dVar 1)) (gN 2)) dNx) g)) [.scr ns, .int (k : Nat)] = .ok (.fz (.int v)) := fun g hg => by
      simp only [a_nonV, a_pk, a_lenO, a_mP, a_mL, a_mB, a_run, a_runB, a_nx, a_seq, a_if, a_ret, a_retN, a_brk, a_cnt, a_drop, a_asg, a_forS, a_for0, a_var, a_mov, a_C, a_nil, a_cons, a_op1, a_op2, a_opN, a_te, a_tb, a_not, a_and, a_or, a_yes, a_andE, a_orE, a_notE, a_ifE, a_call, a_callK, a_callB, a_app, a_sto, a_sl, a_on, a_os, a_itV, a_itN, a_lc, a_m1, a_raP, a_raN, a_chain, a_try, a_gN, a_gE, a_gP, a_gW1, a_gW2, a_gW3, z_fz, z_ow, s_fz, s_ow, o_ow, o_bw, w_nil, w_cons, i_lst, i_tup, i_str, b_bl, t_bl, t_non, n_int, f_addI, f_addS, f_addL, f_I, f_mulI, f_sub, f_eqI, f_neI, f_eqS, f_neS, f_ltI, f_leI, f_gtI, f_geI, f_lenL, f_lenT, f_lenC, f_lenS, f_lst, f_tup, f_ixL, f_ixT, f_ixS, f_zLT, f_zTT, f_zLL, f_all, f_any, f_tuL, rs_bind_ok, rs_bind_err, rs_of_some, rs_res_ok, rs_res_err, gs_0, gs_1, gs_2, gs_3, gs_4, gs_5, gs_6, gs_7, gs_8, gs_9, gs_10, gs_11, gs_12, ent, entB, Option.map_some, Option.bind_some, List.length_cons, List.length_nil, List.length_map, List.map_cons, List.map_nil, List.replicate, List.cons_append, List.nil_append, List.set_cons_zero, List.set_cons_succ, Nat.reduceAdd, Nat.reduceSub, Nat.zero_add, if_true, f_lenC, hl', decide_false, Bool.false_eq_true, if_false, hg]
    exact e CT hv
theorem at_no (a : Int) : fAttr ["NoText"] "at" (xNoText a) = some (.fz (.int a)) := by
  show (if ("NoText" : Str) ∈ (["NoText"] : List Str) then (List.lookup ("at" : Str) [(("at" : Str), D.int a)]).map Vl.fz else none) = _
  rw [if_pos (List.mem_singleton.mpr rfl)]
  simp [List.lookup]
theorem a_callD {m : List D → Res Vl} {dd : List D} {fs : DA} {ρ : DS} : dCallD m dd fs ρ = (fs ρ).bind fun ds ρ1 => RS.res (m (ds ++ dd)) ρ1 := rfl
section
variable {t : List Nat} {q : Nat} (ht : t.length ≤ 10000) (hw : (words t).2 = some q)
include ht hw
theorem r_words : m_words [.str t] = .err "NoText" [("at", .int (q : Nat))] := (e_words (by omega)).1 q hw
theorem r_reader : m_Reader_init [.str t] = .err "NoText" [("at", .int (q : Nat))] := by
  show (if t.length ≤ sizeLine then (match m_words [.str t] with
    | .err c fs => Res.err c fs
    | _ => Res.bad) else Res.bad) = _
  rw [if_pos (by rw [sz]; omega), r_words ht hw]
theorem r_stm : m_statements_in [.str t] = .err "NoText" [("at", .int (q : Nat))] := by
  have h := r_reader ht hw
  simp only [m_statements_in, c_statements_in, a_nonV, a_pk, a_lenO, a_mP, a_mL, a_mB, a_run, a_runB, a_nx, a_seq, a_if, a_ret, a_retN, a_brk, a_cnt, a_drop, a_asg, a_forS, a_for0, a_var, a_mov, a_C, a_nil, a_cons, a_op1, a_op2, a_opN, a_te, a_tb, a_not, a_and, a_or, a_yes, a_andE, a_orE, a_notE, a_ifE, a_call, a_callK, a_callB, a_app, a_sto, a_sl, a_on, a_os, a_itV, a_itN, a_lc, a_m1, a_raP, a_raN, a_chain, a_try, a_gN, a_gE, a_gP, a_gW1, a_gW2, a_gW3, z_fz, z_ow, s_fz, s_ow, o_ow, o_bw, w_nil, w_cons, i_lst, i_tup, i_str, b_bl, t_bl, t_non, n_int, f_addI, f_addL, f_I, f_sub, f_eqI, f_neI, f_eqS, f_neS, f_ltI, f_leI, f_gtI, f_geI, f_lenL, f_lenT, f_lenC, f_lenS, f_lst, f_tup, f_ixL, f_ixT, f_zLT, f_zTT, f_zLL, f_all, f_any, f_tuL, rs_bind_ok, rs_bind_err, rs_of_some, rs_res_ok, rs_res_err, gs_0, gs_1, gs_2, gs_3, gs_4, gs_5, gs_6, gs_7, gs_8, gs_9, gs_10, gs_11, gs_12, ent, entB, Option.map_some, Option.bind_some, List.length_cons, List.length_nil, List.length_map, List.map_cons, List.map_nil, List.replicate, List.cons_append, List.nil_append, List.set_cons_zero, List.set_cons_succ, Nat.reduceAdd, Nat.reduceSub, Nat.zero_add, if_true, a_makeX, h]
theorem r_read : m_read [.str t] = .err "NoText" [("at", .int (q : Nat))] := by
  have h := r_stm ht hw
  simp only [m_read, c_read, a_nonV, a_pk, a_lenO, a_mP, a_mL, a_mB, a_run, a_runB, a_nx, a_seq, a_if, a_ret, a_retN, a_brk, a_cnt, a_drop, a_asg, a_forS, a_for0, a_var, a_mov, a_C, a_nil, a_cons, a_op1, a_op2, a_opN, a_te, a_tb, a_not, a_and, a_or, a_yes, a_andE, a_orE, a_notE, a_ifE, a_call, a_callK, a_callB, a_app, a_sto, a_sl, a_on, a_os, a_itV, a_itN, a_lc, a_m1, a_raP, a_raN, a_chain, a_try, a_gN, a_gE, a_gP, a_gW1, a_gW2, a_gW3, z_fz, z_ow, s_fz, s_ow, o_ow, o_bw, w_nil, w_cons, i_lst, i_tup, i_str, b_bl, t_bl, t_non, n_int, f_addI, f_addL, f_I, f_sub, f_eqI, f_neI, f_eqS, f_neS, f_ltI, f_leI, f_gtI, f_geI, f_lenL, f_lenT, f_lenC, f_lenS, f_lst, f_tup, f_ixL, f_ixT, f_zLT, f_zTT, f_zLL, f_all, f_any, f_tuL, rs_bind_ok, rs_bind_err, rs_of_some, rs_res_ok, rs_res_err, gs_0, gs_1, gs_2, gs_3, gs_4, gs_5, gs_6, gs_7, gs_8, gs_9, gs_10, gs_11, gs_12, ent, entB, Option.map_some, Option.bind_some, List.length_cons, List.length_nil, List.length_map, List.map_cons, List.map_nil, List.replicate, List.cons_append, List.nil_append, List.set_cons_zero, List.set_cons_succ, Nat.reduceAdd, Nat.reduceSub, Nat.zero_add, if_true, h]
theorem r_spots : m_spots [.str t] = .err "NoText" [("at", .int (q : Nat))] := by
  have h := r_stm ht hw
  simp only [m_spots, c_spots, a_nonV, a_pk, a_lenO, a_mP, a_mL, a_mB, a_run, a_runB, a_nx, a_seq, a_if, a_ret, a_retN, a_brk, a_cnt, a_drop, a_asg, a_forS, a_for0, a_var, a_mov, a_C, a_nil, a_cons, a_op1, a_op2, a_opN, a_te, a_tb, a_not, a_and, a_or, a_yes, a_andE, a_orE, a_notE, a_ifE, a_call, a_callK, a_callB, a_app, a_sto, a_sl, a_on, a_os, a_itV, a_itN, a_lc, a_m1, a_raP, a_raN, a_chain, a_try, a_gN, a_gE, a_gP, a_gW1, a_gW2, a_gW3, z_fz, z_ow, s_fz, s_ow, o_ow, o_bw, w_nil, w_cons, i_lst, i_tup, i_str, b_bl, t_bl, t_non, n_int, f_addI, f_addL, f_I, f_sub, f_eqI, f_neI, f_eqS, f_neS, f_ltI, f_leI, f_gtI, f_geI, f_lenL, f_lenT, f_lenC, f_lenS, f_lst, f_tup, f_ixL, f_ixT, f_zLT, f_zTT, f_zLL, f_all, f_any, f_tuL, rs_bind_ok, rs_bind_err, rs_of_some, rs_res_ok, rs_res_err, gs_0, gs_1, gs_2, gs_3, gs_4, gs_5, gs_6, gs_7, gs_8, gs_9, gs_10, gs_11, gs_12, ent, entB, Option.map_some, Option.bind_some, List.length_cons, List.length_nil, List.length_map, List.map_cons, List.map_nil, List.replicate, List.cons_append, List.nil_append, List.set_cons_zero, List.set_cons_succ, Nat.reduceAdd, Nat.reduceSub, Nat.zero_add, if_true, h]
theorem r_trace : m_Trace_init [.str t] = .err "NoText" [("at", .int (q : Nat))] := by
  show (match m_read [.str t] with
    | .err c fs => Res.err c fs
    | _ => Res.bad) = _
  rw [r_read ht hw]
theorem r_traced (d : D) : m_traced [.str t, .str [97, 98], d] = .err "NoText" [("at", .int (q : Nat))] := by
  have h := r_trace ht hw
  have hl : m_look_at_letters [.str [97, 98]] = .ok (.fz .non) := rfl
  simp only [m_traced, c_traced, a_nonV, a_pk, a_lenO, a_mP, a_mL, a_mB, a_run, a_runB, a_nx, a_seq, a_if, a_ret, a_retN, a_brk, a_cnt, a_drop, a_asg, a_forS, a_for0, a_var, a_mov, a_C, a_nil, a_cons, a_op1, a_op2, a_opN, a_te, a_tb, a_not, a_and, a_or, a_yes, a_andE, a_orE, a_notE, a_ifE, a_call, a_callK, a_callB, a_app, a_sto, a_sl, a_on, a_os, a_itV, a_itN, a_lc, a_m1, a_raP, a_raN, a_chain, a_try, a_gN, a_gE, a_gP, a_gW1, a_gW2, a_gW3, z_fz, z_ow, s_fz, s_ow, o_ow, o_bw, w_nil, w_cons, i_lst, i_tup, i_str, b_bl, t_bl, t_non, n_int, f_addI, f_addL, f_I, f_sub, f_eqI, f_neI, f_eqS, f_neS, f_ltI, f_leI, f_gtI, f_geI, f_lenL, f_lenT, f_lenC, f_lenS, f_lst, f_tup, f_ixL, f_ixT, f_zLT, f_zTT, f_zLL, f_all, f_any, f_tuL, rs_bind_ok, rs_bind_err, rs_of_some, rs_res_ok, rs_res_err, gs_0, gs_1, gs_2, gs_3, gs_4, gs_5, gs_6, gs_7, gs_8, gs_9, gs_10, gs_11, gs_12, ent, entB, Option.map_some, Option.bind_some, List.length_cons, List.length_nil, List.length_map, List.map_cons, List.map_nil, List.replicate, List.cons_append, List.nil_append, List.set_cons_zero, List.set_cons_succ, Nat.reduceAdd, Nat.reduceSub, Nat.zero_add, if_true, a_makeX, h, hl]
theorem r_lean : m_lean [.str t, .str [97, 98], .tup []] = .err "NoText" [("at", .int (q : Nat))] := by
  have h := r_traced ht hw (.tup [])
  simp only [m_lean, c_lean, a_nonV, a_pk, a_lenO, a_mP, a_mL, a_mB, a_run, a_runB, a_nx, a_seq, a_if, a_ret, a_retN, a_brk, a_cnt, a_drop, a_asg, a_forS, a_for0, a_var, a_mov, a_C, a_nil, a_cons, a_op1, a_op2, a_opN, a_te, a_tb, a_not, a_and, a_or, a_yes, a_andE, a_orE, a_notE, a_ifE, a_call, a_callK, a_callB, a_app, a_sto, a_sl, a_on, a_os, a_itV, a_itN, a_lc, a_m1, a_raP, a_raN, a_chain, a_try, a_gN, a_gE, a_gP, a_gW1, a_gW2, a_gW3, z_fz, z_ow, s_fz, s_ow, o_ow, o_bw, w_nil, w_cons, i_lst, i_tup, i_str, b_bl, t_bl, t_non, n_int, f_addI, f_addL, f_I, f_sub, f_eqI, f_neI, f_eqS, f_neS, f_ltI, f_leI, f_gtI, f_geI, f_lenL, f_lenT, f_lenC, f_lenS, f_lst, f_tup, f_ixL, f_ixT, f_zLT, f_zTT, f_zLL, f_all, f_any, f_tuL, rs_bind_ok, rs_bind_err, rs_of_some, rs_res_ok, rs_res_err, gs_0, gs_1, gs_2, gs_3, gs_4, gs_5, gs_6, gs_7, gs_8, gs_9, gs_10, gs_11, gs_12, ent, entB, Option.map_some, Option.bind_some, List.length_cons, List.length_nil, List.length_map, List.map_cons, List.map_nil, List.replicate, List.cons_append, List.nil_append, List.set_cons_zero, List.set_cons_succ, Nat.reduceAdd, Nat.reduceSub, Nat.zero_add, if_true, h]
theorem r_leaned : m_leaned [.str t, .str [97, 98], .tup []] = .err "NoText" [("at", .int (q : Nat))] := by
  have h := r_traced ht hw (.tup [])
  simp only [m_leaned, c_leaned, a_nonV, a_pk, a_lenO, a_mP, a_mL, a_mB, a_run, a_runB, a_nx, a_seq, a_if, a_ret, a_retN, a_brk, a_cnt, a_drop, a_asg, a_forS, a_for0, a_var, a_mov, a_C, a_nil, a_cons, a_op1, a_op2, a_opN, a_te, a_tb, a_not, a_and, a_or, a_yes, a_andE, a_orE, a_notE, a_ifE, a_call, a_callK, a_callB, a_app, a_sto, a_sl, a_on, a_os, a_itV, a_itN, a_lc, a_m1, a_raP, a_raN, a_chain, a_try, a_gN, a_gE, a_gP, a_gW1, a_gW2, a_gW3, z_fz, z_ow, s_fz, s_ow, o_ow, o_bw, w_nil, w_cons, i_lst, i_tup, i_str, b_bl, t_bl, t_non, n_int, f_addI, f_addL, f_I, f_sub, f_eqI, f_neI, f_eqS, f_neS, f_ltI, f_leI, f_gtI, f_geI, f_lenL, f_lenT, f_lenC, f_lenS, f_lst, f_tup, f_ixL, f_ixT, f_zLT, f_zTT, f_zLL, f_all, f_any, f_tuL, rs_bind_ok, rs_bind_err, rs_of_some, rs_res_ok, rs_res_err, gs_0, gs_1, gs_2, gs_3, gs_4, gs_5, gs_6, gs_7, gs_8, gs_9, gs_10, gs_11, gs_12, ent, entB, Option.map_some, Option.bind_some, List.length_cons, List.length_nil, List.length_map, List.map_cons, List.map_nil, List.replicate, List.cons_append, List.nil_append, List.set_cons_zero, List.set_cons_succ, Nat.reduceAdd, Nat.reduceSub, Nat.zero_add, if_true, h]
theorem r_asked (w : Nat) (h6 : w < 6) : m__law_asked [.int (w : Nat), .str t] = .ok (.fz (xNoText (q : Nat))) := by
  have h0 := r_words ht hw
  have h1 := r_read ht hw
  have h2 := r_spots ht hw
  have h3 := r_trace ht hw
  have h4 := r_lean ht hw
  have h5 := r_leaned ht hw
  have e0 : ∀ i j : Int, decide (i = j) = decide (i = j) := fun _ _ => rfl
  have c : w = 0 ∨ w = 1 ∨ w = 2 ∨ w = 3 ∨ w = 4 ∨ w = 5 := by omega
  have hm : ("NoText" : Str) ∈ ten := mem_NoText
  rcases c with rfl | rfl | rfl | rfl | rfl | rfl
  · have d0 : decide (((0 : Nat) : Int) = 0) = true := rfl
    simp only [m__law_asked, c__law_asked, a_nonV, a_pk, a_lenO, a_mP, a_mL, a_mB, a_run, a_runB, a_nx, a_seq, a_if, a_ret, a_retN, a_brk, a_cnt, a_drop, a_asg, a_forS, a_for0, a_var, a_mov, a_C, a_nil, a_cons, a_op1, a_op2, a_opN, a_te, a_tb, a_not, a_and, a_or, a_yes, a_andE, a_orE, a_notE, a_ifE, a_call, a_callK, a_callB, a_app, a_sto, a_sl, a_on, a_os, a_itV, a_itN, a_lc, a_m1, a_raP, a_raN, a_chain, a_try, a_gN, a_gE, a_gP, a_gW1, a_gW2, a_gW3, z_fz, z_ow, s_fz, s_ow, o_ow, o_bw, w_nil, w_cons, i_lst, i_tup, i_str, b_bl, t_bl, t_non, n_int, f_addI, f_addL, f_I, f_sub, f_eqI, f_neI, f_eqS, f_neS, f_ltI, f_leI, f_gtI, f_geI, f_lenL, f_lenT, f_lenC, f_lenS, f_lst, f_tup, f_ixL, f_ixT, f_zLT, f_zTT, f_zLL, f_all, f_any, f_tuL, rs_bind_ok, rs_bind_err, rs_of_some, rs_res_ok, rs_res_err, gs_0, gs_1, gs_2, gs_3, gs_4, gs_5, gs_6, gs_7, gs_8, gs_9, gs_10, gs_11, gs_12, ent, entB, Option.map_some, Option.bind_some, List.length_cons, List.length_nil, List.length_map, List.map_cons, List.map_nil, List.replicate, List.cons_append, List.nil_append, List.set_cons_zero, List.set_cons_succ, Nat.reduceAdd, Nat.reduceSub, Nat.zero_add, if_true, a_callD, a_makeX, d0, h0, if_pos hm]
  · have d0 : decide (((1 : Nat) : Int) = 0) = false := rfl
    have d1 : decide (((1 : Nat) : Int) = 1) = true := rfl
    simp only [m__law_asked, c__law_asked, a_nonV, a_pk, a_lenO, a_mP, a_mL, a_mB, a_run, a_runB, a_nx, a_seq, a_if, a_ret, a_retN, a_brk, a_cnt, a_drop, a_asg, a_forS, a_for0, a_var, a_mov, a_C, a_nil, a_cons, a_op1, a_op2, a_opN, a_te, a_tb, a_not, a_and, a_or, a_yes, a_andE, a_orE, a_notE, a_ifE, a_call, a_callK, a_callB, a_app, a_sto, a_sl, a_on, a_os, a_itV, a_itN, a_lc, a_m1, a_raP, a_raN, a_chain, a_try, a_gN, a_gE, a_gP, a_gW1, a_gW2, a_gW3, z_fz, z_ow, s_fz, s_ow, o_ow, o_bw, w_nil, w_cons, i_lst, i_tup, i_str, b_bl, t_bl, t_non, n_int, f_addI, f_addL, f_I, f_sub, f_eqI, f_neI, f_eqS, f_neS, f_ltI, f_leI, f_gtI, f_geI, f_lenL, f_lenT, f_lenC, f_lenS, f_lst, f_tup, f_ixL, f_ixT, f_zLT, f_zTT, f_zLL, f_all, f_any, f_tuL, rs_bind_ok, rs_bind_err, rs_of_some, rs_res_ok, rs_res_err, gs_0, gs_1, gs_2, gs_3, gs_4, gs_5, gs_6, gs_7, gs_8, gs_9, gs_10, gs_11, gs_12, ent, entB, Option.map_some, Option.bind_some, List.length_cons, List.length_nil, List.length_map, List.map_cons, List.map_nil, List.replicate, List.cons_append, List.nil_append, List.set_cons_zero, List.set_cons_succ, Nat.reduceAdd, Nat.reduceSub, Nat.zero_add, if_true, a_callD, a_makeX, d0, d1, h1, if_pos hm, Bool.false_eq_true, if_false]
  · have d0 : decide (((2 : Nat) : Int) = 0) = false := rfl
    have d1 : decide (((2 : Nat) : Int) = 1) = false := rfl
    have d2 : decide (((2 : Nat) : Int) = 2) = true := rfl
    simp only [m__law_asked, c__law_asked, a_nonV, a_pk, a_lenO, a_mP, a_mL, a_mB, a_run, a_runB, a_nx, a_seq, a_if, a_ret, a_retN, a_brk, a_cnt, a_drop, a_asg, a_forS, a_for0, a_var, a_mov, a_C, a_nil, a_cons, a_op1, a_op2, a_opN, a_te, a_tb, a_not, a_and, a_or, a_yes, a_andE, a_orE, a_notE, a_ifE, a_call, a_callK, a_callB, a_app, a_sto, a_sl, a_on, a_os, a_itV, a_itN, a_lc, a_m1, a_raP, a_raN, a_chain, a_try, a_gN, a_gE, a_gP, a_gW1, a_gW2, a_gW3, z_fz, z_ow, s_fz, s_ow, o_ow, o_bw, w_nil, w_cons, i_lst, i_tup, i_str, b_bl, t_bl, t_non, n_int, f_addI, f_addL, f_I, f_sub, f_eqI, f_neI, f_eqS, f_neS, f_ltI, f_leI, f_gtI, f_geI, f_lenL, f_lenT, f_lenC, f_lenS, f_lst, f_tup, f_ixL, f_ixT, f_zLT, f_zTT, f_zLL, f_all, f_any, f_tuL, rs_bind_ok, rs_bind_err, rs_of_some, rs_res_ok, rs_res_err, gs_0, gs_1, gs_2, gs_3, gs_4, gs_5, gs_6, gs_7, gs_8, gs_9, gs_10, gs_11, gs_12, ent, entB, Option.map_some, Option.bind_some, List.length_cons, List.length_nil, List.length_map, List.map_cons, List.map_nil, List.replicate, List.cons_append, List.nil_append, List.set_cons_zero, List.set_cons_succ, Nat.reduceAdd, Nat.reduceSub, Nat.zero_add, if_true, a_callD, a_makeX, d0, d1, d2, h2, if_pos hm, Bool.false_eq_true, if_false]
  · have d0 : decide (((3 : Nat) : Int) = 0) = false := rfl
    have d1 : decide (((3 : Nat) : Int) = 1) = false := rfl
    have d2 : decide (((3 : Nat) : Int) = 2) = false := rfl
    have d3 : decide (((3 : Nat) : Int) = 3) = true := rfl
    simp only [m__law_asked, c__law_asked, a_nonV, a_pk, a_lenO, a_mP, a_mL, a_mB, a_run, a_runB, a_nx, a_seq, a_if, a_ret, a_retN, a_brk, a_cnt, a_drop, a_asg, a_forS, a_for0, a_var, a_mov, a_C, a_nil, a_cons, a_op1, a_op2, a_opN, a_te, a_tb, a_not, a_and, a_or, a_yes, a_andE, a_orE, a_notE, a_ifE, a_call, a_callK, a_callB, a_app, a_sto, a_sl, a_on, a_os, a_itV, a_itN, a_lc, a_m1, a_raP, a_raN, a_chain, a_try, a_gN, a_gE, a_gP, a_gW1, a_gW2, a_gW3, z_fz, z_ow, s_fz, s_ow, o_ow, o_bw, w_nil, w_cons, i_lst, i_tup, i_str, b_bl, t_bl, t_non, n_int, f_addI, f_addL, f_I, f_sub, f_eqI, f_neI, f_eqS, f_neS, f_ltI, f_leI, f_gtI, f_geI, f_lenL, f_lenT, f_lenC, f_lenS, f_lst, f_tup, f_ixL, f_ixT, f_zLT, f_zTT, f_zLL, f_all, f_any, f_tuL, rs_bind_ok, rs_bind_err, rs_of_some, rs_res_ok, rs_res_err, gs_0, gs_1, gs_2, gs_3, gs_4, gs_5, gs_6, gs_7, gs_8, gs_9, gs_10, gs_11, gs_12, ent, entB, Option.map_some, Option.bind_some, List.length_cons, List.length_nil, List.length_map, List.map_cons, List.map_nil, List.replicate, List.cons_append, List.nil_append, List.set_cons_zero, List.set_cons_succ, Nat.reduceAdd, Nat.reduceSub, Nat.zero_add, if_true, a_callD, a_makeX, d0, d1, d2, d3, h3, if_pos hm, Bool.false_eq_true, if_false]
  · have d0 : decide (((4 : Nat) : Int) = 0) = false := rfl
    have d1 : decide (((4 : Nat) : Int) = 1) = false := rfl
    have d2 : decide (((4 : Nat) : Int) = 2) = false := rfl
    have d3 : decide (((4 : Nat) : Int) = 3) = false := rfl
    have d4 : decide (((4 : Nat) : Int) = 4) = true := rfl
    simp only [m__law_asked, c__law_asked, a_nonV, a_pk, a_lenO, a_mP, a_mL, a_mB, a_run, a_runB, a_nx, a_seq, a_if, a_ret, a_retN, a_brk, a_cnt, a_drop, a_asg, a_forS, a_for0, a_var, a_mov, a_C, a_nil, a_cons, a_op1, a_op2, a_opN, a_te, a_tb, a_not, a_and, a_or, a_yes, a_andE, a_orE, a_notE, a_ifE, a_call, a_callK, a_callB, a_app, a_sto, a_sl, a_on, a_os, a_itV, a_itN, a_lc, a_m1, a_raP, a_raN, a_chain, a_try, a_gN, a_gE, a_gP, a_gW1, a_gW2, a_gW3, z_fz, z_ow, s_fz, s_ow, o_ow, o_bw, w_nil, w_cons, i_lst, i_tup, i_str, b_bl, t_bl, t_non, n_int, f_addI, f_addL, f_I, f_sub, f_eqI, f_neI, f_eqS, f_neS, f_ltI, f_leI, f_gtI, f_geI, f_lenL, f_lenT, f_lenC, f_lenS, f_lst, f_tup, f_ixL, f_ixT, f_zLT, f_zTT, f_zLL, f_all, f_any, f_tuL, rs_bind_ok, rs_bind_err, rs_of_some, rs_res_ok, rs_res_err, gs_0, gs_1, gs_2, gs_3, gs_4, gs_5, gs_6, gs_7, gs_8, gs_9, gs_10, gs_11, gs_12, ent, entB, Option.map_some, Option.bind_some, List.length_cons, List.length_nil, List.length_map, List.map_cons, List.map_nil, List.replicate, List.cons_append, List.nil_append, List.set_cons_zero, List.set_cons_succ, Nat.reduceAdd, Nat.reduceSub, Nat.zero_add, if_true, a_callD, a_makeX, d0, d1, d2, d3, d4, h4, if_pos hm, Bool.false_eq_true, if_false]
  · have d0 : decide (((5 : Nat) : Int) = 0) = false := rfl
    have d1 : decide (((5 : Nat) : Int) = 1) = false := rfl
    have d2 : decide (((5 : Nat) : Int) = 2) = false := rfl
    have d3 : decide (((5 : Nat) : Int) = 3) = false := rfl
    have d4 : decide (((5 : Nat) : Int) = 4) = false := rfl
    simp only [m__law_asked, c__law_asked, a_nonV, a_pk, a_lenO, a_mP, a_mL, a_mB, a_run, a_runB, a_nx, a_seq, a_if, a_ret, a_retN, a_brk, a_cnt, a_drop, a_asg, a_forS, a_for0, a_var, a_mov, a_C, a_nil, a_cons, a_op1, a_op2, a_opN, a_te, a_tb, a_not, a_and, a_or, a_yes, a_andE, a_orE, a_notE, a_ifE, a_call, a_callK, a_callB, a_app, a_sto, a_sl, a_on, a_os, a_itV, a_itN, a_lc, a_m1, a_raP, a_raN, a_chain, a_try, a_gN, a_gE, a_gP, a_gW1, a_gW2, a_gW3, z_fz, z_ow, s_fz, s_ow, o_ow, o_bw, w_nil, w_cons, i_lst, i_tup, i_str, b_bl, t_bl, t_non, n_int, f_addI, f_addL, f_I, f_sub, f_eqI, f_neI, f_eqS, f_neS, f_ltI, f_leI, f_gtI, f_geI, f_lenL, f_lenT, f_lenC, f_lenS, f_lst, f_tup, f_ixL, f_ixT, f_zLT, f_zTT, f_zLL, f_all, f_any, f_tuL, rs_bind_ok, rs_bind_err, rs_of_some, rs_res_ok, rs_res_err, gs_0, gs_1, gs_2, gs_3, gs_4, gs_5, gs_6, gs_7, gs_8, gs_9, gs_10, gs_11, gs_12, ent, entB, Option.map_some, Option.bind_some, List.length_cons, List.length_nil, List.length_map, List.map_cons, List.map_nil, List.replicate, List.cons_append, List.nil_append, List.set_cons_zero, List.set_cons_succ, Nat.reduceAdd, Nat.reduceSub, Nat.zero_add, if_true, a_callD, a_makeX, d0, d1, d2, d3, d4, h5, if_pos hm, Bool.false_eq_true, if_false]
end
theorem asked_ok {t : List Nat} (ht : t.length ≤ 10000) (hw : (words t).2 = none) : m__law_asked [.int 0, .str t] = .ok (.fz .non) := by
  have h0 := (e_words (show t.length ≤ 100000 by omega)).2 hw
  have d0 : decide ((0 : Int) = 0) = true := rfl
  simp only [m__law_asked, c__law_asked, a_nonV, a_pk, a_lenO, a_mP, a_mL, a_mB, a_run, a_runB, a_nx, a_seq, a_if, a_ret, a_retN, a_brk, a_cnt, a_drop, a_asg, a_forS, a_for0, a_var, a_mov, a_C, a_nil, a_cons, a_op1, a_op2, a_opN, a_te, a_tb, a_not, a_and, a_or, a_yes, a_andE, a_orE, a_notE, a_ifE, a_call, a_callK, a_callB, a_app, a_sto, a_sl, a_on, a_os, a_itV, a_itN, a_lc, a_m1, a_raP, a_raN, a_chain, a_try, a_gN, a_gE, a_gP, a_gW1, a_gW2, a_gW3, z_fz, z_ow, s_fz, s_ow, o_ow, o_bw, w_nil, w_cons, i_lst, i_tup, i_str, b_bl, t_bl, t_non, n_int, f_addI, f_addL, f_I, f_sub, f_eqI, f_neI, f_eqS, f_neS, f_ltI, f_leI, f_gtI, f_geI, f_lenL, f_lenT, f_lenC, f_lenS, f_lst, f_tup, f_ixL, f_ixT, f_zLT, f_zTT, f_zLL, f_all, f_any, f_tuL, rs_bind_ok, rs_bind_err, rs_of_some, rs_res_ok, rs_res_err, gs_0, gs_1, gs_2, gs_3, gs_4, gs_5, gs_6, gs_7, gs_8, gs_9, gs_10, gs_11, gs_12, ent, entB, Option.map_some, Option.bind_some, List.length_cons, List.length_nil, List.length_map, List.map_cons, List.map_nil, List.replicate, List.cons_append, List.nil_append, List.set_cons_zero, List.set_cons_succ, Nat.reduceAdd, Nat.reduceSub, Nat.zero_add, if_true, d0, decide_true, h0]
end P02

set_option Elab.async false
set_option linter.all false
set_option maxRecDepth 100000
set_option maxHeartbeats 4000000
namespace P02
open PySem L2 LK DL WD
def aheads : List (List Nat) := [[], [32], [10], [111, 117, 116, 32, 97, 59], [108, 101, 116, 32, 98, 32, 61, 32, 49, 59, 10], [111, 117, 116, 32, 57, 101, 49, 55, 32, 59]]
def behinds : List (List Nat) := [[], [59], [32, 59, 111, 117, 116, 32, 49], [10], [32, 35, 32], [41]]
def bads : List (List Nat × Nat) := [([49, 101], 0), ([48, 49], 0), ([49, 101, 48], 0), ([49, 101, 49, 48, 48], 0), ([53, 101, 51, 97], 0), ([108, 101, 116, 49], 0), ([97, 66], 1), ([66], 0), ([48, 101, 49], 0), ([48, 48], 0),
  ([97, 98, 99, 100, 101, 102, 103, 104, 105, 106, 107, 108, 109], 0), ([97, 49], 0), ([49, 97], 0), ([49, 50, 51, 52, 53, 54, 55, 56, 57, 48, 49, 50, 51, 52, 53, 54, 55, 56, 57], 0), ([49, 101, 49, 56], 0), ([49, 50, 101, 49, 55], 0),
  ([49, 101, 48, 49, 50], 0), ([38], 0), ([124], 0), ([35], 0), ([97, 95, 98], 1), ([39], 0), ([97, 38, 98], 1), ([55, 101, 51, 101, 49], 0), ([50, 101, 57, 57], 0)]
def goods : List (List Nat) := [[97, 98, 99, 100, 101, 102, 103, 104, 105, 106, 107, 108], [49, 50, 51, 52, 53, 54, 55, 56, 57, 48, 49, 50, 51, 52, 53, 54, 55, 56], [49, 101, 49, 55], [57, 101, 49, 55], [49, 50, 101, 49, 54], [108, 101, 116], [97, 60, 61, 98], [97, 61, 32, 61, 98], [49, 32, 101]]
theorem all_bad : (aheads.all fun a => bads.all fun p => behinds.all fun b => decide ((words (a ++ p.1 ++ b)).2 = some (a.length + p.2)) && decide ((a ++ p.1 ++ b).length ≤ 100)) = true := by decide +kernel
theorem all_good : (goods.all fun t => decide ((words t).2 = none) && decide (t.length ≤ 100)) = true := by decide +kernel
theorem r6 : dR1 [.int 6] = some ((List.range 6).map fun k => .int (k : Nat)) := rfl
abbrev BG (AS ON : List D → Res Vl) : DC := (dSeq (dAsg (dCall AS (dCons (dVar 5) (dCons (dVar 4) dNil))) (gN 6))
  (dIf (dOr (dNot (dTe (dCall ON (dCons (dVar 6) (dCons (dC (.str [78, 111, 84, 101, 120, 116])) dNil))))) (dTb (dOp2 fNe (dOp1 (fAttr ["NoText"] "at") (dVar 6)) (dOp2 fAdd (dLenO 0) (dVar 2))))) (dRet (dC (.bl false))) dNx))
theorem step_g {AS ON : List D → Res Vl} {a t : List Nat} {o ai : Int} {s1 s3 s6 : Sl} {w : Int} (h1 : AS [.int w, .str t] = .ok (.fz (xNoText (ai + o)))) (h2 : ON [xNoText (ai + o), .str [78, 111, 84, 101, 120, 116]] = .ok (.fz (.bl true))) (h3 : fLen [.str a] = some (.fz (.int ai))) : BG AS ON [.fz (.str a), s1, .fz (.int o), s3, .fz (.str t), .fz (.int w), s6] = .ok .nx [.fz (.str a), s1, .fz (.int o), s3, .fz (.str t), .fz (.int w), .fz (xNoText (ai + o))] := by
  have hat := at_no (ai + o)
  simp only [BG, a_nonV, a_pk, a_lenO, a_mP, a_mL, a_mB, a_run, a_runB, a_nx, a_seq, a_if, a_ret, a_retN, a_brk, a_cnt, a_drop, a_asg, a_forS, a_for0, a_var, a_mov, a_C, a_nil, a_cons, a_op1, a_op2, a_opN, a_te, a_tb, a_not, a_and, a_or, a_yes, a_andE, a_orE, a_notE, a_ifE, a_call, a_callK, a_callB, a_app, a_sto, a_sl, a_on, a_os, a_itV, a_itN, a_lc, a_m1, a_raP, a_raN, a_chain, a_try, a_gN, a_gE, a_gP, a_gW1, a_gW2, a_gW3, z_fz, z_ow, s_fz, s_ow, o_ow, o_bw, w_nil, w_cons, i_lst, i_tup, i_str, b_bl, t_bl, t_non, n_int, f_addI, f_addL, f_I, f_sub, f_eqI, f_neI, f_eqS, f_neS, f_ltI, f_leI, f_gtI, f_geI, f_lenL, f_lenT, f_lenC, f_lst, f_tup, f_ixL, f_ixT, f_zLT, f_zTT, f_zLL, f_all, f_any, f_tuL, rs_bind_ok, rs_bind_err, rs_of_some, rs_res_ok, rs_res_err, gs_0, gs_1, gs_2, gs_3, gs_4, gs_5, gs_6, gs_7, gs_8, gs_9, gs_10, gs_11, gs_12, ent, entB, Option.map_some, Option.bind_some, List.length_cons, List.length_nil, List.length_map, List.map_cons, List.map_nil, List.replicate, List.cons_append, List.nil_append, List.set_cons_zero, List.set_cons_succ, Nat.reduceAdd, Nat.reduceSub, Nat.zero_add, if_true, h1, h2, h3, hat, decide_true, Bool.not_true, Bool.false_eq_true, if_false]
theorem loop_g {AS ON : List D → Res Vl} {a t : List Nat} {o ai : Int} {s1 s3 : Sl} (h1 : ∀ w : Nat, w < 6 → AS [.int (w : Nat), .str t] = .ok (.fz (xNoText (ai + o)))) (h2 : ON [xNoText (ai + o), .str [78, 111, 84, 101, 120, 116]] = .ok (.fz (.bl true))) (h3 : fLen [.str a] = some (.fz (.int ai))) : ∀ (ds : List Nat) (s5 s6 : Sl), (∀ w ∈ ds, w < 6) → ∃ t5 t6, dFor (gN 5) (BG AS ON) (ds.map fun k => .int (k : Nat)) [.fz (.str a), s1, .fz (.int o), s3, .fz (.str t), s5, s6] = .ok .nx [.fz (.str a), s1, .fz (.int o), s3, .fz (.str t), t5, t6]
  | [], s5, s6, _ => ⟨s5, s6, rfl⟩
  | w :: ds, s5, s6, h => by
    have hs := step_g (s1 := s1) (s3 := s3) (s6 := s6) (h1 w (h w (List.mem_cons_self ..))) h2 h3
    obtain ⟨t5, t6, hi⟩ := loop_g (s1 := s1) (s3 := s3) h1 h2 h3 ds (.fz (.int (w : Nat))) (.fz (xNoText (ai + o))) fun x hx => h x (List.mem_cons_of_mem _ hx)
    exact ⟨t5, t6, (for_go (ρ1 := [.fz (.str a), s1, .fz (.int o), s3, .fz (.str t), .fz (.int (w : Nat)), s6]) rfl hs).trans hi⟩
theorem good_go {AS ON : List D → Res Vl} {a p b : List Nat} {o ai : Int} (h1 : ∀ w : Nat, w < 6 → AS [.int (w : Nat), .str (a ++ p ++ b)] = .ok (.fz (xNoText (ai + o)))) (h2 : ON [xNoText (ai + o), .str [78, 111, 84, 101, 120, 116]] = .ok (.fz (.bl true))) (h3 : fLen [.str a] = some (.fz (.int ai))) (l1 : a.length + p.length ≤ sizeLine) (l2 : (a ++ p).length + b.length ≤ sizeLine) : mP 4 7 (dSeq (dAsg (dOp2 fAdd (dOp2 fAdd (dVar 0) (dVar 1)) (dVar 3)) (gN 4))
  (dSeq (dForS (dItN dR1 (dCons (dC (.int 6)) dNil)) (gN 5) (BG AS ON)) (dRet (dC (.bl true))))) [.str a, .str p, .int o, .str b] = .ok (.fz (.bl true)) := by
  obtain ⟨t5, t6, hf⟩ := loop_g (a := a) (s1 := .fz (.str p)) (s3 := .fz (.str b)) h1 h2 h3 (List.range 6) .un .un fun w hw => List.mem_range.mp hw
  have hr := r6
  unfold BG at *
  simp only [a_nonV, a_pk, a_lenO, a_mP, a_mL, a_mB, a_run, a_runB, a_nx, a_seq, a_if, a_ret, a_retN, a_brk, a_cnt, a_drop, a_asg, a_forS, a_for0, a_var, a_mov, a_C, a_nil, a_cons, a_op1, a_op2, a_opN, a_te, a_tb, a_not, a_and, a_or, a_yes, a_andE, a_orE, a_notE, a_ifE, a_call, a_callK, a_callB, a_app, a_sto, a_sl, a_on, a_os, a_itV, a_itN, a_lc, a_m1, a_raP, a_raN, a_chain, a_try, a_gN, a_gE, a_gP, a_gW1, a_gW2, a_gW3, z_fz, z_ow, s_fz, s_ow, o_ow, o_bw, w_nil, w_cons, i_lst, i_tup, i_str, b_bl, t_bl, t_non, n_int, f_addI, f_addL, f_I, f_sub, f_eqI, f_neI, f_eqS, f_neS, f_ltI, f_leI, f_gtI, f_geI, f_lenL, f_lenT, f_lenC, f_lenS, f_lst, f_tup, f_ixL, f_ixT, f_zLT, f_zTT, f_zLL, f_all, f_any, f_tuL, rs_bind_ok, rs_bind_err, rs_of_some, rs_res_ok, rs_res_err, gs_0, gs_1, gs_2, gs_3, gs_4, gs_5, gs_6, gs_7, gs_8, gs_9, gs_10, gs_11, gs_12, ent, entB, Option.map_some, Option.bind_some, List.length_cons, List.length_nil, List.length_map, List.map_cons, List.map_nil, List.replicate, List.cons_append, List.nil_append, List.set_cons_zero, List.set_cons_succ, Nat.reduceAdd, Nat.reduceSub, Nat.zero_add, if_true, f_addS, l1, l2, hr, hf]
theorem e_good {a b : List Nat} {p : List Nat × Nat} (ha : a ∈ aheads) (hp : p ∈ bads) (hb : b ∈ behinds) : m__law_good [.str a, .str p.1, .int (p.2 : Nat), .str b] = .ok (.fz (.bl true)) := by
  have h := List.all_eq_true.mp (List.all_eq_true.mp (List.all_eq_true.mp all_bad a ha) p hp) b hb
  rw [Bool.and_eq_true, decide_eq_true_eq, decide_eq_true_eq] at h
  obtain ⟨h1, h2⟩ := h
  have e : ((a.length + p.2 : Nat) : Int) = (a.length : Nat) + (p.2 : Nat) := by omega
  have l := h2
  rw [List.length_append, List.length_append] at l
  have as := fun w hw => r_asked (t := a ++ p.1 ++ b) (by omega) h1 w hw
  rw [e] at as
  exact good_go as (e_only_NoText _) (f_lenS.trans (if_pos (by rw [sz]; omega))) (by rw [sz]; omega) (by rw [sz, List.length_append]; omega)
/-! the law -/
theorem tkN (p : Int) {n : Int} (h : 0 < n) (h2 : n < 1000000) : ∃ (k : Nat) (p' : Int), (k : Int) < n ∧ m__law_take (.lst [.int p]) [.int n] = .ok (.fz (.int (k : Nat)), .lst [.int p']) := by
  have h3 := Int.fmod_nonneg_of_pos p h
  have h4 := Int.fmod_lt_of_pos p h
  refine ⟨(p.fmod n).toNat, p.fdiv n, by omega, ?_⟩
  rw [Int.toNat_of_nonneg h3]
  exact e_take p h (by omega)
theorem pick (l : List (List Nat)) {k : Nat} (h : k < l.length) : ∃ w ∈ l, atI (l.map D.str) (k : Int) = some (.str w) := by
  refine ⟨l[k], List.getElem_mem h, ?_⟩
  rw [at_nat, List.getElem?_map, List.getElem?_eq_getElem h]
  rfl
def rowB (p : List Nat × Nat) : D := .tup [.str p.1, .int (p.2 : Nat)]
abbrev BL (TK : D → List D → Res (Vl × D)) (GD : List D → Res Vl) : DC := (dSeq (dAsg (dOp2 fIx (dOpN fLst (dCons (dC (.str [])) (dCons (dC (.str [32])) (dCons (dC (.str [10])) (dCons (dC (.str [111, 117, 116, 32, 97, 59])) (dCons (dC (.str [108, 101, 116, 32, 98, 32, 61, 32, 49, 59, 10])) (dCons (dC (.str [111, 117, 116, 32, 57, 101, 49, 55, 32, 59])) dNil))))))) (dCallB TK 4 (dCons (dC (.int 6)) dNil))) (gN 7))
  (dSeq (dAsg (dOp2 fIx (dOpN fLst (dCons (dC (.str [])) (dCons (dC (.str [59])) (dCons (dC (.str [32, 59, 111, 117, 116, 32, 49])) (dCons (dC (.str [10])) (dCons (dC (.str [32, 35, 32])) (dCons (dC (.str [41])) dNil))))))) (dCallB TK 4 (dCons (dC (.int 6)) dNil))) (gN 8))
  (dIf (dNot (dTe (dCall GD (dCons (dVar 7) (dCons (dVar 5) (dCons (dVar 6) (dCons (dVar 8) dNil))))))) (dRet (dC (.bl false))) dNx)))
theorem step_l {TK : D → List D → Res (Vl × D)} {GD : List D → Res Vl} (tk : ∀ p : Int, ∃ (k : Nat) (p' : Int), k < 6 ∧ TK (.lst [.int p]) [.int 6] = .ok (.fz (.int (k : Nat)), .lst [.int p'])) {q : List Nat × Nat} (gd : ∀ a ∈ aheads, ∀ b ∈ behinds, GD [.str a, .str q.1, .int (q.2 : Nat), .str b] = .ok (.fz (.bl true))) (p : Int) (s0 s1 s2 s3 s7 s8 s9 : Sl) : ∃ p' t7 t8, BL TK GD [s0, s1, s2, s3, .ow (.lst [.int p]), .fz (.str q.1), .fz (.int (q.2 : Nat)), s7, s8, s9] = .ok .nx [s0, s1, s2, s3, .ow (.lst [.int p']), .fz (.str q.1), .fz (.int (q.2 : Nat)), t7, t8, s9] := by
  obtain ⟨k, p1, hk, t1⟩ := tk p
  obtain ⟨j, p2, hj, t2⟩ := tk p1
  obtain ⟨a, ha, a1⟩ := pick aheads (k := k) hk
  obtain ⟨b, hb, a2⟩ := pick behinds (k := j) hj
  have g := gd a ha b hb
  have a1 : atI [D.str [], D.str [32], D.str [10], D.str [111, 117, 116, 32, 97, 59], D.str [108, 101, 116, 32, 98, 32, 61, 32, 49, 59, 10], D.str [111, 117, 116, 32, 57, 101, 49, 55, 32, 59]] (k : Int) = some (.str a) := a1
  have a2 : atI [D.str [], D.str [59], D.str [32, 59, 111, 117, 116, 32, 49], D.str [10], D.str [32, 35, 32], D.str [41]] (j : Int) = some (.str b) := a2
  have l6 : (6 : Nat) ≤ sizeLine := by decide
  generalize ((k : Nat) : Int) = ki at *
  generalize ((j : Nat) : Int) = ji at *
  generalize ((q.2 : Nat) : Int) = qi at *
  exact ⟨p2, .fz (.str a), .fz (.str b), by simp only [BL, a_nonV, a_pk, a_lenO, a_mP, a_mL, a_mB, a_run, a_runB, a_nx, a_seq, a_if, a_ret, a_retN, a_brk, a_cnt, a_drop, a_asg, a_forS, a_for0, a_var, a_mov, a_C, a_nil, a_cons, a_op1, a_op2, a_opN, a_te, a_tb, a_not, a_and, a_or, a_yes, a_andE, a_orE, a_notE, a_ifE, a_call, a_callK, a_callB, a_app, a_sto, a_sl, a_on, a_os, a_itV, a_itN, a_lc, a_m1, a_raP, a_raN, a_chain, a_try, a_gN, a_gE, a_gP, a_gW1, a_gW2, a_gW3, z_fz, z_ow, s_fz, s_ow, o_ow, o_bw, w_nil, w_cons, i_lst, i_tup, i_str, b_bl, t_bl, t_non, n_int, f_addI, f_addL, f_I, f_sub, f_eqI, f_neI, f_eqS, f_neS, f_ltI, f_leI, f_gtI, f_geI, f_lenL, f_lenT, f_lenC, f_lenS, f_lst, f_tup, f_ixL, f_ixT, f_zLT, f_zTT, f_zLL, f_all, f_any, f_tuL, rs_bind_ok, rs_bind_err, rs_of_some, rs_res_ok, rs_res_err, gs_0, gs_1, gs_2, gs_3, gs_4, gs_5, gs_6, gs_7, gs_8, gs_9, gs_10, gs_11, gs_12, ent, entB, Option.map_some, Option.bind_some, List.length_cons, List.length_nil, List.length_map, List.map_cons, List.map_nil, List.replicate, List.cons_append, List.nil_append, List.set_cons_zero, List.set_cons_succ, Nat.reduceAdd, Nat.reduceSub, Nat.zero_add, if_true, t1, t2, a1, a2, f_lst, l6, g, Bool.not_true, Bool.false_eq_true, if_false]⟩
theorem loop_l {TK : D → List D → Res (Vl × D)} {GD : List D → Res Vl} (tk : ∀ p : Int, ∃ (k : Nat) (p' : Int), k < 6 ∧ TK (.lst [.int p]) [.int 6] = .ok (.fz (.int (k : Nat)), .lst [.int p'])) (s0 s1 s2 s3 s9 : Sl) : ∀ (qs : List (List Nat × Nat)) (p : Int) (s5 s6 s7 s8 : Sl), (∀ q ∈ qs, ∀ a ∈ aheads, ∀ b ∈ behinds, GD [.str a, .str q.1, .int (q.2 : Nat), .str b] = .ok (.fz (.bl true))) → ∃ p' t5 t6 t7 t8, dFor (gW 2 (gP (gN 5) (gP (gN 6) gE))) (BL TK GD) (qs.map rowB) [s0, s1, s2, s3, .ow (.lst [.int p]), s5, s6, s7, s8, s9] = .ok .nx [s0, s1, s2, s3, .ow (.lst [.int p']), t5, t6, t7, t8, s9]
  | [], p, s5, s6, s7, s8, _ => ⟨p, s5, s6, s7, s8, rfl⟩
  | q :: qs, p, s5, s6, s7, s8, h => by
    obtain ⟨p1, t7, t8, hs⟩ := step_l tk (h q (List.mem_cons_self ..)) p s0 s1 s2 s3 s7 s8 s9
    obtain ⟨p2, u5, u6, u7, u8, hi⟩ := loop_l tk s0 s1 s2 s3 s9 qs p1 (.fz (.str q.1)) (.fz (.int (q.2 : Nat))) t7 t8 fun x hx => h x (List.mem_cons_of_mem _ hx)
    exact ⟨p2, u5, u6, u7, u8, (for_go (ρ1 := [s0, s1, s2, s3, .ow (.lst [.int p]), .fz (.str q.1), .fz (.int (q.2 : Nat)), s7, s8, s9]) rfl hs).trans hi⟩
abbrev BK (CE : List D → Res Vl) (TK : D → List D → Res (Vl × D)) (GD : List D → Res Vl) : DC := (dSeq (dAsg (dOpN fLst (dCons (dCall CE (dCons (dVar 0) (dCons (dVar 2) dNil))) dNil)) (gN 4))
  (dForS (dItV (dVar 1)) (gW 2 (gP (gN 5) (gP (gN 6) gE))) (BL TK GD)))
theorem step_k {CE : List D → Res Vl} {TK : D → List D → Res (Vl × D)} {GD : List D → Res Vl} {ns : List Int} {ki v : Int} (hv : CE [.scr ns, .int ki] = .ok (.fz (.int v))) {s3 s4 s5 s6 s7 s8 s9 : Sl} {p' : Int} {t5 t6 t7 t8 : Sl} {L : List D} (hl : dFor (gW 2 (gP (gN 5) (gP (gN 6) gE))) (BL TK GD) L [.fz (.scr ns), .fz (.lst L), .fz (.int ki), s3, .ow (.lst [.int v]), s5, s6, s7, s8, s9] = .ok .nx [.fz (.scr ns), .fz (.lst L), .fz (.int ki), s3, .ow (.lst [.int p']), t5, t6, t7, t8, s9]) : BK CE TK GD [.fz (.scr ns), .fz (.lst L), .fz (.int ki), s3, s4, s5, s6, s7, s8, s9] = .ok .nx [.fz (.scr ns), .fz (.lst L), .fz (.int ki), s3, .ow (.lst [.int p']), t5, t6, t7, t8, s9] := by
  have l1 : (1 : Nat) ≤ sizeLine := by decide
  unfold BL at hl
  simp only [BK, BL, a_nonV, a_pk, a_lenO, a_mP, a_mL, a_mB, a_run, a_runB, a_nx, a_seq, a_if, a_ret, a_retN, a_brk, a_cnt, a_drop, a_asg, a_forS, a_for0, a_var, a_mov, a_C, a_nil, a_cons, a_op1, a_op2, a_opN, a_te, a_tb, a_not, a_and, a_or, a_yes, a_andE, a_orE, a_notE, a_ifE, a_call, a_callK, a_callB, a_app, a_sto, a_sl, a_on, a_os, a_itV, a_itN, a_lc, a_m1, a_raP, a_raN, a_chain, a_try, a_gN, a_gE, a_gP, a_gW1, a_gW2, a_gW3, z_fz, z_ow, s_fz, s_ow, o_ow, o_bw, w_nil, w_cons, i_lst, i_tup, i_str, b_bl, t_bl, t_non, n_int, f_addI, f_addL, f_I, f_sub, f_eqI, f_neI, f_eqS, f_neS, f_ltI, f_leI, f_gtI, f_geI, f_lenL, f_lenT, f_lenC, f_lenS, f_lst, f_tup, f_ixL, f_ixT, f_zLT, f_zTT, f_zLL, f_all, f_any, f_tuL, rs_bind_ok, rs_bind_err, rs_of_some, rs_res_ok, rs_res_err, gs_0, gs_1, gs_2, gs_3, gs_4, gs_5, gs_6, gs_7, gs_8, gs_9, gs_10, gs_11, gs_12, ent, entB, Option.map_some, Option.bind_some, List.length_cons, List.length_nil, List.length_map, List.map_cons, List.map_nil, List.replicate, List.cons_append, List.nil_append, List.set_cons_zero, List.set_cons_succ, Nat.reduceAdd, Nat.reduceSub, Nat.zero_add, if_true, hv, f_lst, l1, hl]
theorem tk6 (p : Int) : ∃ (k : Nat) (p' : Int), k < 6 ∧ m__law_take (.lst [.int p]) [.int 6] = .ok (.fz (.int (k : Nat)), .lst [.int p']) := by
  obtain ⟨k, p', h, e⟩ := tkN p (n := 6) (by decide) (by decide)
  exact ⟨k, p', by omega, e⟩
theorem loop_k (ns : List Int) (s3 s9 : Sl) : ∀ (ds : List Nat) (s2 s4 s5 s6 s7 s8 : Sl), (∀ j ∈ ds, j < 1000) → ∃ t2 t4 t5 t6 t7 t8 : Sl, dFor (gN 2) (BK m__law_cell m__law_take m__law_good) (ds.map fun j => .int (j : Nat)) [.fz (.scr ns), .fz (.lst (bads.map rowB)), s2, s3, s4, s5, s6, s7, s8, s9] = .ok .nx [.fz (.scr ns), .fz (.lst (bads.map rowB)), t2, s3, t4, t5, t6, t7, t8, s9]
  | [], s2, s4, s5, s6, s7, s8, _ => ⟨s2, s4, s5, s6, s7, s8, rfl⟩
  | j :: ds, s2, s4, s5, s6, s7, s8, h => by
    obtain ⟨v, hv⟩ := e_cell ns j (h j (List.mem_cons_self ..))
    obtain ⟨p', t5, t6, t7, t8, hl⟩ := loop_l (GD := m__law_good) tk6 (.fz (.scr ns)) (.fz (.lst (bads.map rowB))) (.fz (.int (j : Nat))) s3 s9 bads v s5 s6 s7 s8 fun q hq a ha b hb => e_good ha hq hb
    have hs := step_k (s4 := s4) hv hl
    obtain ⟨u2, u4, u5, u6, u7, u8, hi⟩ := loop_k ns s3 s9 ds (.fz (.int (j : Nat))) (.ow (.lst [.int p'])) t5 t6 t7 t8 fun x hx => h x (List.mem_cons_of_mem _ hx)
    exact ⟨u2, u4, u5, u6, u7, u8, (for_go (ρ1 := [.fz (.scr ns), .fz (.lst (bads.map rowB)), .fz (.int (j : Nat)), s3, s4, s5, s6, s7, s8, s9]) rfl hs).trans hi⟩
end P02

set_option Elab.async false
set_option linter.all false
set_option maxRecDepth 100000
set_option maxHeartbeats 4000000
namespace P02
open PySem L2 LK DL WD
theorem step_k' {CE : List D → Res Vl} {TK : D → List D → Res (Vl × D)} {GD : List D → Res Vl} {ns : List Int} {ki v : Int} (hv : CE [.scr ns, .int ki] = .ok (.fz (.int v))) {s3 s4 s5 s6 s7 s8 s9 : Sl} {p' : Int} {t5 t6 t7 t8 : Sl} {L : List D} (hl : dFor (gW 2 (gP (gN 5) (gP (gN 6) gE))) (BL TK GD) L [.fz (.scr ns), .fz (.lst L), .fz (.int ki), s3, .ow (.lst [.int v]), s5, s6, s7, s8, s9] = .ok .nx [.fz (.scr ns), .fz (.lst L), .fz (.int ki), s3, .ow (.lst [.int p']), t5, t6, t7, t8, s9]) : BK CE TK GD [.fz (.scr ns), .ow (.lst L), .fz (.int ki), s3, s4, s5, s6, s7, s8, s9] = .ok .nx [.fz (.scr ns), .fz (.lst L), .fz (.int ki), s3, .ow (.lst [.int p']), t5, t6, t7, t8, s9] := by
  have l1 : (1 : Nat) ≤ sizeLine := by decide
  unfold BL at hl
  simp only [BK, BL, a_nonV, a_pk, a_lenO, a_mP, a_mL, a_mB, a_run, a_runB, a_nx, a_seq, a_if, a_ret, a_retN, a_brk, a_cnt, a_drop, a_asg, a_forS, a_for0, a_var, a_mov, a_C, a_nil, a_cons, a_op1, a_op2, a_opN, a_te, a_tb, a_not, a_and, a_or, a_yes, a_andE, a_orE, a_notE, a_ifE, a_call, a_callK, a_callB, a_app, a_sto, a_sl, a_on, a_os, a_itV, a_itN, a_lc, a_m1, a_raP, a_raN, a_chain, a_try, a_gN, a_gE, a_gP, a_gW1, a_gW2, a_gW3, z_fz, z_ow, s_fz, s_ow, o_ow, o_bw, w_nil, w_cons, i_lst, i_tup, i_str, b_bl, t_bl, t_non, n_int, f_addI, f_addL, f_I, f_sub, f_eqI, f_neI, f_eqS, f_neS, f_ltI, f_leI, f_gtI, f_geI, f_lenL, f_lenT, f_lenC, f_lenS, f_lst, f_tup, f_ixL, f_ixT, f_zLT, f_zTT, f_zLL, f_all, f_any, f_tuL, rs_bind_ok, rs_bind_err, rs_of_some, rs_res_ok, rs_res_err, gs_0, gs_1, gs_2, gs_3, gs_4, gs_5, gs_6, gs_7, gs_8, gs_9, gs_10, gs_11, gs_12, ent, entB, Option.map_some, Option.bind_some, List.length_cons, List.length_nil, List.length_map, List.map_cons, List.map_nil, List.replicate, List.cons_append, List.nil_append, List.set_cons_zero, List.set_cons_succ, Nat.reduceAdd, Nat.reduceSub, Nat.zero_add, if_true, hv, f_lst, l1, hl]
theorem loop_3 (ns : List Int) (s3 s9 s2 s4 s5 s6 s7 s8 : Sl) : ∃ t2 t4 t5 t6 t7 t8 : Sl, dFor (gN 2) (BK m__law_cell m__law_take m__law_good) ((List.range 3).map fun j => .int (j : Nat)) [.fz (.scr ns), .ow (.lst (bads.map rowB)), s2, s3, s4, s5, s6, s7, s8, s9] = .ok .nx [.fz (.scr ns), .fz (.lst (bads.map rowB)), t2, s3, t4, t5, t6, t7, t8, s9] := by
  obtain ⟨v, hv⟩ := e_cell ns 0 (by decide)
  obtain ⟨p', t5, t6, t7, t8, hl⟩ := loop_l (GD := m__law_good) tk6 (.fz (.scr ns)) (.fz (.lst (bads.map rowB))) (.fz (.int (0 : Nat))) s3 s9 bads v s5 s6 s7 s8 fun q hq a ha b hb => e_good ha hq hb
  have hs := step_k' (s4 := s4) hv hl
  obtain ⟨u2, u4, u5, u6, u7, u8, hi⟩ := loop_k ns s3 s9 [1, 2] (.fz (.int (0 : Nat))) (.ow (.lst [.int p'])) t5 t6 t7 t8 (by decide)
  have e : ((List.range 3).map fun j => D.int (j : Nat)) = .int (0 : Nat) :: ([1, 2].map fun j => .int (j : Nat)) := rfl
  rw [e]
  exact ⟨u2, u4, u5, u6, u7, u8, (for_go (ρ1 := [.fz (.scr ns), .ow (.lst (bads.map rowB)), .fz (.int (0 : Nat)), s3, s4, s5, s6, s7, s8, s9]) rfl hs).trans hi⟩
theorem eqNil : fEq (.lst []) (.lst []) = some (.fz (.bl true)) := feq_self (shp_rows rfl)
theorem lc_goods {AS : List D → Res Vl} (h : ∀ t ∈ goods, AS [.int 0, .str t] = .ok (.fz .non)) (s0 s1 s2 s3 s4 s5 s6 s7 s8 : Sl) : dLcL (gN 9) (dTb (dOp2 fNoN (dCall AS (dCons (dC (.int 0)) (dCons (dVar 9) dNil))) (dC .non))) (dVar 9) [9] (goods.map D.str) [] [s0, s1, s2, s3, s4, s5, s6, s7, s8, .un] = .ok (.ow (.lst [])) [s0, s1, s2, s3, s4, s5, s6, s7, s8, .un] := by
  have n1 : fNoN .non .non = some (.fz (.bl false)) := rfl
  have z := lcL_of (g := gN 9) (ft := dTb (dOp2 fNoN (dCall AS (dCons (dC (.int 0)) (dCons (dVar 9) dNil))) (dC .non))) (fe := dVar 9) (vs := [9]) (ρ := [s0, s1, s2, s3, s4, s5, s6, s7, s8, .un]) (inj := D.str) (out := fun _ => none) goods [] (fun t ht => ⟨[s0, s1, s2, s3, s4, s5, s6, s7, s8, .fz (.str t)], [s0, s1, s2, s3, s4, s5, s6, s7, s8, .fz (.str t)], rfl, .inr ⟨by
    have ha := h t ht
    simp only [a_nonV, a_pk, a_lenO, a_mP, a_mL, a_mB, a_run, a_runB, a_nx, a_seq, a_if, a_ret, a_retN, a_brk, a_cnt, a_drop, a_asg, a_forS, a_for0, a_var, a_mov, a_C, a_nil, a_cons, a_op1, a_op2, a_opN, a_te, a_tb, a_not, a_and, a_or, a_yes, a_andE, a_orE, a_notE, a_ifE, a_call, a_callK, a_callB, a_app, a_sto, a_sl, a_on, a_os, a_itV, a_itN, a_lc, a_m1, a_raP, a_raN, a_chain, a_try, a_gN, a_gE, a_gP, a_gW1, a_gW2, a_gW3, z_fz, z_ow, s_fz, s_ow, o_ow, o_bw, w_nil, w_cons, i_lst, i_tup, i_str, b_bl, t_bl, t_non, n_int, f_addI, f_addL, f_I, f_sub, f_eqI, f_neI, f_eqS, f_neS, f_ltI, f_leI, f_gtI, f_geI, f_lenL, f_lenT, f_lenC, f_lenS, f_lst, f_tup, f_ixL, f_ixT, f_zLT, f_zTT, f_zLL, f_all, f_any, f_tuL, rs_bind_ok, rs_bind_err, rs_of_some, rs_res_ok, rs_res_err, gs_0, gs_1, gs_2, gs_3, gs_4, gs_5, gs_6, gs_7, gs_8, gs_9, gs_10, gs_11, gs_12, ent, entB, Option.map_some, Option.bind_some, List.length_cons, List.length_nil, List.length_map, List.map_cons, List.map_nil, List.replicate, List.cons_append, List.nil_append, List.set_cons_zero, List.set_cons_succ, Nat.reduceAdd, Nat.reduceSub, Nat.zero_add, if_true, ha, n1], rfl, rfl⟩⟩) (by decide)
  exact z
abbrev RT (AS : List D → Res Vl) : DC := (dSeq (dAsg (dOpN fLst (dCons (dC (.str [97, 98, 99, 100, 101, 102, 103, 104, 105, 106, 107, 108])) (dCons (dC (.str [49, 50, 51, 52, 53, 54, 55, 56, 57, 48, 49, 50, 51, 52, 53, 54, 55, 56])) (dCons (dC (.str [49, 101, 49, 55])) (dCons (dC (.str [57, 101, 49, 55])) (dCons (dC (.str [49, 50, 101, 49, 54])) (dCons (dC (.str [108, 101, 116])) (dCons (dC (.str [97, 60, 61, 98])) (dCons (dC (.str [97, 61, 32, 61, 98])) (dCons (dC (.str [49, 32, 101])) dNil)))))))))) (gN 3))
  (dRet (dOp2 fEq (dLc (dItV (dVar 3)) (gN 9) (dTb (dOp2 fNoN (dCall AS (dCons (dC (.int 0)) (dCons (dVar 9) dNil))) (dC .non))) (dVar 9) [9]) (dOpN fLst dNil))))
theorem rt_go {AS : List D → Res Vl} (h : ∀ t ∈ goods, AS [.int 0, .str t] = .ok (.fz .non)) (s0 s1 s2 s3 s4 s5 s6 s7 s8 : Sl) : ∃ ρ, RT AS [s0, s1, s2, s3, s4, s5, s6, s7, s8, .un] = .ok (.rt (.fz (.bl true))) ρ := by
  have hl := lc_goods h s0 s1 s2 (.fz (.lst (goods.map D.str))) s4 s5 s6 s7 s8
  have hl : dLcL _ _ _ _ [.str [97, 98, 99, 100, 101, 102, 103, 104, 105, 106, 107, 108], .str [49, 50, 51, 52, 53, 54, 55, 56, 57, 48, 49, 50, 51, 52, 53, 54, 55, 56], .str [49, 101, 49, 55], .str [57, 101, 49, 55], .str [49, 50, 101, 49, 54], .str [108, 101, 116], .str [97, 60, 61, 98], .str [97, 61, 32, 61, 98], .str [49, 32, 101]] [] [s0, s1, s2, .fz (.lst [.str [97, 98, 99, 100, 101, 102, 103, 104, 105, 106, 107, 108], .str [49, 50, 51, 52, 53, 54, 55, 56, 57, 48, 49, 50, 51, 52, 53, 54, 55, 56], .str [49, 101, 49, 55], .str [57, 101, 49, 55], .str [49, 50, 101, 49, 54], .str [108, 101, 116], .str [97, 60, 61, 98], .str [97, 61, 32, 61, 98], .str [49, 32, 101]]), s4, s5, s6, s7, s8, .un] = _ := hl
  have l0 : (0 : Nat) ≤ sizeLine := by decide
  have l9 : (9 : Nat) ≤ sizeLine := by decide
  have hq := eqNil
  exact ⟨_, by
    simp only [RT, a_nonV, a_pk, a_lenO, a_mP, a_mL, a_mB, a_run, a_runB, a_nx, a_seq, a_if, a_ret, a_retN, a_brk, a_cnt, a_drop, a_asg, a_forS, a_for0, a_var, a_mov, a_C, a_nil, a_cons, a_op1, a_op2, a_opN, a_te, a_tb, a_not, a_and, a_or, a_yes, a_andE, a_orE, a_notE, a_ifE, a_call, a_callK, a_callB, a_app, a_sto, a_sl, a_on, a_os, a_itV, a_itN, a_lc, a_m1, a_raP, a_raN, a_chain, a_try, a_gN, a_gE, a_gP, a_gW1, a_gW2, a_gW3, z_fz, z_ow, s_fz, s_ow, o_ow, o_bw, w_nil, w_cons, i_lst, i_tup, i_str, b_bl, t_bl, t_non, n_int, f_addI, f_addL, f_I, f_sub, f_eqI, f_neI, f_eqS, f_neS, f_ltI, f_leI, f_gtI, f_geI, f_lenL, f_lenT, f_lenC, f_lenS, f_lst, f_tup, f_ixL, f_ixT, f_zLT, f_zTT, f_zLL, f_all, f_any, f_tuL, rs_bind_ok, rs_bind_err, rs_of_some, rs_res_ok, rs_res_err, gs_0, gs_1, gs_2, gs_3, gs_4, gs_5, gs_6, gs_7, gs_8, gs_9, gs_10, gs_11, gs_12, ent, entB, Option.map_some, Option.bind_some, List.length_cons, List.length_nil, List.length_map, List.map_cons, List.map_nil, List.replicate, List.cons_append, List.nil_append, List.set_cons_zero, List.set_cons_succ, Nat.reduceAdd, Nat.reduceSub, Nat.zero_add, if_true, f_lst, l0, l9, hl, hq]
    rfl⟩
abbrev BB (DF RR : DC) : DC := (dSeq (dAsg (dOpN fLst (dCons (dOpN fTup (dCons (dC (.str [49, 101])) (dCons (dC (.int 0)) dNil))) (dCons (dOpN fTup (dCons (dC (.str [48, 49])) (dCons (dC (.int 0)) dNil))) (dCons (dOpN fTup (dCons (dC (.str [49, 101, 48])) (dCons (dC (.int 0)) dNil))) (dCons (dOpN fTup (dCons (dC (.str [49, 101, 49, 48, 48])) (dCons (dC (.int 0)) dNil))) (dCons (dOpN fTup (dCons (dC (.str [53, 101, 51, 97])) (dCons (dC (.int 0)) dNil))) (dCons (dOpN fTup (dCons (dC (.str [108, 101, 116, 49])) (dCons (dC (.int 0)) dNil))) (dCons (dOpN fTup (dCons (dC (.str [97, 66])) (dCons (dC (.int 1)) dNil))) (dCons (dOpN fTup (dCons (dC (.str [66])) (dCons (dC (.int 0)) dNil))) dNil))))))))) (gN 1))
  (dSeq (dAsg (dOp2 fAdd (dVar 1) (dOpN fLst (dCons (dOpN fTup (dCons (dC (.str [48, 101, 49])) (dCons (dC (.int 0)) dNil))) (dCons (dOpN fTup (dCons (dC (.str [48, 48])) (dCons (dC (.int 0)) dNil))) dNil)))) (gN 1))
  (dSeq (dAsg (dOp2 fAdd (dVar 1) (dOpN fLst (dCons (dOpN fTup (dCons (dC (.str [97, 98, 99, 100, 101, 102, 103, 104, 105, 106, 107, 108, 109])) (dCons (dC (.int 0)) dNil))) (dCons (dOpN fTup (dCons (dC (.str [97, 49])) (dCons (dC (.int 0)) dNil))) (dCons (dOpN fTup (dCons (dC (.str [49, 97])) (dCons (dC (.int 0)) dNil))) (dCons (dOpN fTup (dCons (dC (.str [49, 50, 51, 52, 53, 54, 55, 56, 57, 48, 49, 50, 51, 52, 53, 54, 55, 56, 57])) (dCons (dC (.int 0)) dNil))) (dCons (dOpN fTup (dCons (dC (.str [49, 101, 49, 56])) (dCons (dC (.int 0)) dNil))) (dCons (dOpN fTup (dCons (dC (.str [49, 50, 101, 49, 55])) (dCons (dC (.int 0)) dNil))) dNil)))))))) (gN 1))
  (dSeq (dAsg (dOp2 fAdd (dVar 1) (dOpN fLst (dCons (dOpN fTup (dCons (dC (.str [49, 101, 48, 49, 50])) (dCons (dC (.int 0)) dNil))) (dCons (dOpN fTup (dCons (dC (.str [38])) (dCons (dC (.int 0)) dNil))) (dCons (dOpN fTup (dCons (dC (.str [124])) (dCons (dC (.int 0)) dNil))) (dCons (dOpN fTup (dCons (dC (.str [35])) (dCons (dC (.int 0)) dNil))) (dCons (dOpN fTup (dCons (dC (.str [97, 95, 98])) (dCons (dC (.int 1)) dNil))) (dCons (dOpN fTup (dCons (dC (.str [39])) (dCons (dC (.int 0)) dNil))) (dCons (dOpN fTup (dCons (dC (.str [97, 38, 98])) (dCons (dC (.int 1)) dNil))) dNil))))))))) (gN 1))
  (dSeq (dAsg (dOp2 fAdd (dVar 1) (dOpN fLst (dCons (dOpN fTup (dCons (dC (.str [55, 101, 51, 101, 49])) (dCons (dC (.int 0)) dNil))) (dCons (dOpN fTup (dCons (dC (.str [50, 101, 57, 57])) (dCons (dC (.int 0)) dNil))) dNil)))) (gN 1))
  (dSeq DF RR))))))
theorem bb_go {DF RR : DC} {ns : List Int} {ρ1 ρ2 : DS} (hd : DF [.fz (.scr ns), .ow (.lst (bads.map rowB)), .un, .un, .un, .un, .un, .un, .un, .un] = .ok .nx ρ1) (hr : RR ρ1 = .ok (.rt (.fz (.bl true))) ρ2) : mL 1 10 (BB DF RR) [.scr ns] = .ok (.fz (.bl true)) := by
  have hd : DF [.fz (.scr ns), .ow (.lst [.tup [.str [49, 101], .int 0], .tup [.str [48, 49], .int 0], .tup [.str [49, 101, 48], .int 0], .tup [.str [49, 101, 49, 48, 48], .int 0], .tup [.str [53, 101, 51, 97], .int 0], .tup [.str [108, 101, 116, 49], .int 0], .tup [.str [97, 66], .int 1], .tup [.str [66], .int 0], .tup [.str [48, 101, 49], .int 0], .tup [.str [48, 48], .int 0], .tup [.str [97, 98, 99, 100, 101, 102, 103, 104, 105, 106, 107, 108, 109], .int 0], .tup [.str [97, 49], .int 0], .tup [.str [49, 97], .int 0], .tup [.str [49, 50, 51, 52, 53, 54, 55, 56, 57, 48, 49, 50, 51, 52, 53, 54, 55, 56, 57], .int 0], .tup [.str [49, 101, 49, 56], .int 0], .tup [.str [49, 50, 101, 49, 55], .int 0], .tup [.str [49, 101, 48, 49, 50], .int 0], .tup [.str [38], .int 0], .tup [.str [124], .int 0], .tup [.str [35], .int 0], .tup [.str [97, 95, 98], .int 1], .tup [.str [39], .int 0], .tup [.str [97, 38, 98], .int 1], .tup [.str [55, 101, 51, 101, 49], .int 0], .tup [.str [50, 101, 57, 57], .int 0]]), .un, .un, .un, .un, .un, .un, .un, .un] = _ := hd
  have l2 : (2 : Nat) ≤ sizeLine := by decide
  have l6 : (6 : Nat) ≤ sizeLine := by decide
  have l7 : (7 : Nat) ≤ sizeLine := by decide
  have l8 : (8 : Nat) ≤ sizeLine := by decide
  have l10 : (10 : Nat) ≤ sizeLine := by decide
  have l16 : (16 : Nat) ≤ sizeLine := by decide
  have l23 : (23 : Nat) ≤ sizeLine := by decide
  have l25 : (25 : Nat) ≤ sizeLine := by decide
  simp only [BB, a_nonV, a_pk, a_lenO, a_mP, a_mL, a_mB, a_run, a_runB, a_nx, a_seq, a_if, a_ret, a_retN, a_brk, a_cnt, a_drop, a_asg, a_forS, a_for0, a_var, a_mov, a_C, a_nil, a_cons, a_op1, a_op2, a_opN, a_te, a_tb, a_not, a_and, a_or, a_yes, a_andE, a_orE, a_notE, a_ifE, a_call, a_callK, a_callB, a_app, a_sto, a_sl, a_on, a_os, a_itV, a_itN, a_lc, a_m1, a_raP, a_raN, a_chain, a_try, a_gN, a_gE, a_gP, a_gW1, a_gW2, a_gW3, z_fz, z_ow, s_fz, s_ow, o_ow, o_bw, w_nil, w_cons, i_lst, i_tup, i_str, b_bl, t_bl, t_non, n_int, f_addI, f_addL, f_I, f_sub, f_eqI, f_neI, f_eqS, f_neS, f_ltI, f_leI, f_gtI, f_geI, f_lenL, f_lenT, f_lenC, f_lenS, f_lst, f_tup, f_ixL, f_ixT, f_zLT, f_zTT, f_zLL, f_all, f_any, f_tuL, rs_bind_ok, rs_bind_err, rs_of_some, rs_res_ok, rs_res_err, gs_0, gs_1, gs_2, gs_3, gs_4, gs_5, gs_6, gs_7, gs_8, gs_9, gs_10, gs_11, gs_12, ent, entB, Option.map_some, Option.bind_some, List.length_cons, List.length_nil, List.length_map, List.map_cons, List.map_nil, List.replicate, List.cons_append, List.nil_append, List.set_cons_zero, List.set_cons_succ, Nat.reduceAdd, Nat.reduceSub, Nat.zero_add, if_true, f_tup, f_lst, l2, l6, l7, l8, l10, l16, l23, l25, hd, hr]
theorem law_true (ns : List Int) (hn : ns.length ≤ 63) : m_law [.scr ns] = .ok (.fz (.bl true)) := by
  obtain ⟨t2, t4, t5, t6, t7, t8, hl⟩ := loop_3 ns .un .un .un .un .un .un .un .un
  obtain ⟨ρ, hr⟩ := rt_go (AS := m__law_asked) (fun t ht => by
    have h := List.all_eq_true.mp all_good t ht
    rw [Bool.and_eq_true, decide_eq_true_eq, decide_eq_true_eq] at h
    exact asked_ok (by omega) h.1) (.fz (.scr ns)) (.fz (.lst (bads.map rowB))) t2 .un t4 t5 t6 t7 t8
  have r3 : dR1 [.int 3] = some ((List.range 3).map fun j => .int (j : Nat)) := rfl
  refine bb_go (DF := dForS (dItN dR1 (dCons (dC (.int 3)) dNil)) (gN 2) (BK m__law_cell m__law_take m__law_good)) (RR := RT m__law_asked) (ρ1 := [.fz (.scr ns), .fz (.lst (bads.map rowB)), t2, .un, t4, t5, t6, t7, t8, .un]) ?_ hr
  rw [a_forS, a_itN, a_cons, a_C, rs_bind_ok, a_nil, rs_bind_ok, rs_bind_ok, z_fz, r3, rs_of_some, rs_bind_ok]
  exact hl
end P02

set_option Elab.async false
set_option linter.all false
set_option autoImplicit false
set_option maxRecDepth 100000
set_option maxHeartbeats 4000000
/-! the head's facts for large tops: the part of the heap that some names lead to, found with a bit for each place -/
namespace LK
open PySem PySem.Spec PyProof.Rows L2 He HandSHeadRun
def addR {α : Type} : List Addr → List Addr → Nat → (List Addr → Nat → α) → α
  | [], acc, m, k => k acc m
  | r :: rs, acc, m, k => frNat r fun r => match Nat.beq (Nat.land (Nat.shiftRight m r) 1) 1 with
    | true => addR rs acc m k
    | false => frNat (Nat.lor m (Nat.shiftLeft 1 r)) fun m => addR rs (r :: acc) m k
def levR {α : Type} (g : Addr → Option Obj) : List Addr → List Addr → Nat → (List Addr → Nat → α) → α
  | [], nx, m, k => k nx m
  | a :: as, nx, m, k => match g a with
    | none => levR g as nx m k
    | some o => addR (refsD o) nx m fun nx m => levR g as nx m k
def runR (g : Addr → Option Obj) : Nat → List Addr → List Addr → Nat → List Addr
  | 0, _, all, _ => all
  | n + 1, fr, all, m => levR g fr [] m fun nx m => runR g n nx (nx ++ all) m
/-- where some names of the module lead -/
def rootR (g : Addr → Option Obj) (xs : List Str) : List Addr := xs.flatMap fun x => match PySem.W.nsIn (frG g [mainGlobals]) mainGlobals x with
  | some (some v) => refV v
  | _ => []
def asR (g : Addr → Option Obj) (xs : List Str) (n : Nat) : List Addr := addR (rootR g xs) [] (Nat.shiftLeft 1 mainGlobals) fun fr m => runR g n fr (mainGlobals :: cStatics :: fr) m
def obsRG (xs : List Str) (n : Nat) (ck : PySem.W.Frag → Bool) (fn : List DefD) (g : Addr → Option Obj) : AlD := obsM ck fn (frG g (asR g xs n))
def hookR (xs : List Str) (n : Nat) (ck : PySem.W.Frag → Bool) (fn : List DefD) : PySem.W.Hook where
  α := AlD
  obs := fun s => obsRG xs n ck fn s.heap.get?
  val := fun _ => valD fn
  says := fun _ h => ∃ K : PySem.W.Frag, K.In h ∧ SaysM ck fn K
  of := fun _ _ e => ⟨_, frG_in, e⟩
  keeps := fun _ _ _ ⟨K, hK, c⟩ k => ⟨K, PySem.W.Frag.In.keeps hK k, c⟩
theorem obsRG_eq {xs : List Str} {n : Nat} {ck : PySem.W.Frag → Bool} {fn : List DefD} {g : Addr → Option Obj} {s : Shared} (h : ∀ a, g a = s.heap.get? a) : obsRG xs n ck fn g = (hookR xs n ck fn).obs s := by
  have e : g = s.heap.get? := funext h
  rw [e]
  rfl
end LK

set_option Elab.async false
set_option linter.all false
set_option maxRecDepth 100000
set_option maxHeartbeats 4000000
namespace P02
open PySem L2 LK DL
abbrev sp_law (K : PySem.W.Frag) : Sp := spP K m_law
def d_NoText_init : He.DefD := ⟨("NoText", some "__init__"), "__init__", "NoText.__init__", defArgs s_NoText_init, defBody s_NoText_init, defScope s_NoText_init, [.int 0], []⟩
def d_run_end : He.DefD := ⟨("run_end", none), "run_end", "run_end", defArgs s_run_end, defBody s_run_end, defScope s_run_end, [], []⟩
def d_stands_by : He.DefD := ⟨("stands_by", none), "stands_by", "stands_by", defArgs s_stands_by, defBody s_stands_by, defScope s_stands_by, [], []⟩
def d_letters_end : He.DefD := ⟨("letters_end", none), "letters_end", "letters_end", defArgs s_letters_end, defBody s_letters_end, defScope s_letters_end, [], []⟩
def d_noughts_at : He.DefD := ⟨("noughts_at", none), "noughts_at", "noughts_at", defArgs s_noughts_at, defBody s_noughts_at, defScope s_noughts_at, [], []⟩
def d_figures_end : He.DefD := ⟨("figures_end", none), "figures_end", "figures_end", defArgs s_figures_end, defBody s_figures_end, defScope s_figures_end, [], []⟩
def d_word_at : He.DefD := ⟨("word_at", none), "word_at", "word_at", defArgs s_word_at, defBody s_word_at, defScope s_word_at, [], []⟩
def d_words : He.DefD := ⟨("words", none), "words", "words", defArgs s_words, defBody s_words, defScope s_words, [], []⟩
def d_Reader_init : He.DefD := ⟨("Reader", some "__init__"), "__init__", "Reader.__init__", defArgs s_Reader_init, defBody s_Reader_init, defScope s_Reader_init, [], []⟩
def d_things : He.DefD := ⟨("things", none), "things", "things", defArgs s_things, defBody s_things, defScope s_things, [], []⟩
def d_statements_in : He.DefD := ⟨("statements_in", none), "statements_in", "statements_in", defArgs s_statements_in, defBody s_statements_in, defScope s_statements_in, [], []⟩
def d_read : He.DefD := ⟨("read", none), "read", "read", defArgs s_read, defBody s_read, defScope s_read, [], []⟩
def d_spots : He.DefD := ⟨("spots", none), "spots", "spots", defArgs s_spots, defBody s_spots, defScope s_spots, [], []⟩
def d_look_at_letters : He.DefD := ⟨("look_at_letters", none), "look_at_letters", "look_at_letters", defArgs s_look_at_letters, defBody s_look_at_letters, defScope s_look_at_letters, [], []⟩
def d_Trace_init : He.DefD := ⟨("Trace", some "__init__"), "__init__", "Trace.__init__", defArgs s_Trace_init, defBody s_Trace_init, defScope s_Trace_init, [], []⟩
def d_traced : He.DefD := ⟨("traced", none), "traced", "traced", defArgs s_traced, defBody s_traced, defScope s_traced, [], []⟩
def d_lean : He.DefD := ⟨("lean", none), "lean", "lean", defArgs s_lean, defBody s_lean, defScope s_lean, [], [("keep", .adr (DL.kwAt ("lean", none) "keep"))]⟩
def d_leaned : He.DefD := ⟨("leaned", none), "leaned", "leaned", defArgs s_leaned, defBody s_leaned, defScope s_leaned, [], [("keep", .adr (DL.kwAt ("leaned", none) "keep"))]⟩
def d__law_mixed : He.DefD := ⟨("_law_mixed", none), "_law_mixed", "_law_mixed", defArgs s__law_mixed, defBody s__law_mixed, defScope s__law_mixed, [], []⟩
def d__law_cell : He.DefD := ⟨("_law_cell", none), "_law_cell", "_law_cell", defArgs s__law_cell, defBody s__law_cell, defScope s__law_cell, [], []⟩
def d__law_take : He.DefD := ⟨("_law_take", none), "_law_take", "_law_take", defArgs s__law_take, defBody s__law_take, defScope s__law_take, [], []⟩
def d__law_only : He.DefD := ⟨("_law_only", none), "_law_only", "_law_only", defArgs s__law_only, defBody s__law_only, defScope s__law_only, [], []⟩
def d__law_asked : He.DefD := ⟨("_law_asked", none), "_law_asked", "_law_asked", defArgs s__law_asked, defBody s__law_asked, defScope s__law_asked, [], []⟩
def d__law_good : He.DefD := ⟨("_law_good", none), "_law_good", "_law_good", defArgs s__law_good, defBody s__law_good, defScope s__law_good, [], []⟩
def d_law : He.DefD := ⟨("law", none), "law", "law", defArgs s_law, defBody s_law, defScope s_law, [], []⟩
def fn : List He.DefD := [d_NoText_init, d_run_end, d_stands_by, d_letters_end, d_noughts_at, d_figures_end, d_word_at, d_words, d_Reader_init, d_things, d_statements_in, d_read, d_spots, d_look_at_letters, d_Trace_init, d_traced, d_lean, d_leaned, d__law_mixed, d__law_cell, d__law_take, d__law_only, d__law_asked, d__law_good, d_law]
def fa : List He.Fa := [.glo "run_end", .glo "stands_by", .glo "letters_end", .glo "noughts_at", .glo "figures_end", .glo "word_at", .glo "words", .glo "things", .glo "statements_in", .glo "read", .glo "spots", .glo "look_at_letters", .glo "traced", .glo "lean", .glo "leaned", .glo "_law_mixed", .glo "_law_cell", .glo "_law_take", .glo "_law_only", .glo "_law_asked", .glo "_law_good", .glo "law", .glo "LeanError", .glo "NoCount", .glo "NoLetters", .glo "NoLine", .glo "NoMap", .glo "NoNaming", .glo "NoPath", .glo "NoText", .glo "NoTree", .glo "NoTurning", .glo "TooMany", .glo "Reader", .glo "Trace", .free "ArithmeticError", .free "LookupError", .free "ValueError", .free "all", .free "int", .free "isinstance", .free "len", .free "min", .free "range", .free "str", .free "tuple", .free "zip", .glo "DOUBLE", .str "FIGURES" "0123456789", .glo "KEPT", .int "LEAST_LETTERS" 2, .str "LETTERS" "abcdefghijklmnopqrstuvwxyz", .int "LONGEST" 12, .int "MOST_FIGURES" 18, .str "SINGLE" "+-*/~<>!?:.,=(){}[];", .str "SMALL" "abcdefghijklmnopqrstuvwxyz"]
def tup_DOUBLE : List He.Dv := [.str "<=", .str ">=", .str "==", .str "!=", .str "&&", .str "||"]
def tup_KEPT : List He.Dv := [.str "let", .str "if", .str "else", .str "while", .str "return", .str "fail", .str "try", .str "catch", .str "out", .str "fn"]
def roots0 : List Str := ["run_end", "stands_by", "letters_end", "noughts_at", "figures_end", "word_at", "words", "things", "statements_in", "read", "spots", "look_at_letters", "traced", "lean", "leaned", "_law_mixed", "_law_cell", "_law_take", "_law_only", "_law_asked"]
def roots1 : List Str := ["_law_good", "law", "NoText", "Reader", "Trace", "DOUBLE", "FIGURES", "KEPT", "LEAST_LETTERS", "LETTERS", "LONGEST", "MOST_FIGURES", "SINGLE", "SMALL", "LeanError", "NoCount", "NoLetters", "NoLine", "NoMap", "NoNaming"]
def roots2 : List Str := ["NoPath", "NoTree", "NoTurning", "TooMany"]
def roots : List Str := roots0 ++ roots1 ++ roots2
def ck (K : PySem.W.Frag) : Bool := (fa.all fun f => f.ok K) && (He.tupB K "DOUBLE" tup_DOUBLE && (He.tupB K "KEPT" tup_KEPT && (etB K (DL.kwAt ("lean", none) "keep" K) && (etB K (DL.kwAt ("leaned", none) "keep" K) && (PySem.W.keepIn K (.ref (He.ga K "NoLetters")) && (decide (PySem.W.subIn K (.ref (He.ga K "NoLetters")) (.type "BaseException") = some true) && (decide (PySem.W.typeIn K (.ref (He.ga K "NoLetters")) = some (.type "type")) && (PySem.W.excIn K (He.ga K "NoLetters") He.veBase "ValueError.__new__" && (PySem.W.keepIn K (.ref (He.ga K "NoText")) && (oexB K (He.ga K "NoText") && (inB K "NoText" && (He.eqO (PySem.W.findIn K (.ref (He.ga K "NoText")) "at") (some none) && (icB K (He.ga K "LeanError") && ((He.Fa.exm "NoCount" "LeanError" true).ok K && ((He.Fa.exm "NoLetters" "LeanError" true).ok K && ((He.Fa.exm "NoLine" "LeanError" true).ok K && ((He.Fa.exm "NoMap" "LeanError" true).ok K && ((He.Fa.exm "NoNaming" "LeanError" true).ok K && ((He.Fa.exm "NoPath" "LeanError" true).ok K && ((He.Fa.exm "NoText" "LeanError" true).ok K && ((He.Fa.exm "NoTree" "LeanError" true).ok K && ((He.Fa.exm "NoTurning" "LeanError" true).ok K && ((He.Fa.exm "TooMany" "LeanError" true).ok K && ((He.Fa.mkr "Reader").ok K && ((He.Fa.cls "Reader").ok K && ((He.Fa.noat "Reader" "size").ok K && ((He.Fa.mkr "Trace").ok K && ((He.Fa.cls "Trace").ok K && (kindsB K ["NoText", "NoTree", "NoPath", "NoNaming", "NoLetters", "NoCount", "NoTurning", "NoMap", "NoLine", "TooMany"])))))))))))))))))))))))))))))
abbrev R : PySem.W.OpenRow := PySem.W.OpenLaw.row PySem.Challenge.rw_leanscript_k02_refused_words
abbrev hk : PySem.W.Hook := hookR roots 6 ck fn
def ob (s : PySem.W.SharedT) : He.AlD := obsRG roots 6 ck fn (HandSHeadRun.getT s)
theorem ob_eq (s : PySem.W.SharedT) : ob s = hk.obs s.abs := obsRG_eq (HandSHeadRun.getT_eq s)
def nm0 : List Str := ["LeanError", "NoText", "NoTree", "NoPath", "NoNaming", "NoLetters", "NoCount", "NoTurning", "NoMap", "NoLine", "TooMany", "LETTERS", "FIGURES", "KEPT", "DOUBLE", "SINGLE", "LONGEST", "MOST_FIGURES", "is_name", "run_end", "stands_by", "letters_end", "noughts_at", "figures_end", "word_at", "words", "number_in", "SIGNS_trees", "GREATEST", "MOST_PARTS"]
def nm1 : List Str := ["DEEPEST", "MOST_NAMES", "EXPRESSIONS", "STATEMENTS", "is_whole", "must", "must_tuple", "must_name", "is_path", "is_give", "form_of", "must_part", "must_pairs", "must_names", "must_many", "must_sort", "things_of", "within", "parts_below", "parts_of", "own_lists", "lists_of", "names_let", "is_open", "Look", "names_in", "depth_of", "must_tree", "thing_at", "SIDES"]
def nm2 : List Str := ["WORDS", "Node", "Reader", "things", "statements_in", "read", "spots_of", "spots", "lets_in", "let_alone", "opened", "Meanings", "bindings", "outers", "rooms", "is_use_sure", "still_in", "begins", "Waiting", "unreached_in", "Old", "Shell", "New", "Many", "changed", "put_together", "outcome", "kept_whences", "whences", "taken_out"]
def nm3 : List Str := ["LEVELS", "TIGHTEST", "SIGNS_writing", "ENDED", "level_of", "number_word", "Writer", "written", "is_letter", "places_of", "tight_in", "spots_in", "is_ended", "ends", "is_wanted", "behind_in", "empty_in", "alone_in", "out_of", "all_in", "gone_in", "is_going", "bared", "SMALL", "LEAST_LETTERS", "look_at_letters", "names_of", "exchanged", "name_path", "room_paths"]
def nm4 : List Str := ["lies_in", "is_hidden", "hinder", "barred", "look_at_naming", "named", "counts", "price", "hinderers", "fair", "property_paths", "properties", "look_at_names", "props_named", "props_least", "CONTRARY", "NOTHING", "Place", "number_of", "reckoned", "by_reckoning", "by_choosing", "by_contrary", "is_test", "by_double", "by_swapping", "by_and", "by_joining", "by_tail", "by_lets"]
def nm5 : List Str := ["by_opening", "by_giving", "by_last", "by_test", "by_less", "DEEDS", "carried", "carries", "plans", "is_tree", "is_made", "plan_at", "turn_changes", "GONE", "lean_step", "step_changes", "Trace", "MOST_BINDINGS", "Facts", "with_one", "pairs_of", "bound", "best_naming", "best_naming_leastnames", "searched", "paper_for", "least_naming", "best_naming_whole", "shrink", "traced"]
def nm6 : List Str := ["lean", "leaned", "_law_mixed", "_law_cell", "_law_take", "_law_only", "_law_asked", "_law_good"]
def nms : List Str := nm0 ++ nm1 ++ nm2 ++ nm3 ++ nm4 ++ nm5 ++ nm6
set_option maxHeartbeats 0 in
theorem run_false (w : World) : HandSHeadRun.RunEq R (PySem.W.view R.prog [208]) hk ob 40000 nms (w.withFollow "special-get-raises" false) := by
  intro os
  kernel_rfl
set_option maxHeartbeats 0 in
theorem run_true (w : World) : HandSHeadRun.RunEq R (PySem.W.view R.prog [208]) hk ob 40000 nms (w.withFollow "special-get-raises" true) := by
  intro os
  kernel_rfl
theorem run (w : World) : HandSHeadRun.RunEq R (PySem.W.view R.prog [208]) hk ob 40000 nms w := PySem.W.byRow2 "special-get-raises" (P := fun w => HandSHeadRun.RunEq R (PySem.W.view R.prog [208]) hk ob 40000 nms w) run_false run_true w
theorem env_of {K : PySem.W.Frag} {h : Heap} {mg : Str → Option Value} (X : K.In h) (G : h.Ns mainGlobals mg) (c : SaysM ck fn K) : Nonempty (Env K mg) := by
  obtain ⟨cA, cD⟩ := He.ba (show ck K = true from c.both.1)
  obtain ⟨c0, cD⟩ := He.ba cD
  obtain ⟨c1, cD⟩ := He.ba cD
  obtain ⟨c2, cD⟩ := He.ba cD
  obtain ⟨c3, cD⟩ := He.ba cD
  obtain ⟨c4, cD⟩ := He.ba cD
  obtain ⟨c5, cD⟩ := He.ba cD
  obtain ⟨c6, cD⟩ := He.ba cD
  obtain ⟨c7, cD⟩ := He.ba cD
  obtain ⟨c8, cD⟩ := He.ba cD
  obtain ⟨c9, cD⟩ := He.ba cD
  obtain ⟨c10, cD⟩ := He.ba cD
  obtain ⟨c11, cD⟩ := He.ba cD
  obtain ⟨c12, cD⟩ := He.ba cD
  obtain ⟨c13, cD⟩ := He.ba cD
  obtain ⟨c14, cD⟩ := He.ba cD
  obtain ⟨c15, cD⟩ := He.ba cD
  obtain ⟨c16, cD⟩ := He.ba cD
  obtain ⟨c17, cD⟩ := He.ba cD
  obtain ⟨c18, cD⟩ := He.ba cD
  obtain ⟨c19, cD⟩ := He.ba cD
  obtain ⟨c20, cD⟩ := He.ba cD
  obtain ⟨c21, cD⟩ := He.ba cD
  obtain ⟨c22, cD⟩ := He.ba cD
  obtain ⟨c23, cD⟩ := He.ba cD
  obtain ⟨c24, cD⟩ := He.ba cD
  obtain ⟨c25, cD⟩ := He.ba cD
  obtain ⟨c26, cD⟩ := He.ba cD
  obtain ⟨c27, cD⟩ := He.ba cD
  have c28 := cD
  obtain ⟨fd_NoText_init, F_NoText_init⟩ := c.def_ 0 (d := d_NoText_init) rfl
  obtain ⟨fd_run_end, F_run_end⟩ := c.def_ 1 (d := d_run_end) rfl
  obtain ⟨fd_stands_by, F_stands_by⟩ := c.def_ 2 (d := d_stands_by) rfl
  obtain ⟨fd_letters_end, F_letters_end⟩ := c.def_ 3 (d := d_letters_end) rfl
  obtain ⟨fd_noughts_at, F_noughts_at⟩ := c.def_ 4 (d := d_noughts_at) rfl
  obtain ⟨fd_figures_end, F_figures_end⟩ := c.def_ 5 (d := d_figures_end) rfl
  obtain ⟨fd_word_at, F_word_at⟩ := c.def_ 6 (d := d_word_at) rfl
  obtain ⟨fd_words, F_words⟩ := c.def_ 7 (d := d_words) rfl
  obtain ⟨fd_Reader_init, F_Reader_init⟩ := c.def_ 8 (d := d_Reader_init) rfl
  obtain ⟨fd_things, F_things⟩ := c.def_ 9 (d := d_things) rfl
  obtain ⟨fd_statements_in, F_statements_in⟩ := c.def_ 10 (d := d_statements_in) rfl
  obtain ⟨fd_read, F_read⟩ := c.def_ 11 (d := d_read) rfl
  obtain ⟨fd_spots, F_spots⟩ := c.def_ 12 (d := d_spots) rfl
  obtain ⟨fd_look_at_letters, F_look_at_letters⟩ := c.def_ 13 (d := d_look_at_letters) rfl
  obtain ⟨fd_Trace_init, F_Trace_init⟩ := c.def_ 14 (d := d_Trace_init) rfl
  obtain ⟨fd_traced, F_traced⟩ := c.def_ 15 (d := d_traced) rfl
  obtain ⟨fd_lean, F_lean⟩ := c.def_ 16 (d := d_lean) rfl
  obtain ⟨fd_leaned, F_leaned⟩ := c.def_ 17 (d := d_leaned) rfl
  obtain ⟨fd__law_mixed, F__law_mixed⟩ := c.def_ 18 (d := d__law_mixed) rfl
  obtain ⟨fd__law_cell, F__law_cell⟩ := c.def_ 19 (d := d__law_cell) rfl
  obtain ⟨fd__law_take, F__law_take⟩ := c.def_ 20 (d := d__law_take) rfl
  obtain ⟨fd__law_only, F__law_only⟩ := c.def_ 21 (d := d__law_only) rfl
  obtain ⟨fd__law_asked, F__law_asked⟩ := c.def_ 22 (d := d__law_asked) rfl
  obtain ⟨fd__law_good, F__law_good⟩ := c.def_ 23 (d := d__law_good) rfl
  obtain ⟨fd_law, F_law⟩ := c.def_ 24 (d := d_law) rfl
  obtain ⟨t_FIGURES, m_FIGURES⟩ := He.str_ok (x := "FIGURES") (z := "0123456789") X G (fa_at cA 48)
  obtain ⟨t_LEAST_LETTERS, m_LEAST_LETTERS⟩ := He.int_ok (x := "LEAST_LETTERS") (i := 2) X G (fa_at cA 50)
  obtain ⟨t_LETTERS, m_LETTERS⟩ := He.str_ok (x := "LETTERS") (z := "abcdefghijklmnopqrstuvwxyz") X G (fa_at cA 51)
  obtain ⟨t_LONGEST, m_LONGEST⟩ := He.int_ok (x := "LONGEST") (i := 12) X G (fa_at cA 52)
  obtain ⟨t_MOST_FIGURES, m_MOST_FIGURES⟩ := He.int_ok (x := "MOST_FIGURES") (i := 18) X G (fa_at cA 53)
  obtain ⟨t_SINGLE, m_SINGLE⟩ := He.str_ok (x := "SINGLE") (z := "+-*/~<>!?:.,=(){}[];") X G (fa_at cA 54)
  obtain ⟨t_SMALL, m_SMALL⟩ := He.str_ok (x := "SMALL") (z := "abcdefghijklmnopqrstuvwxyz") X G (fa_at cA 55)
  exact ⟨{
    m_LeanError := He.glo_ok X G (fa_at cA 22)
    m_NoCount := He.glo_ok X G (fa_at cA 23)
    m_NoLetters := He.glo_ok X G (fa_at cA 24)
    m_NoLine := He.glo_ok X G (fa_at cA 25)
    m_NoMap := He.glo_ok X G (fa_at cA 26)
    m_NoNaming := He.glo_ok X G (fa_at cA 27)
    m_NoPath := He.glo_ok X G (fa_at cA 28)
    m_NoText := He.glo_ok X G (fa_at cA 29)
    m_NoTree := He.glo_ok X G (fa_at cA 30)
    m_NoTurning := He.glo_ok X G (fa_at cA 31)
    m_TooMany := He.glo_ok X G (fa_at cA 32)
    k_NoLetters := c4
    sb_NoLetters := of_decide_eq_true c5
    ty_NoLetters := of_decide_eq_true c6
    x_NoLetters := c7
    k_NoText := c8
    o_NoText := oexB_ok c9
    i_NoText := (inB_ok c10).1
    t_NoText := (inB_ok c10).2
    na_NoText_at := He.eqO_ok c11
    kb_NoText_1 := kbn1 (dvs := [.int 0]) F_NoText_init 2 [] (fun us ds ws => (us.drop 0).take 1 ++ ((us.drop 1).take 1)) (List.cons_ne_nil _ _) (fun r1 r2 r3 => (((r1.drop 0).take 1).append ((r1.drop 1).take 1))) (fun _ _ _ _ _ _ _ us its ws l1 l2 l3 => match us, its, ws, l1, l2, l3 with | [_, _], [_], [], _, _, _ => ⟨_, rfl, rfl⟩)
    ic_LeanError := icB_ok c12
    ex_NoCount_LeanError := He.exm_ok (b := true) c13
    ex_NoLetters_LeanError := He.exm_ok (b := true) c14
    ex_NoLine_LeanError := He.exm_ok (b := true) c15
    ex_NoMap_LeanError := He.exm_ok (b := true) c16
    ex_NoNaming_LeanError := He.exm_ok (b := true) c17
    ex_NoPath_LeanError := He.exm_ok (b := true) c18
    ex_NoText_LeanError := He.exm_ok (b := true) c19
    ex_NoTree_LeanError := He.exm_ok (b := true) c20
    ex_NoTurning_LeanError := He.exm_ok (b := true) c21
    ex_TooMany_LeanError := He.exm_ok (b := true) c22
    m_Reader := He.glo_ok X G (fa_at cA 33)
    mk_Reader := He.mkr_ok c23
    cl_Reader := He.cls_ok c24
    na_Reader_size := He.noat_ok c25
    m_Trace := He.glo_ok X G (fa_at cA 34)
    mk_Trace := He.mkr_ok c26
    cl_Trace := He.cls_ok c27
    kinds := kindsB_ok c28
    fd_NoText_init := fd_NoText_init, F_NoText_init := F_NoText_init
    fd_run_end := fd_run_end, F_run_end := F_run_end, m_run_end := He.glo_ok X G (fa_at cA 0)
    b_run_end := FunD.bindsN F_run_end fun _ _ _ _ _ _ us hl => match us, hl with | [_, _, _], _ => rfl
    fd_stands_by := fd_stands_by, F_stands_by := F_stands_by, m_stands_by := He.glo_ok X G (fa_at cA 1)
    b_stands_by := FunD.bindsN F_stands_by fun _ _ _ _ _ _ us hl => match us, hl with | [_, _], _ => rfl
    fd_letters_end := fd_letters_end, F_letters_end := F_letters_end, m_letters_end := He.glo_ok X G (fa_at cA 2)
    b_letters_end := FunD.bindsN F_letters_end fun _ _ _ _ _ _ us hl => match us, hl with | [_, _], _ => rfl
    fd_noughts_at := fd_noughts_at, F_noughts_at := F_noughts_at, m_noughts_at := He.glo_ok X G (fa_at cA 3)
    b_noughts_at := FunD.bindsN F_noughts_at fun _ _ _ _ _ _ us hl => match us, hl with | [_, _], _ => rfl
    fd_figures_end := fd_figures_end, F_figures_end := F_figures_end, m_figures_end := He.glo_ok X G (fa_at cA 4)
    b_figures_end := FunD.bindsN F_figures_end fun _ _ _ _ _ _ us hl => match us, hl with | [_, _], _ => rfl
    fd_word_at := fd_word_at, F_word_at := F_word_at, m_word_at := He.glo_ok X G (fa_at cA 5)
    b_word_at := FunD.bindsN F_word_at fun _ _ _ _ _ _ us hl => match us, hl with | [_, _], _ => rfl
    fd_words := fd_words, F_words := F_words, m_words := He.glo_ok X G (fa_at cA 6)
    b_words := FunD.bindsN F_words fun _ _ _ _ _ _ us hl => match us, hl with | [_], _ => rfl
    fd_Reader_init := fd_Reader_init, F_Reader_init := F_Reader_init
    b_Reader_init := FunD.bindsN F_Reader_init fun _ _ _ _ _ _ us hl => match us, hl with | [_, _], _ => rfl
    fd_things := fd_things, F_things := F_things, m_things := He.glo_ok X G (fa_at cA 7)
    b_things := FunD.bindsN F_things fun _ _ _ _ _ _ us hl => match us, hl with | [_], _ => rfl
    fd_statements_in := fd_statements_in, F_statements_in := F_statements_in, m_statements_in := He.glo_ok X G (fa_at cA 8)
    b_statements_in := FunD.bindsN F_statements_in fun _ _ _ _ _ _ us hl => match us, hl with | [_], _ => rfl
    fd_read := fd_read, F_read := F_read, m_read := He.glo_ok X G (fa_at cA 9)
    b_read := FunD.bindsN F_read fun _ _ _ _ _ _ us hl => match us, hl with | [_], _ => rfl
    fd_spots := fd_spots, F_spots := F_spots, m_spots := He.glo_ok X G (fa_at cA 10)
    b_spots := FunD.bindsN F_spots fun _ _ _ _ _ _ us hl => match us, hl with | [_], _ => rfl
    fd_look_at_letters := fd_look_at_letters, F_look_at_letters := F_look_at_letters, m_look_at_letters := He.glo_ok X G (fa_at cA 11)
    b_look_at_letters := FunD.bindsN F_look_at_letters fun _ _ _ _ _ _ us hl => match us, hl with | [_], _ => rfl
    fd_Trace_init := fd_Trace_init, F_Trace_init := F_Trace_init
    b_Trace_init := FunD.bindsN F_Trace_init fun _ _ _ _ _ _ us hl => match us, hl with | [_, _], _ => rfl
    fd_traced := fd_traced, F_traced := F_traced, m_traced := He.glo_ok X G (fa_at cA 12)
    b_traced := FunD.bindsN F_traced fun _ _ _ _ _ _ us hl => match us, hl with | [_, _, _], _ => rfl
    fd_lean := fd_lean, F_lean := F_lean, m_lean := He.glo_ok X G (fa_at cA 13)
    b_lean := FunD.binds0 F_lean 2 (List.cons_ne_nil _ _) rfl fun D doc pm an cdv ct us ks l1 l2 => match us, ks, l1, l2 with | [_, _], [_], _, _ => ⟨_, _, _, _, _, _, rfl, rfl, rfl⟩
    kt_lean_keep := etB_ok c2
    fd_leaned := fd_leaned, F_leaned := F_leaned, m_leaned := He.glo_ok X G (fa_at cA 14)
    b_leaned := FunD.binds0 F_leaned 2 (List.cons_ne_nil _ _) rfl fun D doc pm an cdv ct us ks l1 l2 => match us, ks, l1, l2 with | [_, _], [_], _, _ => ⟨_, _, _, _, _, _, rfl, rfl, rfl⟩
    kt_leaned_keep := etB_ok c3
    fd__law_mixed := fd__law_mixed, F__law_mixed := F__law_mixed, m__law_mixed := He.glo_ok X G (fa_at cA 15)
    b__law_mixed := FunD.bindsN F__law_mixed fun _ _ _ _ _ _ us hl => match us, hl with | [_, _], _ => rfl
    fd__law_cell := fd__law_cell, F__law_cell := F__law_cell, m__law_cell := He.glo_ok X G (fa_at cA 16)
    b__law_cell := FunD.bindsN F__law_cell fun _ _ _ _ _ _ us hl => match us, hl with | [_, _], _ => rfl
    fd__law_take := fd__law_take, F__law_take := F__law_take, m__law_take := He.glo_ok X G (fa_at cA 17)
    b__law_take := FunD.bindsN F__law_take fun _ _ _ _ _ _ us hl => match us, hl with | [_, _], _ => rfl
    fd__law_only := fd__law_only, F__law_only := F__law_only, m__law_only := He.glo_ok X G (fa_at cA 18)
    b__law_only := FunD.bindsN F__law_only fun _ _ _ _ _ _ us hl => match us, hl with | [_, _], _ => rfl
    fd__law_asked := fd__law_asked, F__law_asked := F__law_asked, m__law_asked := He.glo_ok X G (fa_at cA 19)
    b__law_asked := FunD.bindsN F__law_asked fun _ _ _ _ _ _ us hl => match us, hl with | [_, _], _ => rfl
    fd__law_good := fd__law_good, F__law_good := F__law_good, m__law_good := He.glo_ok X G (fa_at cA 20)
    b__law_good := FunD.bindsN F__law_good fun _ _ _ _ _ _ us hl => match us, hl with | [_, _, _, _], _ => rfl
    fd_law := fd_law, F_law := F_law, m_law := He.glo_ok X G (fa_at cA 21)
    b_law := FunD.bindsN F_law fun _ _ _ _ _ _ us hl => match us, hl with | [_], _ => rfl
    z_ArithmeticError := He.free_ok X G (fa_at cA 35)
    z_LookupError := He.free_ok X G (fa_at cA 36)
    z_ValueError := He.free_ok X G (fa_at cA 37)
    z_all := He.free_ok X G (fa_at cA 38)
    z_int := He.free_ok X G (fa_at cA 39)
    z_isinstance := He.free_ok X G (fa_at cA 40)
    z_len := He.free_ok X G (fa_at cA 41)
    z_min := He.free_ok X G (fa_at cA 42)
    z_range := He.free_ok X G (fa_at cA 43)
    z_str := He.free_ok X G (fa_at cA 44)
    z_tuple := He.free_ok X G (fa_at cA 45)
    z_zip := He.free_ok X G (fa_at cA 46)
    m_DOUBLE := He.glo_ok X G (fa_at cA 47), q_DOUBLE := tup_at c0
    t_FIGURES := t_FIGURES, m_FIGURES := m_FIGURES
    m_KEPT := He.glo_ok X G (fa_at cA 49), q_KEPT := tup_at c1
    t_LEAST_LETTERS := t_LEAST_LETTERS, m_LEAST_LETTERS := m_LEAST_LETTERS
    t_LETTERS := t_LETTERS, m_LETTERS := m_LETTERS
    t_LONGEST := t_LONGEST, m_LONGEST := m_LONGEST
    t_MOST_FIGURES := t_MOST_FIGURES, m_MOST_FIGURES := m_MOST_FIGURES
    t_SINGLE := t_SINGLE, m_SINGLE := m_SINGLE
    t_SMALL := t_SMALL, m_SMALL := m_SMALL
  }⟩

theorem noleave (H : Hp) (s : Shared) (e : Value) (s' : Shared) (h : CX0 [] H s (fun _ _ _ => False) e s') : False := h
theorem sp_start {K : PySem.W.Frag} (H : Hp) (a : Addr) (ns : List Int) (hn : ns.length ≤ 63) (_ : Only H) (hs : SqL K H a (ns.map V.int)) : spP K m_law [.ref a] H (fun v _ => v = .bl true) fun _ _ _ => False :=
  ⟨H, [.scr ns], L2.Same.refl H, .cons (.scr hs) .nil, by
    rw [law_true ns hn]
    exact fun v G' H' g k => den_bl k⟩
end P02
open PySem PySem.W PySem.Calls PyProof.Rows
set_option maxRecDepth 100000 in
set_option maxHeartbeats 0 in
theorem PySem.Challenge.cw_leanscript_k02_refused_words_holds : PySem.Challenge.rw_leanscript_k02_refused_words.Holds := by
  w_on; o_law
  refine HandSHeadRun.head_any (r := OpenLaw.row PySem.Challenge.rw_leanscript_k02_refused_words) (q := view (OpenLaw.row PySem.Challenge.rw_leanscript_k02_refused_words).prog [208]) (H := P02.hk) (ob := P02.ob) (M := 40000) (loose := P02.nms)
    (d := HandSHeadRun.topDef (OpenLaw.row PySem.Challenge.rw_leanscript_k02_refused_words).prog 208) (kwd := []) P02.ob_eq (by kernel_rfl) (fun s => by kernel_rfl) P02.run (by kernel_rfl) (by kernel_rfl) (by kernel_rfl) (by rfl)
    (by first | assumption | decide +kernel) (by decide +kernel) ⟨rfl, rfl, rfl, rfl, rfl, by decide +kernel⟩ ?hw ?hc
  case hw => w_witness2
  case hc =>
    refine L2.walk_ofE (l := PySem.Challenge.rw_leanscript_k02_refused_words) (n := 63) (k := 16) (x := "script") (CX := L2.CX0) rfl (by decide) (by kernel_rfl) ⟨rfl, by decide, by decide⟩ ?F P02.noleave
    intro w mg fa h Y G hmg0
    obtain ⟨K, KX, c⟩ := Y
    have hmg : mg ("law" : PySem.Str) = some (.ref fa) := by
      have e : (HandSHeadRun.topDef (OpenLaw.row PySem.Challenge.rw_leanscript_k02_refused_words).prog 208).name = ("law" : PySem.Str) := by kernel_rfl
      rw [← e]
      exact hmg0
    obtain ⟨T⟩ := P02.env_of KX G c
    have ef := hmg.symm.trans T.m_law
    cases ef
    have b := L2.FunD.bindsA (ps := ["script"]) T.F_law fun _ _ _ _ _ _ us hl => match us, hl with | [_], _ => rfl
    exact ⟨K, T.fd_law, P02.sp_law K, KX, fun s v => b s [v] rfl, P02.sp_start, fun base _ _ => P02.ok_law T⟩

#print axioms PySem.Challenge.cw_leanscript_k02_refused_words_holds
