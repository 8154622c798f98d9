import PyProof.Rows.All
import Wide.All
import OpenK.AllK
import Wide.FinOn
import HandS.ForMost
import HandS.HotCalls
import HandS.Lambda
import HandS.ExcCtx
import HandS.ExcIs
import HandS.IsInst
import HandS.EndTab
import HandS.EndOwn
import HandS.Wide
import HandS.Conv
import HandS.More
import HandS.Flow
import HandS.Style
import HandS.Sort
import HandS.SortKw
import HandS.SortOrd
import HandS.RaiseOp
import HandS.SortRule
import HandS.SortInts
import HandS.TupLe
import HandS.Deep
import PySem.Challenge.RW_nearmarks_k10_points
set_option Elab.async false
set_option linter.all false
set_option maxRecDepth 100000
set_option maxHeartbeats 4000000

/-! The layer within an except suite: a list walked, a comprehension, sum; a def that gets the caught exception; lambdas whose exceptions bear no context. -/
namespace NM
open PySem PySem.Spec PyProof.Rows L2 HotX L2H
abbrev St := L2.St
section
variable {prog : Program} {w : World} {A : Around} {E : Value → Shared → Prop} {s : Shared}
theorem list_end_hot {it l x1 : Addr} {i : Nat} {items : Array Value} {Q : Option Value → Shared → Prop} (hot : HotAt A x1 s.heap) (nx : x1 ≠ it)
    (hit : s.heap.IsListIter it l i) (hl : s.heap.IsList l items) (hx : items[i]? = none)
    (hQ : ∀ h', (∀ b o, b ≠ it → s.heap.get? b = some o → h'.get? b = some o) → Q none { s with heap := h' }) : wpAny (model prog w) A (pyNext (.ref it)) Q E s := by
  obtain ⟨hh, o1, vs1, h1, d1, c1⟩ := hot
  obtain ⟨o, ho, hc, hd⟩ := id hit
  obtain ⟨ol, hol, _, nl, hdl⟩ := hl
  unfold pyNext
  refine wpAny_bind (wpAny_attempt (wpAny_callSpecial?_slot (name := Str.ofString "__next__") hit.typeIs slot_listiter_next
    (wpAny_call_entry slot_listiter_next hit.typeIs entry_listiter_next ?_ (args_listiter_next _))))
  show wpAny _ _ (field (.ref it) 0 >>= _) _ _ s
  refine wpAny_bind (wpAny_field ho hd (x := .ref l) rfl ?_)
  show wpAny _ _ (if (Value.ref l == Value.none) = true then _ else _) _ _ s
  rw [if_neg (show ¬ ((Value.ref l == Value.none) = true) from Bool.false_ne_true)]
  show wpAny _ _ (field (.ref it) 1 >>= _) _ _ s
  refine wpAny_bind (wpAny_field ho hd (x := .int i 0) rfl ?_)
  show wpAny _ _ (seqItems? (.ref l) >>= _) _ _ s
  refine wpAny_bind (wpAny_seqItems hol hdl ?_)
  simp only [Int.toNat_natCast, hx]
  refine wpAny_bind (wpAny_rule (wpAny_bind (wpAny_setField ho hd (by simp) ?_)))
  show wpAny _ _ (newExc (.type "StopIteration") [] >>= _) _ _ _
  refine wpAny_bind ?_
  simp only [newExc, newTuple]
  refine wpAny_bind (wpAny_newObj_type ?_ (by size_fits))
  refine wpAny_bind (m := firstArgMember _ _) (wpAny_of_eq (a := Value.none) (by first | rfl | (simp only [firstArgMember]; rfl)) ?_)
  refine wpAny_newObj_type ?_ (by size_fits)
  have sb := Heap.SameBut.update s.heap it (Obj.mapFields (·.setIfInBounds 0 .none))
  have h1' : (s.heap.update it (Obj.mapFields (·.setIfInBounds 0 .none))).get? x1 = some o1 := (sb.2 x1 nx).trans h1
  refine raiseNew_hot ⟨hh, o1, vs1, Heap.get?_push_of_some _ (Heap.get?_push_of_some _ h1'), d1, c1⟩ (Nat.ne_of_lt (Heap.lt_size (Heap.get?_push_of_some _ h1'))) (Heap.get?_push_size _ rfl) rfl (by first | (simp; done) | (simp; omega) | (simp only [Array.size_append]; simp; omega)) ?_
  refine wpAny_bind (wpAny_isInstance (T := "StopIteration") (b := true) ⟨_, Heap.get?_update_self _ (Heap.get?_push_size _ rfl) rfl, rfl⟩ isSubtype_stop ?_)
  refine wpAny_pure (hQ _ fun b o hb e => ?_)
  have e' : (s.heap.update it (Obj.mapFields (·.setIfInBounds 0 .none))).get? b = some o := (sb.2 b hb).trans e
  rw [Heap.get?_update_other _ _ (Nat.ne_of_gt (Heap.lt_size (Heap.get?_push_of_some _ e')))]
  exact Heap.get?_push_of_some _ (Heap.get?_push_of_some _ e')
end

/-! ### a list walked, the handled exception being known -/
section
variable {prog : Program} {w : World} {A : Around} {E : Value → Shared → Prop} {s : Shared}
theorem walks_hot {x1 : Addr} {o1 : Obj} {vs1 : Array Value} (hh : A.handled = some (.ref x1)) (d1 : o1.data = .fields vs1) (c1 : vs1[2]? = some .none) (I ax : Addr) (hne : ax ≠ I) (nx : x1 ≠ I) (items : Array Value) :
    Walks prog w A I [I, ax, x1] [I] items.size (fun i v => items[i]? = some v) (fun i h => h.IsListIter I ax i ∧ h.IsList ax items ∧ h.get? x1 = some o1) where
  sub := fun b hb => by simp at hb; simp [hb]
  frame := fun _ _ _ st hk => ⟨st.1.at fun o e => hk I (by simp) o e, st.2.1.at fun o e => hk ax (by simp) o e, hk x1 (by simp) _ st.2.2⟩
  item := fun i s Q E hi st hQ => by
    refine wpAny_pyNext_list_item st.1 st.2.1 (x := items[i]) (by simp [hi]) fun h' hit' hs' => ?_
    exact hQ _ h' s.toks (by simp [hi]) ⟨hit', st.2.1.extBut hs'.extBut hne, (hs'.2 x1 nx).trans st.2.2⟩ fun b o hb e => hs'.extBut b o (fun h => hb (by simp [h])) e
  done := fun s Q E st hQ => list_end_hot (x1 := x1) ⟨hh, o1, vs1, st.2.2, d1, c1⟩ nx st.1 st.2.1 (by simp) fun h' he' => hQ h' s.toks fun b o hb e => he' b o (fun h => hb (by simp [h])) e
  self := fun _ _ _ _ st hQ => wpAny_pyIter_listiter st.1 hQ
theorem sum_hot {l x1 : Addr} {o1 : Obj} {vs1 : Array Value} {its : List Value} {ns : List Int} {Q : Value → Shared → Prop} (hh : A.handled = some (.ref x1)) (g1 : s.heap.get? x1 = some o1) (d1 : o1.data = .fields vs1) (c1 : vs1[2]? = some .none)
    (hl : s.heap.IsList l its.toArray) (hi : IntsAre its ns)
    (h : ∀ h' tk t', (∀ b o, s.heap.get? b = some o → h'.get? b = some o) → Q (.int ns.sum t') { s with heap := h', toks := tk }) : wpAny (model prog w) A (call (.builtin "sum") [.ref l]) Q E s := by
  obtain ⟨xs, e⟩ := hi.allInts.items
  have hn : numsOf (intItems xs).toList = ns := by rw [← e]; exact hi.numsOf
  rw [nums_intItems] at hn
  rw [e] at hl
  refine call_sum_walkG (iter_intList hl fun s₂ e st hfp hlI => ?_)
  subst e
  have nx : x1 ≠ s.heap.objs.size := Nat.ne_of_lt (Heap.lt_size g1)
  refine ⟨_, _, _, _, _, _, numAt xs, rfl, walks_hot (A := A.in1) hh d1 c1 _ l hlI nx (intItems xs), ⟨st.1, st.2, Heap.get?_push_of_some _ g1⟩, fun b hb => ?_, (fun _ _ => intItems_at), fun h' tk t' hk => ?_⟩
  · rcases List.mem_cons.mp hb with z | hb
    · rw [z]; exact hfp _ (by simp)
    · rcases List.mem_cons.mp hb with z | hb
      · rw [z]; exact hfp _ (by simp)
      · rcases List.mem_cons.mp hb with z | hb
        · rw [z]; exact Heap.lt_size (Heap.get?_push_of_some _ g1)
        · cases hb
  · have q := h h' tk t' (old_kept hk)
    have e2 : preSum (numAt xs) xs.size = ns.sum := by
      rw [preSum_eq, List.take_of_length_le (by simp), hn]
    have q2 := q
    rw [← e2] at q2
    simpa [intItems] using q2
end
section
variable {X : Cx}
/-- sum(xs) within an except suite -/
theorem cr_sumH (hc : HotC X) : CallR X (.builtin "sum") (rSum X.K) := by
  intro pins s σ H vs us Q I r h
  obtain ⟨a, ns, rfl, hs, q⟩ := h
  obtain ⟨its, rv, hl, _⟩ := I.list hs
  rw [Vals.ref1 r]
  obtain ⟨x1, hh, o1, vs1, g1, d1, c1⟩ := hc.at I
  exact sum_hot hh g1 d1 c1 hl.isList rv.ints fun h' tk t' hk => ⟨.int _, H, I.kept hk, ⟨_, rfl⟩, q⟩
end
theorem turn_listH {P : Program} {w : World} {K : PySem.W.Frag} {tg : Expr} (a it : Addr) : TurnH P w K tg (Itl K a) [it] it (fun i h => h.IsListIter it a i) where
  mem := by simp
  obj := fun i h st b hb => by
    have e : b = it := by simpa using hb
    subst e
    obtain ⟨o, e, c, d⟩ := st
    exact ⟨o, e, fun v z => by rw [d] at z; cases z⟩
  keep := fun i h h' st k => st.at fun o e => k it (by simp) o e
  item := by
    intro X hP hw hK hc i pins s σ H E I hf st hg
    subst hP hw hK
    obtain ⟨xs, x, hq, hx⟩ := hg
    obtain ⟨its, rv, p, hz⟩ := I.list hq
    obtain ⟨u, hu, ru⟩ := rv.get hx
    obtain ⟨f0, f1, f2, f3, f4, f5⟩ := hf it (by simp)
    refine wpAny_pyNext_list_item st p.isList (x := u) (by simpa using hu) fun h' st' sb => ?_
    have I1 : Inv X pins σ H { s with heap := h' } := I.turned (t' := s.toks) (fun b o hb e => (sb.2 b hb).trans e) f0 f1 f3 f4 f5
    obtain ⟨o, e, c, d⟩ := id st'
    exact ⟨u, rfl, go_of (s := { s with heap := h' }) e c d (by decide) ⟨x, H, I1, ru, ⟨rfl, fun ys hy => by rw [I.list_inj hy hq]; exact hx⟩, st', fun b hb => (hf b hb).1⟩⟩
  done := by
    intro X hP hw hK hc i pins s σ H E I hf st hg
    subst hP hw hK
    obtain ⟨xs, hq, hx⟩ := hg
    obtain ⟨its, rv, p, hz⟩ := I.list hq
    obtain ⟨f0, f1, f2, f3, f4, f5⟩ := hf it (by simp)
    have hl := rv.length
    obtain ⟨q1, hot1, hm⟩ := hc
    obtain ⟨hh, vs1, d1, c1⟩ := hot1
    have P1 := I.pin q1 (List.mem_append_left _ hm)
    exact list_end_hot (x1 := q1.1) ⟨hh, q1.2, vs1, P1.1, d1, c1⟩ (f5 q1 (List.mem_append_left _ hm)) st p.isList (by simp; omega) fun h' eb => ⟨rfl, I.turned (t' := s.toks) (fun b o hb e => eb b o hb e) f0 f1 f3 f4 f5⟩
  self := fun _ _ _ _ _ st h => wpAny_pyIter_listiter st h
section
variable {X : Cx} {tg : Expr}
theorem pi_listH {l : Expr} {tl : TE} (hl : PE X l tl) : PIH X tg l (iList X.K tl) := by
  refine ⟨fun pins s σ H R I h => ?_⟩
  refine thn (hl.run pins s σ H _ I h) fun v s1 ⟨x, H1, I1, r1, q1⟩ => ?_
  obtain ⟨a, e, ⟨xs, hq⟩, q⟩ := q1
  subst e
  cases r1
  obtain ⟨its, rv, p, hz⟩ := I1.list hq
  refine wpAny_pyIter_list p.isList ?_
  refine ⟨s1.heap.objs.size, [s1.heap.objs.size], _, _, H1, rfl, I1.kept (t' := s1.toks) fun b o e => Heap.get?_push_of_some _ e, turn_listH a _, ⟨_, Heap.get?_push_size _ rfl, rfl, rfl⟩, fun b hb => ?_, q⟩
  have e : b = s1.heap.objs.size := by simpa using hb
  subst e
  exact I1.fpOk (Nat.le_refl _) (I1.hok.fresh (Nat.le_refl _))
end
/-! ### a comprehension within an except suite -/
/-- the block's context, the handled exception pinned -/
abbrev blkH (X : Cx) (p : Addr × Obj) (s : Shared) (H : Hp) (scope : Scope) (cenv : Env) (fp : List Addr) : Cx := { X.blk s H scope cenv fp with pn := [p] }
section
variable {X : Cx}
theorem inv_blkH {p : Addr × Obj} {s s' : Shared} {H H' : Hp} {σ : St} {scope : Scope} {cenv : Env} {fp : List Addr} (I : Inv (X.blk s H scope cenv fp) [] σ H' s') (g : s'.heap.get? p.1 = some p.2) (n : H' p.1 = none) (nl : p.1 ≠ cenv.locals) (nf : p.1 ∉ frs X.stack) (nc : ∀ v, p.2.data ≠ .cell v) :
    Inv (blkH X p s H scope cenv fp) [] σ H' s' :=
  ⟨⟨I.ok.mod, I.ok.kind, I.ok.glob, I.ok.blt, I.ok.above, I.ok.inj, I.ok.has, I.ok.cab, I.ok.hd, I.ok.frames, I.ok.stk, I.ok.exf, I.ok.bs, I.ok.bsz, I.ok.noex, I.ok.exfs, I.ok.funs, I.ok.frf⟩, I.os, I.bare, I.base, I.loc, I.cell, I.free, I.freeC,
    fun q hq => by
      have e : q = p := by simpa using (show q ∈ [p] ++ ([] : List (Addr × Obj)) from hq)
      rw [e]
      exact ⟨g, n, nl, nf, nc⟩, I.hok, I.len⟩
end
section
variable {X : Cx}
/-- [elt for target in iter if ..] where an exception is being handled -/
theorem pe_lcH {p : Addr × Obj} {elt tg iter : Expr} {ifs : List Expr} {scope : Scope} {own : List (Str × Nat)} {pos : Pos} {wi : TI} {g : TG} {tt : TT} {te : TE} (hot : Hot1 X.A p) (hp : p ∈ X.pn) (hN : X.N.Nodup) (hi : PIH X tg iter wi) (ok : BlkOk X.N X.env.scope scope own)
    (hg : ∀ (s : Shared) (H : Hp) (C : Addr) (cl : List (Str × Addr)) (fp : List Addr), PG (blkH X p s H scope (compEnvC scope cl C X.env) fp) tg g)
    (ht : ∀ (s : Shared) (H : Hp) (C : Addr) (cl : List (Str × Addr)) (fp : List Addr), PTs (blkH X p s H scope (compEnvC scope cl C X.env) fp) ifs tt)
    (he : ∀ (s : Shared) (H : Hp) (C : Addr) (cl : List (Str × Addr)) (fp : List Addr), PE (blkH X p s H scope (compEnvC scope cl C X.env) fp) elt te) (hs : ∀ x, foldedSetIterable iter X.env x = pure x := by intro _; rfl) :
    PE X (.ListComp elt [⟨tg, iter, ifs, 0⟩] scope pos) (tLc wi g tt te (own.map (·.2))) := by
  refine ⟨fun pins s σ H Q I h => ?_⟩
  rw [eval_ListComp]
  have hfree : ∀ y ∈ scope.names, y.2 = .free → ∃ c, X.env.cells.lookup y.1 = some c := fun y hy e =>
    (ok.free y hy e).elim (fun k => I.ok.has _ (.inl k)) (fun k => I.ok.has _ (.inr k))
  refine wpAny_comprehension_free rfl hs (closure_ok hfree) ok.kind (fun y hy e => by rw [ok.uniq y hy, e])
    (thn (hi.run pins s σ H _ I h) fun xv s1 hx => thn hx fun itv s2 h2 => ?_)
  obtain ⟨it, fp, tn, J, H2, e, I2, T, st2, f2, q⟩ := h2
  subst e
  refine wpAny_newObj_type (newEnv_comp ?_) (by show 0 ≤ sizeLine; decide)
  generalize hD : s2.heap.objs.size = D
  have hDn : H2 D = none := I2.hok.fresh (Nat.le_of_eq hD)
  obtain ⟨W, ⟨m0, w0⟩, turn⟩ := q D hDn
  generalize hs3 : ({ s2 with heap := s2.heap.push { cls := .type "list", data := .seq ([] : List Value).toArray } } : Shared) = s3
  have I3 : Inv X pins σ (upd H2 D (.lst [])) s3 := by
    rw [← hs3]
    refine I2.laid (t' := s2.toks) (fun b o e => Heap.get?_push_of_some _ e) (Nat.le_of_eq hD) ⟨Nat.zero_le _, [], 0, .nil, ?_⟩
    rw [← hD]
    exact Heap.get?_push_size _ rfl
  have h3 : s3.heap = s2.heap.push { cls := .type "list", data := .seq ([] : List Value).toArray } := by rw [← hs3]
  have sz : ∀ b ∈ fp, b < s2.heap.objs.size := fun b hb => by
    obtain ⟨o, e, _⟩ := T.obj _ _ st2 b hb
    exact Heap.lt_size e
  have f3 : ∀ b ∈ fp, FpOk X pins (upd H2 D (.lst [])) b ∧ b < s3.heap.objs.size := fun b hb => by
    have hlt := sz b hb
    refine ⟨⟨?_, (f2 b hb).2⟩, by rw [h3, Heap.size_push]; exact Nat.lt_succ_of_lt hlt⟩
    rw [upd_ne (by rw [← hD]; exact Nat.ne_of_lt hlt)]
    exact (f2 b hb).1
  have st3 : tn 0 s3.heap := T.keep _ _ _ st2 fun b _ o e => by rw [h3]; exact Heap.get?_push_of_some _ e
  have I4' := block_start I3 ok hN f3
  have P3 := I3.pin p (List.mem_append_left _ hp)
  have nfs : p.1 ∉ frs X.stack := fun hm => (List.mem_cons.mp (I3.stkSub p.1 hm)).elim P3.2.2.1 P3.2.2.2.1
  have I4 := inv_blkH (p := p) I4' (pushCells_keeps _ _ _ _ (Heap.get?_push_of_some _ P3.1)) P3.2.1 (Nat.ne_of_lt (Heap.lt_size P3.1)) nfs P3.2.2.2.2
  have pg := hg s3 (upd H2 D (.lst [])) s3.heap.objs.size (cellsFrom (s3.heap.objs.size + 1) scope.names (cloFrom X.env.cells scope.names [])) fp
  have pt := ht s3 (upd H2 D (.lst [])) s3.heap.objs.size (cellsFrom (s3.heap.objs.size + 1) scope.names (cloFrom X.env.cells scope.names [])) fp
  have pe := he s3 (upd H2 D (.lst [])) s3.heap.objs.size (cellsFrom (s3.heap.objs.size + 1) scope.names (cloFrom X.env.cells scope.names [])) fp
  show codeAny _ _ (.compStart (.ListComp elt [⟨tg, iter, ifs, 0⟩] scope pos) 0 (.ref it) (.ref D) (compEnvC scope (cellsFrom (s3.heap.objs.size + 1) scope.names (cloFrom X.env.cells scope.names [])) s3.heap.objs.size X.env)) (compPost (model X.prog X.w) X.A X.xe none _ (.ref D) s3.heap.objs.size) { s3 with heap := pushCells (s3.heap.push { cls := .type "dict", data := .dict #[] }) scope.names }
  have nfp : ∀ b ∈ fp, (upd H2 D (.lst [])) b = none := fun b hb => (f3 b hb).1.1
  have npf : ∀ b ∈ fp, p.1 ≠ b := fun b hb => (f2 b hb).2.2.2.2.2 p (List.mem_append_left _ hp)
  generalize hce : compEnvC scope (cellsFrom (s3.heap.objs.size + 1) scope.names (cloFrom X.env.cells scope.names [])) s3.heap.objs.size X.env = ce at I4 pg pt pe ⊢
  have cL : ce.locals = s3.heap.objs.size := by subst hce; rfl
  generalize hH3 : upd H2 D (.lst []) = H3 at I3 I4 pg pt pe w0 nfp f3
  generalize hs4 : ({ s3 with heap := pushCells (s3.heap.push { cls := .type "dict", data := .dict #[] }) scope.names } : Shared) = s4 at I4 ⊢
  have st4 : tn 0 s4.heap := T.keep _ _ _ st3 fun b _ o e => by rw [← hs4]; exact pushCells_keeps _ _ _ _ (Heap.get?_push_of_some _ e)
  have hcB : HotC (blkH X p s3 H3 scope ce fp) := ⟨p, hot, List.mem_singleton.mpr rfl⟩
  have stat : ∀ {σ' : St} {H' : Hp} {s' : Shared}, Inv (blkH X p s3 H3 scope ce fp) [] σ' H' s' → (∀ b ∈ fp, H' b = none) → ∀ b ∈ fp, FpOk (blkH X p s3 H3 scope ce fp) [] H' b := fun {σ' H' s'} I' hn b hb =>
    ⟨hn b hb, (I'.ok.exf b hb).1, I'.ok.exfs b hb, .inl hb, fun x c e => (I'.ok.exf b hb).2 x c e, fun q hq => by
      have e : q = p := by simpa using (show q ∈ [p] ++ ([] : List (Addr × Obj)) from hq)
      rw [e]
      exact npf b hb⟩
  have loop : codeAny (model X.prog X.w) X.A (.compLoop (.ListComp elt [⟨tg, iter, ifs, 0⟩] scope pos) 0 (.ref it) (.ref D) ce) (compPost (model X.prog X.w) X.A X.xe none (EP X pins σ Q) (.ref D) s3.heap.objs.size) s4 := by
    refine compLoop_any (fun n s' => ∃ i H', Inv (blkH X p s3 H3 scope ce fp) [] (wipe σ (own.map (·.2))) H' s' ∧ tn i s'.heap ∧ (∀ b ∈ fp, H' b = none) ∧ W i n H') ?_ m0 ⟨0, H3, I4, st4, nfp, w0⟩
    rintro n s5 ⟨i, H5, I5, st5, n5, w5⟩
    rcases turn i n H5 w5 with ⟨stop, qq⟩ | ⟨go, Nx, hNx, step⟩
    · have td := T.done (blkH X p s3 H3 scope ce fp) rfl rfl rfl hcB i [] s5 _ H5 (fun _ _ => False) I5 (stat I5 n5) st5 stop
      refine thnF td fun r s6 ⟨hr, I6⟩ => ?_
      subst hr
      have I7 : Inv X pins σ H5 s6 := I3.call' (ch := fp) I6.os I6.base I6.hok I6.bare fun b hb => ⟨(f3 b hb).1.2.2.2.1, (f3 b hb).1.2.1, (f3 b hb).1.2.2.2.2.1, (f3 b hb).1.2.2.2.2.2⟩
      have nC : H5 s3.heap.objs.size = none := by
        have z : H5 ce.locals = none := I6.free
        rw [cL] at z
        exact z
      obtain ⟨m, hn, _⟩ := I6.loc
      have hn : s6.heap.Ns ce.locals m := hn
      rw [cL] at hn
      obtain ⟨k0, k1, k2, k3, k4, k5⟩ := I3.fpOk (Nat.le_refl _) nC
      refine ⟨m, hn, fun h'' sb => ?_⟩
      exact ⟨.ref D, H5, I7.turned (t' := s6.toks) (fun b o hb e => (sb.2 b hb).trans e) k0 k1 k3 k4 k5, rfl, qq⟩
    · have ti := T.item (blkH X p s3 H3 scope ce fp) rfl rfl rfl hcB i [] s5 _ H5 (fun _ _ => False) I5 (stat I5 n5) st5 go
      refine thnF ti fun r s6 ⟨u, hr, h6⟩ => ?_
      subst hr
      refine thnF h6 fun _ s7 ⟨x, H7, I7, r7, y7, st7, n7⟩ => ?_
      have I7' := I7.pinned (stat I7 n7) (T.obj _ _ st7)
      refine thnF (pg.run _ s7 _ H7 x u _ I7' r7 (step x H7 y7)) fun _ s8 ⟨σ8, H8, I8, hw8, q8⟩ => ?_
      refine thnF (pt.run _ s8 σ8 H8 _ I8 q8) fun b s9 ⟨H9, I9, q9⟩ => ?_
      have fin : ∀ {s' : Shared} {H' : Hp}, Inv (blkH X p s3 H3 scope ce fp) ([] ++ pinsAt fp s7.heap) σ8 H' s' → Nx H' → ∃ m, m < n ∧ ∃ i H', Inv (blkH X p s3 H3 scope ce fp) [] (wipe σ (own.map (·.2))) H' s' ∧ tn i s'.heap ∧ (∀ b ∈ fp, H' b = none) ∧ W i m H' := fun {s' H'} I' nx => by
        obtain ⟨m', hm, w'⟩ := hNx H' nx
        have pin' : ∀ b ∈ fp, ∀ o, s7.heap.get? b = some o → s'.heap.get? b = some o ∧ H' b = none := fun b hb o e =>
          let z := I'.pin (b, o) (List.mem_append_right _ (List.mem_append_right _ (mem_pinsAt hb e)))
          ⟨z.1, z.2.1⟩
        have hl : (wipe σ (own.map (·.2))).length = σ8.length := by rw [← hw8, wipe_length]
        refine ⟨m', hm, i + 1, H', (I'.unpinned (pins := [])).weak hl (fun j v e => ?_), T.keep _ _ _ st7 fun b hb o e => (pin' b hb o e).1, fun b hb => ?_, w'⟩
        · rw [← hw8] at e
          exact (wipe_some e).1
        · obtain ⟨o, e, _⟩ := T.obj _ _ st7 b hb
          exact (pin' b hb o e).2
      cases b with
      | false =>
        simp only [Bool.false_eq_true, if_false] at q9 ⊢
        exact fin I9 q9
      | true =>
        simp only [if_true] at q9 ⊢
        refine thnF (pe.run _ s9 σ8 H9 _ I9 q9) fun z s10 ⟨yv, H10, I10, r10, acc, hD10, hz10, nx⟩ => ?_
        exact app_ok (X := blkH X p s3 H3 scope ce fp) I10 hD10 hz10 r10 fun s11 I11 => fin I11 nx
  exact codeAny_compStart_list loop (T.self X.A 0 _ _ _ st4 loop)
end
/-! ### a def that is called where an exception is handled, its promise told of that exception -/
structure FnA (P : Program) (w : World) (K : PySem.W.Frag) (mg : Str → Option Value) (base : Heap) (CX : CXT) (k : Nat) (f : Addr) (fd : FuncData) (ps : List Str) (sp : Addr × Obj → Sp) : Prop where
  len : ∀ p vs H Q E, sp p vs H Q E → vs.length = ps.length
  run : ∀ (A : Around) (outer : List Env) (s : Shared) (H : Hp) (args : Args) (us : List Value) (vs : List V) (Q : VK) (E : XK) (p : Addr × Obj), RoomH k A → Hot1 A p → PinOk outer H s p → Env0 P w K mg base A outer s H → BindsTo s fd args (ps.zip us) → Vals vs us → sp p vs H Q E →
    codeAny (model P w) A (.call (.ref f) args) (CR CX outer P w H s Q E) s
theorem fnA_of {CX : CXT} {P : Program} {w : World} {K : PySem.W.Frag} {mg : Str → Option Value} {base : Heap} {k : Nat} {x qual : Str} {st : Stmt} {f : Addr} {fd : FuncData} {N ps : List Str} {sp : Addr × Obj → Sp} (F : Fun K x qual st f fd) (S : FnScope N ps (defScope st))
    (len : ∀ p vs H Q E, sp p vs H Q E → vs.length = ps.length)
    (hbody : ∀ (cdv : Value) (A : Around) (outer : List Env) (s : Shared) (H : Hp) (vs : List V) (Q : VK) (E : XK) (p : Addr × Obj), Hot1 A p → RoomH k (A.deeper (envOfC qual (defScope st) s.heap.objs.size f cdv)) → sp p vs H Q E →
      ∃ t, PSs (cxH CX P w K mg base N qual (defScope st) f cdv A outer s H E p) (defBody st) t ∧ t { nx := fun _ H' => Q .non H', rt := Q } (L2.start N vs) H) :
    FnA P w K mg base CX (k + 1) f fd ps sp := by
  obtain ⟨oc, od, kV, doc, pm, an, cdv, ct, osl, efd, lk, hcd⟩ := F.ex
  subst efd
  refine ⟨len, fun A outer s H args us vs Q E p hr hot hpin e0 hb r hsp => ?_⟩
  have hl := len _ _ _ _ _ hsp
  have KX : K.In s.heap := e0.mod.kin.keeps fun b o e => (e0.bs b o e).1
  have lim : s.heap.NoLimit := e0.mod.nolimit.keeps fun b o e => (e0.bs b o e).1
  have hkind : ∀ y ∈ ps.zip us, (defScope st).names.lookup y.1 = some .local ∨ ((defScope st).names.lookup y.1 = some .cell ∧ ((cellsFrom (s.heap.objs.size + 1) (defScope st).names []).lookup y.1).isSome = true) := fun ⟨n, v⟩ hy => by
    rcases S.par n (List.of_mem_zip hy).1 with q | q
    · exact .inl q
    · exact .inr ⟨q, PySem.W.cellsFrom_some _ _ _ (.inl q)⟩
  refine codeAny_call_function hr.depth (KX _ _ lk) rfl S.co S.gen rfl (PySem.W.codeRec_of KX hcd) (hb _ _ _ _ ?_)
  refine wpAny_newFunctionEnv_cells S.kind hkind fun env he s1 x => ?_
  subst he
  refine ⟨lim.keeps x.toInCall.keep, codeAny_func ?_⟩
  obtain ⟨t, ht, hq⟩ := hbody cdv A outer s H vs Q E p hot (hr.deeper _) hsp
  have I : Inv (cxH CX P w K mg base N qual (defScope st) f cdv A outer s H E p) [] (L2.start N vs) H s1 := inv_startH S hpin e0 hl r x
  refine wpAny_mono (ht.run [] s1 (L2.start N vs) H _ I hq) (fun fl s' hs => ?_) fun e s' hs => hs
  have fin : ∀ {σ' : St} {H' : Hp} {v : V} {u : Value}, Inv (cxH CX P w K mg base N qual (defScope st) f cdv A outer s H E p) [] σ' H' s' → RelV v u → Q v H' → CE outer P w H s Q u s' :=
    fun {σ' H' v u} J rv q => ⟨v, H', J.os, J.bare, J.base, J.hok, rv, q⟩
  cases fl with
  | ret u =>
    obtain ⟨v, σ', H', J, rv, q⟩ := hs
    exact fin J rv q
  | next =>
    obtain ⟨σ', H', J, q⟩ := hs
    exact fin (v := V.non) (u := Value.none) J rfl q
  | brk => exact hs.elim fun _ h => h.elim fun _ h => False.elim h.2
  | cont => exact hs.elim fun _ h => h.elim fun _ h => False.elim h.2
section
variable {X : Cx} {CX : CXT} {k : Nat} {f : Addr} {fd : FuncData} {ps : List Str} {sp : Addr × Obj → Sp} {E : St → XK} {x : Str} {q pos : Pos} {e : Expr} {es : List Expr} {t : TA}
/-- f(e, ..) there -/
theorem pe_callA {p : Addr × Obj} (F : FnA X.prog X.w X.K X.mg X.base CX k f fd ps sp) (hr : RoomH k X.A) (hot : Hot1 X.A p) (hp : p ∈ X.pn) (hg : Gl X x) (hm : X.mg x = some (.ref f)) (hk : PySem.W.keepIn X.K (.ref f) = true) (hb : Binds X.K fd ps []) (hx : ∀ σ, PassesAt CX X σ (E σ))
    (ha : PA X (e :: es) t) (hdb : (x == ("__debug__" : Str)) = false := by decide) (he : starEach (e :: es) X.env = (false, eval e X.env) :: starEach es X.env := by rfl) (hpl : (backTo pos (starEach es X.env)).any (·.1) = false := by rfl) :
    PE X (.Call (.Name x q) (e :: es) [] pos) (tCallS (sp p) E t) := by
  refine ⟨fun pins s σ H Q I h => ?_⟩
  refine wpAny_Call_Name_kw (ld_glob I hg hm ?_ hdb)
  refine PySem.W.callWith_K (h₀ := X.base) I.ok.mod.kin hk (thn (ha.run pos pins s σ H _ I h) fun us s1 ⟨vs, H1, I1, r, q⟩ => ⟨I1.kIn, ?_⟩) he hpl
  have hl : us.length = ps.length := by rw [← r.length]; exact F.len _ _ _ _ _ q
  have b := hb s1 us I1.kIn (by rw [List.append_nil]; exact hl)
  rw [List.append_nil] at b
  have P1 := I1.pin p (List.mem_append_left _ hp)
  have hpin : PinOk X.stack H1 s1 p := ⟨P1.1, P1.2.1, fun hm => (List.mem_cons.mp (I1.stkSub p.1 hm)).elim P1.2.2.1 P1.2.2.2.1, P1.2.2.2.2⟩
  refine wpAny_call (codeAny_mono (F.run X.A X.stack s1 H1 ⟨us, []⟩ us vs Q (E σ) p hr hot hpin I1.env0 b r q) fun r s' hq => ?_)
  cases r with
  | error e => exact hx σ pins H1 s1 e s' I1 hq
  | ok fl =>
    cases fl with
    | ret u => exact I1.after hq
    | next => exact False.elim hq
    | brk => exact False.elim hq
    | cont => exact False.elim hq
end
/-- isinstance(e, c), e an exception that is pinned -/
theorem call_isP {X : Cx} {a D : Addr} {oe : Obj} (hm : (a, oe) ∈ X.pn) (C : ExcC X.K D) (hz : Zc (.ref D) none oe) (hf : ∃ vs, oe.data = .fields vs) : CallR X (.builtin "isinstance") (rIsE X.K D a) := by
  intro pins s σ H xs us Q I r h
  obtain ⟨c, cv, b, rfl, hcv, e, q⟩ := h
  cases r with
  | cons rx rr =>
    cases rr with
    | cons rt rr =>
      cases rr
      cases rx
      have ec := hcv _ rt
      subst ec
      obtain ⟨hget, _⟩ := I.pin (a, oe) (List.mem_append.mpr (.inl hm))
      obtain ⟨vs, hv⟩ := hf
      have J : PySem.W.InstAt s.heap a oe D none := by
        obtain ⟨oc, od, oda, osl⟩ := oe
        obtain ⟨h1, h2⟩ := hz
        dsimp only at h1 h2 hv
        subst h1 h2 hv
        exact ⟨hget, rfl, rfl, trivial⟩
      exact PySem.W.kia_one (PySem.W.handS_kitx_exc C.hg C.hk C.hs C.hd C.ha C.hn C.ht C.hm) I.kIn J e (fun z => nomatch z) fun tk => ⟨.bl b, H, I.kept (t' := tk) fun _ _ z => z, rfl, q⟩
/-! ### a lambda without parameters handed to a def: what it raises bears no context -/
/-- the lambda's body's context -/
def lamN (X : Cx) (A : Around) (outer : List Env) (s : Shared) (H : Hp) (E : XK) (scope : Scope) (f c' : Addr) : Cx :=
  (LamX.lamCx X A outer s H E scope f c').tr [] fun e s' => wpAny (model X.prog X.w) (A.deeper (LamX.lamEnv X scope s.heap.objs.size f c')) (leaving (LamX.lamEnv X scope s.heap.objs.size f c') e) (fun _ s'' => L2N.CX X.prog X.w outer H s E e s'') (fun e' s'' => L2N.CX X.prog X.w outer H s E e' s'') s'
section
variable {X : Cx} {pins : List (Addr × Obj)} {σ : St} {H HZ : Hp} {s s1 : Shared}
/-- x(), in the def that got the lambda -/
theorem pe_actN {CXg : CXT} {Eg : XK} {Ng : List Str} {qg : Str} {sg : Scope} {g f c' : Addr} {cdg pm ctv : Value} {params : Arguments} {body : Expr} {scope : Scope} {k i : Nat} {a : Str} {pn : List (Addr × Obj)} {xe : Value → Shared → Prop} {W : WX} {E : XK} {tb : TE} {p1 p2 : Pos}
    (I : Inv X pins σ H s) (L : LamX.LamS X.env.scope scope) (hf : s.heap.get? f = some (PySem.W.kla_obj "<lambda>" (X.env.qual ++ "<lambda>") params body scope (cloFrom X.env.cells scope.names []) pm c' ctv)) (hfn : H f = none) (hfr : f ∉ frs X.stack)
    (hbind : bindArgs (PySem.W.kla_fn "<lambda>" (X.env.qual ++ "<lambda>") params body scope (cloFrom X.env.cells scope.names []) pm (.ref c') ctv) ⟨[], []⟩ = pure [])
    (tk : L2N.Takes ((cxOf CXg X.prog X.w X.K X.mg X.base Ng qg sg g cdg X.A X.stack s H Eg).tr pn xe) W) (hW : ∀ cls d σ' H', σ'.length = Ng.length → E cls d H' → W cls d σ' H') (hr : Room (k + 1) (X.A.deeper (envOfC qg sg s.heap.objs.size g cdg)))
    (hbody : ∀ (A : Around) (outer : List Env) (s : Shared) (H : Hp), Room k (A.deeper (LamX.lamEnv X scope s.heap.objs.size f c')) → PE (lamN X A outer s H E scope f c') body tb)
    (hN : Ng[i]? = some a) (hv : Vis sg a) (hd : (a == ("__debug__" : Str)) = false := by decide) (hcd : (a == ("__classdict__" : Str)) = false := by decide) :
    PE ((cxOf CXg X.prog X.w X.K X.mg X.base Ng qg sg g cdg X.A X.stack s H Eg).tr pn xe) (.Call (.Name a p1) [] [] p2)
      (fun σZ HZ Q => σZ[i]? = some (some (.ref f)) ∧ HZ c' = some (LamX.CodeO c' (X.env.qual ++ "<lambda>")) ∧ tb σ HZ Q) := by
  refine ⟨fun pinsZ sZ σZ HZ Q IZ h => ?_⟩
  obtain ⟨hs, hc, ht⟩ := h
  refine wpAny_Call_Name_kw (thn ((pe_var (pos := p1) (i := i) hN hv hd hcd).run pinsZ sZ σZ HZ (fun v H1 => v = .ref f ∧ H1 = HZ) IZ ⟨.ref f, hs, rfl, rfl⟩) fun u s1 ⟨v, H1, I1, r1, q1⟩ => ?_)
  obtain ⟨ev, eH⟩ := q1
  subst ev
  rw [eH] at I1
  obtain rfl : u = Value.ref f := r1
  have of1 : s1.heap.get? f = some (PySem.W.kla_obj "<lambda>" (X.env.qual ++ "<lambda>") params body scope (cloFrom X.env.cells scope.names []) pm c' ctv) := I1.base.keep f _ hf hfn hfr (fun z => nomatch (show f ∈ ([] : List Addr) from z))
  refine PySem.W.callWith_F0 ⟨_, _, _, _, of1⟩ ?_
  have un : Un (frs X.stack) [] H HZ s.heap s1.heap := I1.base
  obtain ⟨⟨oc, vs, t, hoc, hdc, hvc⟩, _, _⟩ := I1.hok c' _ hc
  have rc : codeAny (model X.prog X.w) (X.A.deeper (envOfC qg sg s.heap.objs.size g cdg)) (.call (.ref f) ⟨[], []⟩) (CR (L2N.CX X.prog X.w) (envOfC qg sg s.heap.objs.size g cdg :: X.stack) X.prog X.w HZ s1 Q E) s1 := by
    refine PySem.W.kla_callFunE hr.depth of1 rfl L.co L.gen rfl ⟨c', oc, vs, t, rfl, hoc, hdc, hvc⟩ ?_
    rw [hbind]
    refine wpAny_pure (wpAny_newFunctionEnv (fun y hy => (L.own y hy).2) (fun y hy => absurd hy (by simp)) (fun h₁ hns hsb => ⟨I1.nolimit.fresh _ hsb, ?_⟩) L.kind)
    show codeAny _ _ (.expr body (LamX.lamEnv X scope s1.heap.objs.size f c')) _ _
    have kp : ∀ b o, s1.heap.get? b = some o → h₁.get? b = some o := fun b o e => hsb.extBut b o (Nat.ne_of_lt (Heap.lt_size e)) (Heap.get?_push_of_some _ e)
    have J0 : Inv (LamX.lamCx X (X.A.deeper (envOfC qg sg s.heap.objs.size g cdg)) (envOfC qg sg s.heap.objs.size g cdg :: X.stack) s1 HZ E scope f c') [] σ HZ { s1 with heap := h₁, toks := s1.toks + ([] : List (Str × Value)).length } :=
      LamX.lam_start2 I L I1.env0 hr.hd un hns kp
    have J : Inv (lamN X (X.A.deeper (envOfC qg sg s.heap.objs.size g cdg)) (envOfC qg sg s.heap.objs.size g cdg :: X.stack) s1 HZ E scope f c') [] σ HZ { s1 with heap := h₁, toks := s1.toks + ([] : List (Str × Value)).length } :=
      J0.toTry _
    refine PySem.W.kla_codeExpr (wpAny_mono ((hbody _ _ s1 HZ (hr.deeper _)).run [] _ _ HZ Q J ht) (fun v s' hq => ?_) fun e s' hq => hq)
    obtain ⟨w', H', J', rv, q⟩ := hq
    exact ⟨w', H', J'.os, J'.bare, J'.base, J'.hok, rv, q⟩
  refine wpAny_call (codeAny_mono rc fun r s' hq => ?_)
  cases r with
  | error e => exact tk e s' (L2N.XE.of_call I1 (fun cls d H' z => hW cls d σZ H' I1.len z) hq)
  | ok fl =>
    cases fl with
    | ret u => exact I1.after hq
    | next => exact False.elim hq
    | brk => exact False.elim hq
    | cont => exact False.elim hq
end
/-- the def that calls what it got: a calls it; TT: what it makes of the lambda's reading -/
def Gives (X : Cx) (Ng : List Str) (x : Str) (sg : Scope) (g : Addr) (cdg : Value) (bg : List Stmt) (a : Str) (q : Str) (k : Nat) (TT : (XK → Hp → VK → Prop) → Hp → VK → Prop) : Prop :=
  ∀ (f c' : Addr) (s : Shared) (H : Hp) (Q : VK) (tl : XK → Hp → VK → Prop), Room k (X.A.deeper (envOfC x sg s.heap.objs.size g cdg)) →
    (∀ (W : WX) (pn : List (Addr × Obj)) (xe : Value → Shared → Prop) (E : XK) (p1 p2 : Pos), L2N.Takes ((cxOf CX0 X.prog X.w X.K X.mg X.base Ng x sg g cdg X.A X.stack s H E0).tr pn xe) W → (∀ cls d σ' H', σ'.length = Ng.length → E cls d H' → W cls d σ' H') →
      PE ((cxOf CX0 X.prog X.w X.K X.mg X.base Ng x sg g cdg X.A X.stack s H E0).tr pn xe) (.Call (.Name a p1) [] [] p2) (fun σZ HZ Q => σZ[0]? = some (some (.ref f)) ∧ HZ c' = some (LamX.CodeO c' q) ∧ tl E HZ Q)) →
    H c' = some (LamX.CodeO c' q) → TT tl H Q →
    ∃ t, PSs (cxOf CX0 X.prog X.w X.K X.mg X.base Ng x sg g cdg X.A X.stack s H E0).nox bg t ∧ t { nx := fun _ H' => Q .non H', rt := Q } (L2.start Ng [.ref f]) H
section
variable {X : Cx}
/-- x(lambda: body) -/
theorem pe_lamN {T : List (Addr × Str)} {TT : (XK → Hp → VK → Prop) → Hp → VK → Prop} {x a : Str} {g c P : Addr} {k : Nat} {st : Stmt} {fd : FuncData} {Ng : List Str}
    {params : Arguments} {body : Expr} {scope : Scope} {t : XK → TE} {p lpos pos : Pos} (F : Fun X.K x x st g fd) (hg : Gl X x) (hm : X.mg x = some (.ref g)) (hb : L2.Binds X.K fd [a] []) (Sg : FnScope Ng [a] (defScope st)) (hNg : Ng[0]? = some a) (hva : Vis (defScope st) a)
    (hG : ∀ cdv, Gives X Ng x (defScope st) g cdv (defBody st) a (X.env.qual ++ "<lambda>") (k + 1) TT)
    (TB : LamX.TabB X.base X.mg c P) (hcode : X.env.code = .ref c) (hmT : (P, X.env.qual ++ "<lambda>") ∈ T) (hu : ∀ p ∈ T, p.1 = P → p.2 = X.env.qual ++ "<lambda>") (hr : Room (k + 2) X.A) (L : LamX.LamS X.env.scope scope) (hdef : defaultsOf params X.env = ([], []))
    (hbind : ∀ (q : Str) (cl : List (Str × Addr)) (pm cv ctv : Value), bindArgs (PySem.W.kla_fn "<lambda>" q params body scope cl pm cv ctv) ⟨[], []⟩ = pure [])
    (hbody : ∀ (A : Around) (outer : List Env) (s : Shared) (H : Hp) (E : XK) (f c' : Addr), Room k (A.deeper (LamX.lamEnv X scope s.heap.objs.size f c')) → PE (lamN X A outer s H E scope f c') body (t E))
    (hdb : (x == ("__debug__" : Str)) = false := by decide) (hd : (a == ("__debug__" : Str)) = false := by decide) (hcd : (a == ("__classdict__" : Str)) = false := by decide) :
    PE X (.Call (.Name x p) [.Lambda params body scope lpos] [] pos) (LamX.tLam T TT t) := by
  obtain ⟨oc, od, kV, doc, pm, an, cdv, ct, osl, efd, lk, hcg⟩ := F.ex
  subst efd
  refine ⟨fun pins s σ H Q I h => ?_⟩
  obtain ⟨hT, h⟩ := h
  refine wpAny_Call_Name_kw (ld_glob I hg hm ?_ hdb)
  refine PySem.W.callWith_K (h₀ := X.base) I.ok.mod.kin F.kp ?_ (by rfl) (by rfl)
  show wpAny _ _ (spliced ((false, eval (.Lambda params body scope lpos) X.env) :: backTo pos (starEach [] X.env))) _ _ s
  refine Calls.spliced_cons (LamX.lam_make2 I TB hcode hmT hu hT hdef (L.has I.ok) fun f c' pm' ctv H1 s' I1 eN T1 hf hfn hfr hco => ?_)
  refine Calls.spliced_nil ⟨I1.kIn, ?_⟩
  have rc : codeAny (model X.prog X.w) X.A (.call (.ref g) ⟨[.ref f], []⟩) (CR CX0 X.stack X.prog X.w H1 s' Q E0) s' := by
    refine LamX.run_ofS (N := Ng) (ps := [a]) (us := [.ref f]) (vs := [.ref f]) lk hcg Sg hr I1.env0 (hb s' [.ref f] I1.kIn rfl) (.cons rfl .nil) rfl fun hr' => ?_
    obtain ⟨t', ht', hq'⟩ := hG cdv f c' s' H1 Q (fun E H' Q' => t E σ H' Q') hr' (fun W pn xe E p1 p2 tk hW => pe_actN (i := 0) I1 L hf hfn hfr (hbind _ _ _ _ _) tk hW hr' (fun A outer s H hr2 => hbody A outer s H E f c' hr2) hNg hva hd hcd) hco (h H1 eN T1)
    exact ⟨t', ht'.nox, hq'⟩
  refine wpAny_call (codeAny_mono rc fun r s2 hq => ?_)
  cases r with
  | error e => exact (show False from hq).elim
  | ok fl =>
    cases fl with
    | ret u => exact I1.after hq
    | next => exact False.elim hq
    | brk => exact False.elim hq
    | cont => exact False.elim hq
theorem takesN0 {X : Cx} : L2N.Takes X (fun _ _ _ _ => False) := fun _ _ x => by
  obtain ⟨_, _, _, _, _, _, _, _, _, _, _, _, _, _, _, _, z⟩ := x
  exact z.elim
/-- told: try: return a() / except e as n: return y(n) -/
def TTold (K : PySem.W.Frag) (CS : Addr) (sp : Addr × Obj → Sp) : (XK → Hp → VK → Prop) → Hp → VK → Prop := fun tl H Q =>
  tl (fun cls d H' => ∃ b, PySem.W.exmOne K cls (.ref CS) = some b ∧ (b = true → ∀ (a : Addr) (oe : Obj), L2N.Zn cls d oe → (∃ vs, oe.data = .fields vs) → H' a = none → sp (a, oe) [.ref a] H' Q E0) ∧ (b = false → False)) H Q
theorem told_gives {x a e n y q : Str} {sg : Scope} {g CS fy : Addr} {cdg : Value} {fdy : FuncData} {py : Str} {sp : Addr × Obj → Sp} {j k : Nat} {p1 p2 p3 p4 p5 p6 p7 p8 p9 p10 : Pos}
    (hN : ([a, n] : List Str).Nodup) (hge : sg.names.lookup e = some .globalImplicit) (hme : X.mg e = some (.ref CS)) (hde : (e == ("__debug__" : Str)) = false) (hln : sg.names.lookup n = some .local)
    (hgy : sg.names.lookup y = some .globalImplicit) (hmy : X.mg y = some (.ref fy)) (hdy : (y == ("__debug__" : Str)) = false) (hdn : (n == ("__debug__" : Str)) = false) (hdc : (n == ("__classdict__" : Str)) = false)
    (hjk : j ≤ k) (Fy : ∀ base, FnA X.prog X.w X.K X.mg base CX0 j fy fdy [py] sp) (ky : PySem.W.keepIn X.K (.ref fy) = true) (by_ : Binds X.K fdy [py] []) :
    Gives X [a, n] x sg g cdg [.Try [.Return (some (.Call (.Name a p1) [] [] p2)) p3] [.ExceptHandler (some (.Name e p4)) (some n) [.Return (some (.Call (.Name y p9) [.Name n p5] [] p10)) p6] p7] [] [] p8] a q k (TTold X.K CS sp) := by
  intro f c' s H Q tl hr act hc h
  have hgl : Gl (cxOf CX0 X.prog X.w X.K X.mg X.base [a, n] x sg g cdg X.A X.stack s H E0).nox e := hge
  refine ⟨_, pss_one (L2N.ps_try_as (i := 1) (X := (cxOf CX0 X.prog X.w X.K X.mg X.base [a, n] x sg g cdg X.A X.stack s H E0).nox) (c := .ref CS)
      (tb := fun W D σ H => ∃ Ech : XK, (∀ cls d σ' H', σ'.length = 2 → Ech cls d H' → W cls d σ' H') ∧ σ[0]? = some (some (.ref f)) ∧ H c' = some (LamX.CodeO c' q) ∧ tl Ech H D.rt)
      (ts := fun a cls d D σ H => σ[1]? = some (some (.ref a)) ∧ ∀ oe, L2N.Zn cls d oe → (∃ vs, oe.data = .fields vs) → sp (a, oe) [.ref a] H D.rt E0)
      rfl rfl hN rfl hln ⟨hgl, hde, .inl hme⟩ takesN0 (fun W pn xe tk _ => ?_) (fun ax oe cls d pn hz hf => ?_)), ?_⟩
  · refine ⟨fun pins s' σ H' D I h' => ?_⟩
    obtain ⟨Ech, hW, h1, h2, h3⟩ := h'
    have hp := act W pn xe Ech p1 p2 tk hW
    have hq := pss_one (ps_ret (pos := p3) hp)
    exact hq.run pins s' σ H' D I ⟨h1, h2, h3⟩
  · refine ⟨fun pins s' σ H' D I h' => ?_⟩
    obtain ⟨h1, h2⟩ := h'
    obtain ⟨vs, hv⟩ := id hf
    have hot : Hot1 ((cxOf CX0 X.prog X.w X.K X.mg X.base [a, n] x sg g cdg X.A X.stack s H E0).nox.suite ax ((ax, oe) :: pn)).A (ax, oe) := ⟨rfl, vs, hv, hz.2.2 vs hv⟩
    have hp := pe_callA (X := (cxOf CX0 X.prog X.w X.K X.mg X.base [a, n] x sg g cdg X.A X.stack s H E0).nox.suite ax ((ax, oe) :: pn)) (E := fun _ => E0) (pos := p10) (q := p9) (Fy X.base) (RoomH.mono (k := k) ⟨hr.dp, hr.un⟩ hjk) hot List.mem_cons_self hgy hmy ky by_ (fun σ _ _ _ _ _ _ z => z.elim) (pa_cons (pe_var (i := 1) (pos := p5) rfl (.inl hln) hdn hdc) pa_nil) hdy
    have hq := pss_one (ps_ret (pos := p6) hp)
    refine hq.run pins s' σ H' D I ⟨_, h1, h2 oe hz hf⟩
  · refine ⟨fun cls d H' => ∃ b, PySem.W.exmOne X.K cls (.ref CS) = some b ∧ (b = true → ∀ (a : Addr) (oe : Obj), L2N.Zn cls d oe → (∃ vs, oe.data = .fields vs) → H' a = none → sp (a, oe) [.ref a] H' Q E0) ∧ (b = false → False), fun cls d σ' H' hl hh => ?_, rfl, hc, h⟩
    obtain ⟨b, e1, e2, e3⟩ := hh
    refine ⟨b, e1, fun hb a ha => ⟨?_, fun oe z1 z2 => e2 hb a oe z1 z2 ha⟩, fun hb => e3 hb⟩
    rw [List.getElem?_set_self (by omega)]
end
end NM

namespace NM
open PySem PySem.Spec PyProof.Rows L2 HotX L2H
/-! ### defs of the text -/
section
variable {P : Program} {w : World} {K : PySem.W.Frag} {mg : Str → Option Value} {base : Heap}
/-- a def that may raise; what it raises bears no context -/
theorem okN {x qual : Str} {st : Stmt} {f : Addr} {fd : FuncData} {N ps : List Str} {k : Nat} {sp : Sp} (F : Fun K x qual st f fd) (S : FnScope N ps (defScope st)) (len : ∀ vs H Q E, sp vs H Q E → vs.length = ps.length)
    (hbody : ∀ (cdv : Value) (A : Around) (outer : List Env) (s : Shared) (H : Hp) (vs : List V) (Q : VK) (E : XK), Room k (A.deeper (envOfC qual (defScope st) s.heap.objs.size f cdv)) → sp vs H Q E →
      ∃ t, PSs (cxOf (L2N.CX P w) P w K mg base N qual (defScope st) f cdv A outer s H E) (defBody st) t ∧ t { nx := fun _ H' => Q .non H', rt := Q } (L2.start N vs) H) : FnOk P w K mg base (L2N.CX P w) (k + 1) f fd ps sp := by
  obtain ⟨oc, od, kV, doc, pm, an, cdv, ct, osl, rfl, lk, hcd⟩ := F.ex
  exact fn_of lk hcd S len fun A outer s H vs Q E hr hsp => hbody cdv A outer s H vs Q E hr hsp
/-- a def whose code object stands at c -/
structure FunC (K : PySem.W.Frag) (x qual : Str) (st : Stmt) (f : Addr) (fd : FuncData) (c : Addr) : Prop where
  ex : ∃ (oc : Value) (od : Option Addr) (kV doc pm : Value) (an : Option Addr) (ct : Value) (osl : Array (Option Value)),
    fd = PySem.W.fnOf x qual (defArgs st) (defBody st) (defScope st) .none kV doc pm an (.ref c) ct ∧ K.lookup f = some ⟨oc, od, .func fd, osl⟩ ∧ PySem.W.codeIn K (.ref c) qual = true
theorem FunC.ok {x qual : Str} {st : Stmt} {f c : Addr} {fd : FuncData} {N ps : List Str} {k : Nat} {sp : Sp} (F : FunC K x qual st f fd c) (S : FnScope N ps (defScope st)) (len : ∀ vs H Q E, sp vs H Q E → vs.length = ps.length)
    (hbody : ∀ (A : Around) (outer : List Env) (s : Shared) (H : Hp) (vs : List V) (Q : VK) (E : XK), Room k (A.deeper (envOfC qual (defScope st) s.heap.objs.size f (.ref c))) → sp vs H Q E →
      ∃ t, PSs (cxOf CX0 P w K mg base N qual (defScope st) f (.ref c) A outer s H E).nox (defBody st) t ∧ t { nx := fun _ H' => Q .non H', rt := Q } (L2.start N vs) H) : FnOk P w K mg base CX0 (k + 1) f fd ps sp := by
  obtain ⟨oc, od, kV, doc, pm, an, ct, osl, rfl, lk, hcd⟩ := F.ex
  exact fn_of lk hcd S len fun A outer s H vs Q E hr hsp => by
    obtain ⟨t, h1, h2⟩ := hbody A outer s H vs Q E hr hsp
    exact ⟨t, h1.nox, h2⟩
theorem passN0 {X : Cx} : Passes (L2N.CX X.prog X.w) X E0 := fun _ _ _ _ _ _ _ h => by
  obtain ⟨_, _, _, _, _, _, _, _, _, _, _, _, z⟩ := h
  exact z.elim
theorem same_upd {H : Hp} {p : Addr} {o : HO} (h : H p = none) : Same H (upd H p o) := fun b x e => by
  rw [upd_ne (ne_of_none e h)]
  exact e
theorem Same.at {H H' : Hp} (s : Same H H') {a : Addr} {o : HO} (h : H a = some o) : H' a = some o := s a o h
theorem sameT {K : PySem.W.Frag} {H H' : Hp} {a : Addr} {xs : List V} (e : Same H H') (h : SqT K H a xs) : SqT K H' a xs := by
  rcases h with (h | ⟨o, h⟩) | h
  · exact .inl (.inl (e _ _ h))
  · exact .inl (.inr ⟨o, e _ _ h⟩)
  · exact .inr h
theorem sqT {K : PySem.W.Frag} {H : Hp} {a : Addr} {xs : List V} (h : H a = some (.tup xs)) : SqT K H a xs := .inl (.inl h)
theorem sqL {K : PySem.W.Frag} {H : Hp} {a : Addr} {xs : List V} (h : H a = some (.lst xs)) : SqL K H a xs := .inl (.inl h)
end
/-! ### values that a def may look at: flat ones, and tuples and lists that are tracked -/
def Dat (H : Hp) : V → Prop
  | .non => True
  | .bl _ => True
  | .int _ => True
  | .str _ => True
  | .ref a => (∃ xs, H a = some (.tup xs)) ∨ ∃ xs, H a = some (.lst xs)
  | _ => False
theorem Dat.same {H H' : Hp} {v : V} (d : Dat H v) (s : Same H H') : Dat H' v := by
  cases v with
  | ref a => exact d.elim (fun ⟨xs, e⟩ => .inl ⟨xs, s _ _ e⟩) (fun ⟨xs, e⟩ => .inr ⟨xs, s _ _ e⟩)
  | non => trivial
  | bl _ => trivial
  | int _ => trivial
  | str _ => trivial
  | byt _ => exact d.elim
  | flt _ => exact d.elim
  | ty _ => exact d.elim
/-- its type's name -/
def tyN (H : Hp) : V → String
  | .non => "NoneType"
  | .bl _ => "bool"
  | .int _ => "int"
  | .str _ => "str"
  | .ref a => match H a with
    | some (.tup _) => "tuple"
    | _ => "list"
  | _ => "?"
theorem Dat.ty {K : PySem.W.Frag} {H : Hp} {v : V} (d : Dat H v) : TyX K H v (.type (tyN H v)) := by
  cases v with
  | ref a =>
    rcases d with ⟨xs, e⟩ | ⟨xs, e⟩
    · have : tyN H (.ref a) = "tuple" := by simp [tyN, e]
      rw [this]; exact .base (.tup e)
    · have : tyN H (.ref a) = "list" := by simp [tyN, e]
      rw [this]; exact .base (.lst e)
  | non => exact .base .non
  | bl b => exact .base (.bl b)
  | int i => exact .base (.int i)
  | str x => exact .base (.str x)
  | byt _ => exact d.elim
  | flt _ => exact d.elim
  | ty _ => exact d.elim
theorem tyN_cases {H : Hp} {v : V} (d : Dat H v) : (v = .non ∧ tyN H v = "NoneType") ∨ (∃ b, v = .bl b ∧ tyN H v = "bool") ∨ (∃ i, v = .int i ∧ tyN H v = "int") ∨ (∃ x, v = .str x ∧ tyN H v = "str") ∨ (∃ a xs, v = .ref a ∧ H a = some (.tup xs) ∧ tyN H v = "tuple") ∨ (∃ a xs, v = .ref a ∧ H a = some (.lst xs) ∧ tyN H v = "list") := by
  cases v with
  | ref a =>
    rcases d with ⟨xs, e⟩ | ⟨xs, e⟩
    · exact .inr (.inr (.inr (.inr (.inl ⟨a, xs, rfl, e, by simp [tyN, e]⟩))))
    · exact .inr (.inr (.inr (.inr (.inr ⟨a, xs, rfl, e, by simp [tyN, e]⟩))))
  | non => exact .inl ⟨rfl, rfl⟩
  | bl b => exact .inr (.inl ⟨b, rfl, rfl⟩)
  | int i => exact .inr (.inr (.inl ⟨i, rfl, rfl⟩))
  | str x => exact .inr (.inr (.inr (.inl ⟨x, rfl, rfl⟩)))
  | byt _ => exact d.elim
  | flt _ => exact d.elim
  | ty _ => exact d.elim
end NM
namespace NM
open PySem PySem.Spec PyProof.Rows L2 HotX L2H
/-! ### facts of the written part that are put together -/
theorem kit_yes {K : PySem.W.Frag} {D : Addr} : PySem.W.kitOne K (.ref D) (.ref D) = some true := by
  unfold PySem.W.kitOne
  rw [if_pos (beq_self_eq_true _)]
theorem kit_no {K : PySem.W.Frag} {D C : Addr} (hn : D ≠ C) (h1 : PySem.W.isClsIn K C = true) (h2 : PySem.W.typeIn K (.ref C) = some (.type "type")) (h3 : PySem.W.subIn K (.ref D) (.ref C) = some false) : PySem.W.kitOne K (.ref D) (.ref C) = some false := by
  unfold PySem.W.kitOne
  rw [if_neg (by intro e; exact hn (Value.ref.inj (beq_iff_eq.mp e)))]
  show (if ((PySem.W.clsIn K C).isSome && PySem.W.typeIn K (.ref C) == some (.type "type")) = true then PySem.W.subIn K (.ref D) (.ref C) else none) = some false
  have h1' : (PySem.W.clsIn K C).isSome = true := h1
  rw [h1', h2, if_pos (by rfl)]
  exact h3
theorem kit_VE {K : PySem.W.Frag} {D : Addr} (h : PySem.W.subIn K (.ref D) (.type "ValueError") = some true) : PySem.W.kitOne K (.ref D) (.type "ValueError") = some true := by
  unfold PySem.W.kitOne
  rw [if_neg (by intro e; cases (beq_iff_eq.mp e))]
  show (if PySem.W.kitMeta "ValueError" = true then PySem.W.subIn K (.ref D) (.type "ValueError") else none) = some true
  rw [if_pos (by decide +kernel)]
  exact h
/-- what a code object's fields tell of its table -/
def codeHdV (vs : Array Value) (c P : Addr) : Bool := (match (vs[11]? : Option Value) with | some (.ref P') => P' == P | _ => false) &&
      (match vs.getD 18 .none with | .str _ _ => true | _ => false) && (match vs.getD 7 .none with | .int _ _ => true | _ => false) &&
      (match vs.getD 9 .none with | .bool _ => true | _ => false) && (match vs.getD 10 .none with | .int _ _ => true | _ => false) && c != P
theorem hd_of {K : PySem.W.Frag} {c P : Addr} {od : Option Addr} {vs : Array Value} {sl : Array (Option Value)} (l : K.lookup c = some ⟨.type "code", od, .fields vs, sl⟩) (h : codeHdV vs c P = true) : PySem.W.codeHdIn K c P = true := by
  unfold PySem.W.codeHdIn
  rw [l]
  exact h
end NM

namespace NM
open PySem PySem.Spec PyProof.Rows L2 HotX L2H
/-! ### what is walked, as a list of values: it stands wherever ok does -/
structure Enum (J : It) (ok : Hp → Prop) (xs : List V) : Prop where
  go : ∀ i H, ok H → i < xs.length → J.go i H
  yld : ∀ i H x H', ok H → i < xs.length → J.yld i H x H' → H' = H ∧ xs[i]? = some x
  stop : ∀ i H, ok H → xs.length ≤ i → J.stop i H
theorem enum_list {K : PySem.W.Frag} {a : Addr} {xs : List V} : Enum (Itl K a) (fun H => SqL K H a xs) xs where
  go := fun i H ok hi => ⟨xs, xs[i], ok, by simp [hi]⟩
  yld := fun i H x H' ok _ y => ⟨y.1, y.2 xs ok⟩
  stop := fun i H ok hi => ⟨xs, ok, hi⟩
theorem enum_tup {K : PySem.W.Frag} {a : Addr} {xs : List V} : Enum (Itt K a) (fun H => SqT K H a xs) xs where
  go := fun i H ok hi => ⟨xs, xs[i], ok, by simp [hi]⟩
  yld := fun i H x H' ok _ y => ⟨y.1, y.2 xs ok⟩
  stop := fun i H ok hi => ⟨xs, ok, hi⟩
def rangeV (lo : Int) (n : Nat) : List V := (List.range n).map fun i => V.int (lo + (i : Nat))
theorem rangeV_len (lo : Int) (n : Nat) : (rangeV lo n).length = n := by simp [rangeV]
theorem rangeV_get {lo : Int} {n i : Nat} (h : i < n) : (rangeV lo n)[i]? = some (.int (lo + (i : Nat))) := by simp [rangeV, h]
theorem enum_range {lo : Int} {n : Nat} : Enum (Itr lo n) (fun _ => True) (rangeV lo n) where
  go := fun i H _ hi => by rw [rangeV_len] at hi; exact hi
  yld := fun i H x H' _ hi y => ⟨y.1, by
    obtain ⟨_, rfl⟩ := y
    rw [rangeV_len] at hi
    exact rangeV_get hi⟩
  stop := fun i H _ hi => by rw [rangeV_len] at hi; exact hi
def signsV (x : Str) : List V := x.cps.toList.map fun c => V.str ⟨#[c]⟩
theorem signsV_len (x : Str) : (signsV x).length = x.cps.size := by simp [signsV]
theorem enum_str {x : Str} : Enum (Its x) (fun _ => True) (signsV x) where
  go := fun i H _ hi => by rw [signsV_len] at hi; exact hi
  yld := fun i H v H' _ hi y => ⟨y.1, by
    obtain ⟨_, c, e, rfl⟩ := y
    simp only [signsV, List.getElem?_map, Array.getElem?_toList, e, Option.map_some]⟩
  stop := fun i H _ hi => by rw [signsV_len] at hi; exact hi
theorem enum_keys {d : Addr} {o : Obj} {kvs : List (Key × V)} : Enum (Itk d o kvs) (fun H => H d = some (.frz o (.dK kvs))) (kvs.map fun kv => kV kv.1) where
  go := fun i H ok hi => ⟨ok, by simpa using hi⟩
  yld := fun i H v H' _ hi y => ⟨y.1, by
    obtain ⟨_, k, w, e, rfl⟩ := y
    simp only [List.getElem?_map, e, Option.map_some]⟩
  stop := fun i H ok hi => ⟨ok, by simpa using hi⟩
/-- a for over what is walked -/
theorem for_enum {J : It} {ok : Hp → Prop} {xs : List V} (en : Enum J ok xs) {g : TG} {tb : TS} {D : Ends} {σ : St} {H : Hp} (Pv : Nat → St → Hp → Prop) (h0 : Pv 0 σ H) (hl : ∀ i σ H, i ≤ xs.length → Pv i σ H → ok H)
    (hs : ∀ i x σ H, xs[i]? = some x → Pv i σ H → g x σ H fun σ2 H2 => tb { D with nx := Pv (i + 1), ct := Pv (i + 1), bk := D.nx } σ2 H2) (hd : ∀ σ H, Pv xs.length σ H → D.nx σ H) :
    ∃ W : Nat → Nat → St → Hp → Prop, (∃ m, W 0 m σ H) ∧ ∀ i m σ H, W i m σ H →
      (J.stop i H ∧ D.nx σ H) ∨ (J.go i H ∧ ∃ N : St → Hp → Prop, (∀ σ' H', N σ' H' → ∃ m', m' < m ∧ W (i + 1) m' σ' H') ∧ ∀ x H', J.yld i H x H' → g x σ H' fun σ2 H2 => tb { D with nx := N, ct := N, bk := D.nx } σ2 H2) := by
  refine ⟨fun i m σ H => m = xs.length - i ∧ i ≤ xs.length ∧ Pv i σ H, ⟨xs.length, by simp, Nat.zero_le _, h0⟩, ?_⟩
  rintro i m σ H ⟨rfl, hi, p⟩
  have q := hl i σ H hi p
  by_cases hlt : i < xs.length
  · refine .inr ⟨en.go i H q hlt, Pv (i + 1), fun σ' H' p' => ⟨xs.length - (i + 1), by omega, rfl, hlt, p'⟩, fun x H' y => ?_⟩
    obtain ⟨e, ex⟩ := en.yld i H x H' q hlt y
    subst e
    exact hs i x σ _ ex p
  · have e : i = xs.length := by omega
    subst e
    exact .inl ⟨en.stop _ H q (Nat.le_refl _), hd σ H p⟩
/-- what stands but for one thing stands -/
def SameX (D : Addr) (H H' : Hp) : Prop := ∀ b o, b ≠ D → H b = some o → H' b = some o
theorem wipe_set {σ : St} {j : Nat} {v : Option V} : wipe ((wipe σ [j]).set j v) [j] = wipe σ [j] := by
  simp [wipe, List.set_set]
theorem paired_snoc {α β : Type} {F : α → β → Prop} {a : α} {b : β} : ∀ {l : List α} {m : List β}, Paired F l m → F a b → Paired F (l ++ [a]) (m ++ [b])
  | _, _, .nil, h => .cons h .nil
  | _, _, .cons r t, h => .cons r (paired_snoc t h)
/-- a comprehension over what is walked, its elements told by a relation that lasts -/
theorem lc_rel {J : It} {ok : Hp → Prop} {xs : List V} (en : Enum J ok xs) {j : Nat} {tt : TT} {te : TE} {σ : St} {H1 : Hp} {Q : Addr → Hp → Prop} (p : V → Bool) (R : V → V → Hp → Prop)
    (hok : ∀ D H, H1 D = none → SameX D H1 H → ok H) (hlen : xs.length < sizeLine)
    (hR : ∀ x y H H' D, H1 D = none → R x y H → (∀ b o, H b = some o → b ≠ D → H' b = some o) → (∃ l, H D = some (.lst l)) → R x y H')
    (turn : ∀ (i : Nat) (x : V) (H : Hp) (Cy : VK) (Cn : Hp → Prop), xs[i]? = some x → Same H1 H → (∀ y H', Same H H' → p x = true → R x y H' → Cy y H') → (∀ H', Same H H' → p x = false → Cn H') →
      tt ((wipe σ [j]).set j (some x)) H fun b H3 => if b = true then te ((wipe σ [j]).set j (some x)) H3 Cy else Cn H3)
    (done : ∀ D H ys, H1 D = none → Same H1 H → H D = some (.lst ys) → Paired (fun x y => R x y H) (xs.filter p) ys → Q D H) :
    ∀ D, H1 D = none → ∃ W : Nat → Nat → Hp → Prop, (∃ m, W 0 m (upd H1 D (.lst []))) ∧ ∀ i m H, W i m H →
      (J.stop i H ∧ Q D H) ∨ (J.go i H ∧ ∃ Nx : Hp → Prop, (∀ H', Nx H' → ∃ m', m' < m ∧ W (i + 1) m' H') ∧ ∀ x H', J.yld i H x H' → gName j x (wipe σ [j]) H' fun σ2 H2 => wipe σ2 [j] = wipe σ [j] ∧ tt σ2 H2 fun b H3 =>
        if b = true then te σ2 H3 fun y H4 => ∃ acc, H4 D = some (.lst acc) ∧ acc.length < sizeLine ∧ Nx (upd H4 D (.lst (acc ++ [y]))) else Nx H3) := by
  intro D nD
  let Pv : Nat → Hp → Prop := fun i H => Same H1 H ∧ ∃ ys, H D = some (.lst ys) ∧ ys.length ≤ i ∧ Paired (fun x y => R x y H) ((xs.take i).filter p) ys
  have sm0 : Same H1 (upd H1 D (.lst [])) := fun b o e => by rw [upd_ne (ne_of_none e nD)]; exact e
  refine ⟨fun i m H => m = xs.length - i ∧ i ≤ xs.length ∧ Pv i H, ⟨xs.length, by simp, Nat.zero_le _, sm0, [], upd_same, Nat.le_refl _, by simp; exact .nil⟩, ?_⟩
  rintro i m H ⟨rfl, hi, sm, ys, hD, hy, pr⟩
  have okH : ok H := hok D H nD fun b o _ e => sm b o e
  by_cases hlt : i < xs.length
  · refine .inr ⟨en.go i H okH hlt, Pv (i + 1), fun H' p' => ⟨xs.length - (i + 1), by omega, rfl, hlt, p'⟩, fun x H' y => ?_⟩
    obtain ⟨e, ex⟩ := en.yld i H x H' okH hlt y
    subst e
    have et : xs.take (i + 1) = xs.take i ++ [x] := by rw [List.take_add_one, ex]; rfl
    refine ⟨wipe_set, ?_⟩
    refine turn i x H' _ _ ex sm (fun y H4 s4 hp ry => ?_) fun H3 s3 hp => ?_
    · have hD4 := s4 _ _ hD
      refine ⟨ys, hD4, by omega, fun b o e => ?_, ys ++ [y], upd_same, by rw [List.length_append]; simp; omega, ?_⟩
      · rw [upd_ne (ne_of_none e nD)]
        exact s4 _ _ (sm _ _ e)
      · rw [et, List.filter_append]
        have e1 : [x].filter p = [x] := by simp [hp]
        rw [e1]
        have k4 : ∀ b o, H4 b = some o → b ≠ D → (upd H4 D (.lst (ys ++ [y]))) b = some o := fun b o e n => by rw [upd_ne n]; exact e
        have kH : ∀ b o, H' b = some o → b ≠ D → (upd H4 D (.lst (ys ++ [y]))) b = some o := fun b o e n => k4 b o (s4 _ _ e) n
        exact paired_snoc (Paired.mapP pr fun a b r => hR a b _ _ D nD r kH ⟨_, hD⟩) (hR x y _ _ D nD ry k4 ⟨_, hD4⟩)
    · refine ⟨fun b o e => s3 _ _ (sm _ _ e), ys, s3 _ _ hD, by omega, ?_⟩
      rw [et, List.filter_append]
      have e1 : [x].filter p = [] := by simp [hp]
      rw [e1, List.append_nil]
      exact Paired.mapP pr fun a b r => hR a b _ _ D nD r (fun b o e n => s3 _ _ e) ⟨_, hD⟩
  · have e : i = xs.length := by omega
    subst e
    rw [List.take_length] at pr
    exact .inl ⟨en.stop _ H okH (Nat.le_refl _), done D H ys nD sm hD pr⟩
theorem paired_map {α β : Type} {f : α → β} : ∀ {l : List α} {m : List β}, Paired (fun x y => y = f x) l m → m = l.map f
  | _, _, .nil => rfl
  | _, _, .cons r t => by rw [List.map_cons, ← r, ← paired_map t]
theorem paired_len {α β : Type} {F : α → β → Prop} : ∀ {l : List α} {m : List β}, Paired F l m → l.length = m.length
  | _, _, .nil => rfl
  | _, _, .cons _ t => by rw [List.length_cons, List.length_cons, paired_len t]
/-- .. its elements values that lean on no heap -/
theorem lc_fun {J : It} {ok : Hp → Prop} {xs : List V} (en : Enum J ok xs) {j : Nat} {tt : TT} {te : TE} {σ : St} {H1 : Hp} {Q : Addr → Hp → Prop} (p : V → Bool) (f : V → V)
    (hok : ∀ D H, H1 D = none → SameX D H1 H → ok H) (hlen : xs.length < sizeLine)
    (turn : ∀ (i : Nat) (x : V) (H : Hp) (Cy : VK) (Cn : Hp → Prop), xs[i]? = some x → Same H1 H → (∀ H', Same H H' → p x = true → Cy (f x) H') → (∀ H', Same H H' → p x = false → Cn H') →
      tt ((wipe σ [j]).set j (some x)) H fun b H3 => if b = true then te ((wipe σ [j]).set j (some x)) H3 Cy else Cn H3)
    (done : ∀ D H, H1 D = none → Same H1 H → H D = some (.lst ((xs.filter p).map f)) → Q D H) :
    ∀ D, H1 D = none → ∃ W : Nat → Nat → Hp → Prop, (∃ m, W 0 m (upd H1 D (.lst []))) ∧ ∀ i m H, W i m H →
      (J.stop i H ∧ Q D H) ∨ (J.go i H ∧ ∃ Nx : Hp → Prop, (∀ H', Nx H' → ∃ m', m' < m ∧ W (i + 1) m' H') ∧ ∀ x H', J.yld i H x H' → gName j x (wipe σ [j]) H' fun σ2 H2 => wipe σ2 [j] = wipe σ [j] ∧ tt σ2 H2 fun b H3 =>
        if b = true then te σ2 H3 fun y H4 => ∃ acc, H4 D = some (.lst acc) ∧ acc.length < sizeLine ∧ Nx (upd H4 D (.lst (acc ++ [y]))) else Nx H3) :=
  lc_rel en p (fun x y _ => y = f x) hok hlen (fun _ _ _ _ _ _ h _ _ => h) (fun i x H Cy Cn ex sm h1 h2 => turn i x H Cy Cn ex sm (fun H' s hp => h1 _ H' s hp rfl) h2) fun D H ys nD sm hD pr => by
    have e : ys = (xs.filter p).map f := paired_map pr
    rw [e] at hD
    exact done D H nD sm hD
/-- .. without a test -/
theorem lc_mapR {J : It} {ok : Hp → Prop} {xs : List V} (en : Enum J ok xs) {j : Nat} {te : TE} {σ : St} {H1 : Hp} {Q : Addr → Hp → Prop} (R : V → V → Hp → Prop)
    (hok : ∀ D H, H1 D = none → SameX D H1 H → ok H) (hlen : xs.length < sizeLine)
    (hR : ∀ x y H H' D, H1 D = none → R x y H → (∀ b o, H b = some o → b ≠ D → H' b = some o) → (∃ l, H D = some (.lst l)) → R x y H')
    (turn : ∀ (i : Nat) (x : V) (H : Hp) (Cy : VK), xs[i]? = some x → Same H1 H → (∀ y H', Same H H' → R x y H' → Cy y H') → te ((wipe σ [j]).set j (some x)) H Cy)
    (done : ∀ D H ys, H1 D = none → Same H1 H → H D = some (.lst ys) → Paired (fun x y => R x y H) xs ys → Q D H) :
    ∀ D, H1 D = none → ∃ W : Nat → Nat → Hp → Prop, (∃ m, W 0 m (upd H1 D (.lst []))) ∧ ∀ i m H, W i m H →
      (J.stop i H ∧ Q D H) ∨ (J.go i H ∧ ∃ Nx : Hp → Prop, (∀ H', Nx H' → ∃ m', m' < m ∧ W (i + 1) m' H') ∧ ∀ x H', J.yld i H x H' → gName j x (wipe σ [j]) H' fun σ2 H2 => wipe σ2 [j] = wipe σ [j] ∧ tYes σ2 H2 fun b H3 =>
        if b = true then te σ2 H3 fun y H4 => ∃ acc, H4 D = some (.lst acc) ∧ acc.length < sizeLine ∧ Nx (upd H4 D (.lst (acc ++ [y]))) else Nx H3) :=
  lc_rel en (fun _ => true) R hok hlen hR (fun i x H Cy Cn ex sm h1 _ => by
      show if true = true then te ((wipe σ [j]).set j (some x)) H Cy else Cn H
      rw [if_pos rfl]
      exact turn i x H Cy ex sm fun y H' s r => h1 y H' s rfl r) fun D H ys nD sm hD pr => done D H ys nD sm hD (by
    rw [List.filter_eq_self.mpr (fun _ _ => rfl)] at pr
    exact pr)
theorem lc_map {J : It} {ok : Hp → Prop} {xs : List V} (en : Enum J ok xs) {j : Nat} {te : TE} {σ : St} {H1 : Hp} {Q : Addr → Hp → Prop} (f : V → V)
    (hok : ∀ D H, H1 D = none → SameX D H1 H → ok H) (hlen : xs.length < sizeLine)
    (turn : ∀ (i : Nat) (x : V) (H : Hp) (Cy : VK), xs[i]? = some x → Same H1 H → (∀ H', Same H H' → Cy (f x) H') → te ((wipe σ [j]).set j (some x)) H Cy)
    (done : ∀ D H, H1 D = none → Same H1 H → H D = some (.lst (xs.map f)) → Q D H) :
    ∀ D, H1 D = none → ∃ W : Nat → Nat → Hp → Prop, (∃ m, W 0 m (upd H1 D (.lst []))) ∧ ∀ i m H, W i m H →
      (J.stop i H ∧ Q D H) ∨ (J.go i H ∧ ∃ Nx : Hp → Prop, (∀ H', Nx H' → ∃ m', m' < m ∧ W (i + 1) m' H') ∧ ∀ x H', J.yld i H x H' → gName j x (wipe σ [j]) H' fun σ2 H2 => wipe σ2 [j] = wipe σ [j] ∧ tYes σ2 H2 fun b H3 =>
        if b = true then te σ2 H3 fun y H4 => ∃ acc, H4 D = some (.lst acc) ∧ acc.length < sizeLine ∧ Nx (upd H4 D (.lst (acc ++ [y]))) else Nx H3) :=
  lc_mapR en (fun x y _ => y = f x) hok hlen (fun _ _ _ _ _ _ h _ _ => h) (fun i x H Cy ex sm h1 => turn i x H Cy ex sm fun H' s => h1 _ H' s rfl) fun D H ys nD sm hD pr => by
    have e : ys = xs.map f := paired_map pr
    rw [e] at hD
    exact done D H nD sm hD
end NM

namespace NM
open PySem PySem.Spec PyProof.Rows L2 HotX L2H
/-! ### what the defs of stage 1 reckon -/
def isCount (lo hi : Int) : V → Bool
  | .int i => decide (lo ≤ i) && decide (i ≤ hi)
  | _ => false
def smallS : Str := "abcdefghijklmnopqrstuvwxyz"
def isSmall (c : Nat) : Bool := decide (97 ≤ c) && decide (c ≤ 122)
/-- a name: 1 to 6 small letters -/
def nameS (x : Str) : Bool := decide (1 ≤ x.cps.size) && decide (x.cps.size ≤ 6) && x.cps.toList.all fun c => decide (c ∈ smallS.cps.toList)
def isName : V → Bool
  | .str x => nameS x
  | _ => false
def inSide (i : Int) : Bool := decide (0 ≤ i) && decide (i ≤ 4095)
/-- the items of a tuple, if it is one -/
def tupOf (H : Hp) : V → Option (List V)
  | .ref a => match H a with
    | some (.tup xs) => some xs
    | _ => none
  | _ => none
def isPoint (H : Hp) (v : V) : Bool := match tupOf H v with
  | some xs => decide (xs.length = 2) && xs.all (isCount 0 4095)
  | none => false
abbrev Pt := Int × Int
/-- v is the point p, in H -/
def PtAt (H : Hp) (v : V) (p : Pt) : Prop := ∃ a, v = .ref a ∧ H a = some (.tup [.int p.1, .int p.2])
def PtOk (p : Pt) : Prop := 0 ≤ p.1 ∧ p.1 ≤ 4095 ∧ 0 ≤ p.2 ∧ p.2 ≤ 4095
def iabs (i : Int) : Int := if i < 0 then -i else i
def imax (i j : Int) : Int := if j > i then j else i
def dist (p q : Pt) : Int := imax (iabs (p.1 - q.1)) (iabs (p.2 - q.2))
def reachs : List Int := [0, 1, 2, 4, 8, 16, 32, 64, 128, 256, 512, 1024, 2048, 4096]
def reachI (s : Int) : Int := reachs.getD s.toNat 0
theorem PtAt.same {H H' : Hp} {v : V} {p : Pt} (h : PtAt H v p) (s : Same H H') : PtAt H' v p := by
  obtain ⟨a, e, h⟩ := h
  exact ⟨a, e, s _ _ h⟩
theorem PtAt.dat {H : Hp} {v : V} {p : Pt} (h : PtAt H v p) : Dat H v := by
  obtain ⟨a, rfl, h⟩ := h
  exact .inl ⟨_, h⟩
theorem tupOf_ref {H : Hp} {a : Addr} {xs : List V} (h : H a = some (.tup xs)) : tupOf H (.ref a) = some xs := by simp [tupOf, h]
theorem isPoint_of {H : Hp} {v : V} {p : Pt} (h : PtAt H v p) (o : PtOk p) : isPoint H v = true := by
  obtain ⟨a, rfl, h⟩ := h
  obtain ⟨h1, h2, h3, h4⟩ := o
  unfold isPoint
  rw [tupOf_ref h]
  simp [isCount, h1, h2, h3, h4]
end NM
namespace NM
open PySem PySem.Spec PyProof.Rows L2 HotX L2H
/-- what may be asked whether it is a point -/
def PD (H : Hp) (v : V) : Prop := Dat H v ∧ ∀ xs, tupOf H v = some xs → xs.length ≤ 1000 ∧ ∀ x ∈ xs, Dat H x
theorem tupOf_same {H H' : Hp} {v : V} (d : Dat H v) (s : Same H H') : tupOf H' v = tupOf H v := by
  cases v with
  | ref a =>
    rcases d with ⟨xs, e⟩ | ⟨xs, e⟩
    · rw [tupOf_ref e, tupOf_ref (s _ _ e)]
    · have h1 : tupOf H (.ref a) = none := by simp [tupOf, e]
      have h2 : tupOf H' (.ref a) = none := by simp [tupOf, s _ _ e]
      rw [h1, h2]
  | non => rfl
  | bl _ => rfl
  | int _ => rfl
  | str _ => rfl
  | byt _ => rfl
  | flt _ => rfl
  | ty _ => rfl
theorem PD.same {H H' : Hp} {v : V} (d : PD H v) (s : Same H H') : PD H' v := ⟨d.1.same s, fun xs e => by
  rw [tupOf_same d.1 s] at e
  exact ⟨(d.2 xs e).1, fun x hx => ((d.2 xs e).2 x hx).same s⟩⟩
theorem isPoint_same {H H' : Hp} {v : V} (d : PD H v) (s : Same H H') : isPoint H' v = isPoint H v := by
  unfold isPoint
  rw [tupOf_same d.1 s]
theorem PtAt.pd {H : Hp} {v : V} {p : Pt} (h : PtAt H v p) : PD H v := ⟨h.dat, fun xs e => by
  obtain ⟨a, rfl, h⟩ := h
  rw [tupOf_ref h] at e
  cases e
  refine ⟨by show 2 ≤ 1000; decide, fun x hx => ?_⟩
  rcases List.mem_cons.mp hx with rfl | hx
  · trivial
  · rcases List.mem_cons.mp hx with rfl | hx
    · trivial
    · cases hx⟩
theorem tupOf_some {H : Hp} {v : V} {xs : List V} (h : tupOf H v = some xs) : ∃ a, v = .ref a ∧ H a = some (.tup xs) := by
  cases v with
  | ref a =>
    refine ⟨a, rfl, ?_⟩
    have h : (match H a with | some (.tup xs) => some xs | _ => none) = some xs := h
    split at h
    · rename_i ys e
      cases h
      exact e
    · cases h
  | _ => cases h
theorem count_int {lo hi : Int} {v : V} (h : isCount lo hi v = true) : ∃ i, v = .int i ∧ lo ≤ i ∧ i ≤ hi := by
  cases v with
  | int i =>
    simp only [isCount, Bool.and_eq_true, decide_eq_true_eq] at h
    exact ⟨i, rfl, h⟩
  | _ => cases h
theorem isPoint_pt {H : Hp} {v : V} (h : isPoint H v = true) : ∃ p, PtAt H v p ∧ PtOk p := by
  unfold isPoint at h
  cases e : tupOf H v with
  | none => rw [e] at h; cases h
  | some xs =>
    rw [e] at h
    simp only [Bool.and_eq_true, decide_eq_true_eq, List.all_eq_true] at h
    obtain ⟨h1, h2⟩ := h
    obtain ⟨a, rfl, ha⟩ := tupOf_some e
    match xs, h1, h2, ha with
    | [x, y], _, h2, ha =>
      obtain ⟨i, rfl, i1, i2⟩ := count_int (h2 x (by simp))
      obtain ⟨j, rfl, j1, j2⟩ := count_int (h2 y (by simp))
      exact ⟨(i, j), ⟨a, rfl, ha⟩, i1, i2, j1, j2⟩
theorem PtAt.inj {H : Hp} {v : V} {p q : Pt} (h : PtAt H v p) (h' : PtAt H v q) : p = q := by
  obtain ⟨a, rfl, e⟩ := h
  obtain ⟨b, z, e'⟩ := h'
  cases z
  rw [e] at e'
  obtain ⟨p1, p2⟩ := p
  obtain ⟨q1, q2⟩ := q
  cases e'
  rfl
/-- the least size at which d is near -/
def nearSize (d : Int) : Nat := ((List.range 14).find? fun s => decide (d ≤ reachI (s : Nat))).getD 0
def nearB (d : Int) : V → Bool
  | .int s => decide (d ≤ reachI s)
  | _ => false
theorem dist_nonneg (p q : Pt) : 0 ≤ dist p q := by
  unfold dist imax iabs
  split <;> split <;> split <;> omega
theorem dist_le {p q : Pt} (hp : PtOk p) (hq : PtOk q) : dist p q ≤ 4095 := by
  obtain ⟨a1, a2, a3, a4⟩ := hp
  obtain ⟨b1, b2, b3, b4⟩ := hq
  unfold dist imax iabs
  split <;> split <;> split <;> omega
theorem find_head {α : Type} (p : α → Bool) : ∀ l : List α, (l.filter p)[0]? = l.find? p
  | [] => rfl
  | x :: r => by
    cases h : p x with
    | true => simp [List.filter_cons, List.find?_cons, h]
    | false => simp only [List.filter_cons, List.find?_cons, h]; exact find_head p r
theorem nearSize_found {d : Int} (h : d ≤ 4096) : (List.range 14).find? (fun s => decide (d ≤ reachI (s : Nat))) = some (nearSize d) := by
  have hs : ((List.range 14).find? fun s => decide (d ≤ reachI (s : Nat))).isSome = true := by
    rw [List.find?_isSome]
    exact ⟨13, by simp, by simpa [reachI, reachs] using h⟩
  unfold nearSize
  cases e : (List.range 14).find? fun s => decide (d ≤ reachI (s : Nat)) with
  | none => rw [e] at hs; cases hs
  | some s => rfl
theorem nearSize_head {d : Int} (h : d ≤ 4096) : ((rangeV 0 14).filter (nearB d))[0]? = some (.int (nearSize d)) := by
  rw [find_head, rangeV, List.find?_map]
  have e : (nearB d ∘ fun i : Nat => V.int (0 + (i : Int))) = fun s : Nat => decide (d ≤ reachI (s : Nat)) := by
    funext s
    simp [nearB]
  rw [e, nearSize_found h]
  simp
theorem nearSize_lt {d : Int} (h : d ≤ 4096) : nearSize d < 14 := by
  have := List.mem_of_find?_eq_some (nearSize_found h)
  simpa using this
theorem nearSize_near {d : Int} (h : d ≤ 4096) : d ≤ reachI (nearSize d) := by
  have := List.find?_some (nearSize_found h)
  simpa using this
theorem nearSize_least {d : Int} {s : Nat} (h : d ≤ 4096) (hs : s < nearSize d) : ¬ d ≤ reachI (s : Nat) := by
  obtain ⟨h1, l, r, e, hl⟩ := List.find?_eq_some_iff_append.mp (nearSize_found h)
  have hlen : (List.range 14).length = (l ++ nearSize d :: r).length := by rw [e]
  have hn : (List.range 14)[l.length]? = some (nearSize d) := by rw [e]; simp
  have : l.length = nearSize d := by
    rw [List.getElem?_range (by simp at hlen; omega)] at hn
    exact Option.some.inj hn
  have hm : s ∈ l := by
    have h2 : (List.range 14)[s]? = some s := List.getElem?_range (by have := nearSize_lt h; omega)
    rw [e, List.getElem?_append_left (by omega)] at h2
    exact List.mem_of_getElem? h2
  have := hl s hm
  simpa using this
end NM
namespace NM
open PySem PySem.Spec PyProof.Rows L2 HotX L2H
theorem not_both {H : Hp} {v u : V} {p q : Pt} (hp : PtAt H v p) (hq : PtAt H u q) (op : PtOk p) (oq : PtOk q) (h : isPoint H v = false ∨ isPoint H u = false) : False := by
  rw [isPoint_of hp op, isPoint_of hq oq] at h
  rcases h with h | h <;> cases h
theorem iabs_neg (i : Int) : iabs (-i) = iabs i := by
  unfold iabs
  split <;> split <;> omega
theorem dist_comm (p q : Pt) : dist p q = dist q p := by
  unfold dist
  rw [show p.1 - q.1 = -(q.1 - p.1) by omega, show p.2 - q.2 = -(q.2 - p.2) by omega, iabs_neg, iabs_neg]
end NM

namespace NM
open PySem PySem.Spec PyProof.Rows L2 HotX L2H
/-! ### data at some depth, as == asks it -/
structure Lay (n : Nat) (d : PyData) : Prop where
  can : d.canLay0 = true
  dep : d.depth ≤ n
theorem Lay.mono {n m : Nat} {d : PyData} (h : Lay n d) (hm : n ≤ m) : Lay m d := ⟨h.can, Nat.le_trans h.dep hm⟩
theorem Lay.shaped {n : Nat} {d : PyData} (h : Lay n d) (hn : n ≤ 64) : SeqAt.shaped d = true := by
  unfold SeqAt.shaped
  rw [h.can, Bool.true_and]
  exact decide_eq_true (Nat.le_trans h.dep hn)
theorem Lay.eqv {n : Nat} {d : PyData} (h : Lay n d) : PyData.eqv d d = true := SeqAt.eqv_refl d h.can
theorem lay_none : Lay 0 .none := ⟨rfl, Nat.le_refl _⟩
theorem lay_bool (b : Bool) : Lay 0 (.bool b) := ⟨rfl, Nat.le_refl _⟩
theorem lay_int (i : Int) : Lay 0 (.int i) := ⟨rfl, Nat.le_refl _⟩
theorem lay_str {x : Str} (h : PyData.strOk x = true) : Lay 0 (.str x) := ⟨h, Nat.le_refl _⟩
theorem layAll {n : Nat} : ∀ {ds : List PyData}, (∀ d ∈ ds, Lay n d) → PyData.canLayAll0 ds = true ∧ PyData.depthAll ds ≤ n
  | [], _ => ⟨rfl, Nat.zero_le _⟩
  | d :: ds, h => by
    obtain ⟨h1, h2⟩ := layAll (ds := ds) fun x hx => h x (List.mem_cons_of_mem _ hx)
    have h0 := h d List.mem_cons_self
    refine ⟨?_, ?_⟩
    · show (d.canLay0 && PyData.canLayAll0 ds) = true
      rw [h0.can, h1]; rfl
    · show max d.depth (PyData.depthAll ds) ≤ n
      exact Nat.max_le.mpr ⟨h0.dep, h2⟩
theorem lay_list {n : Nat} {ds : List PyData} (h : ∀ d ∈ ds, Lay n d) : Lay (n + 1) (.list ds) := ⟨(layAll h).1, Nat.succ_le_succ (layAll h).2⟩
theorem lay_tuple {n : Nat} {ds : List PyData} (h : ∀ d ∈ ds, Lay n d) : Lay (n + 1) (.tuple ds) := ⟨(layAll h).1, Nat.succ_le_succ (layAll h).2⟩
theorem lay_map {α : Type} {n : Nat} {f : α → PyData} {l : List α} (h : ∀ x ∈ l, Lay n (f x)) : ∀ d ∈ l.map f, Lay n d := fun d hd => by
  obtain ⟨x, hx, rfl⟩ := List.mem_map.mp hd
  exact h x hx
theorem lay_nil {n : Nat} : ∀ d ∈ ([] : List PyData), Lay n d := fun d hd => nomatch hd
theorem lay_cons {n : Nat} {d : PyData} {ds : List PyData} (h : Lay n d) (t : ∀ x ∈ ds, Lay n x) : ∀ x ∈ d :: ds, Lay n x := fun x hx => (List.mem_cons.mp hx).elim (fun e => e ▸ h) (t x)
theorem dpAll_map {α : Type} {K : PySem.W.Frag} {H : Hp} {f : α → V} {g : α → PyData} : ∀ {l : List α}, (∀ x ∈ l, Dp K H (f x) (g x)) → DpAll K H (l.map f) (l.map g)
  | [], _ => .nil
  | x :: l, h => .cons (h x List.mem_cons_self) (dpAll_map fun y hy => h y (List.mem_cons_of_mem _ hy))
theorem dpAll_ints {K : PySem.W.Frag} {H : Hp} (ns : List Int) : DpAll K H (ns.map V.int) (ns.map PyData.int) := dpAll_map fun x _ => .int x
theorem dpAll_strs {K : PySem.W.Frag} {H : Hp} (xs : List Str) : DpAll K H (xs.map V.str) (xs.map PyData.str) := dpAll_map fun x _ => .str x
theorem eqv_nil {ns : List PyData} : PyData.eqv (.list ns) (.list []) = ns.isEmpty := by
  cases ns <;> rfl
theorem bits_lt {c : Int} {n : Nat} (h : Builtin.Int.intBits c ≤ n) : c.natAbs < 2 ^ n := by
  unfold Builtin.Int.intBits at h
  split at h
  · rename_i e
    have : c = 0 := by simpa using e
    subst this
    exact Nat.two_pow_pos n
  · rename_i e
    have h0 : c.natAbs ≠ 0 := fun z => e (by simp; omega)
    exact (Nat.log2_lt h0).mp (by omega)
end NM
namespace NM
open PySem PySem.Spec PyProof.Rows L2 HotX L2H
open LamX (ExtN Tabs)
/-! ### all but the tables of code objects stays -/
theorem ext_seq {K : PySem.W.Frag} {H H' : Hp} {a : Addr} {xs : List V} (e : ExtN H H') (h : SqL K H a xs) : SqL K H' a xs := by
  rcases h with (h | ⟨o, h⟩) | h
  · exact .inl (.inl (e _ _ h fun _ z => by cases z))
  · exact .inl (.inr ⟨o, e _ _ h fun _ z => by cases z⟩)
  · exact .inr h
theorem PtAt.ext {H H' : Hp} {v : V} {p : Pt} (h : PtAt H v p) (e : ExtN H H') : PtAt H' v p := by
  obtain ⟨a, r, h⟩ := h
  exact ⟨a, r, e _ _ h fun _ z => by cases z⟩
theorem Dat.ext {H H' : Hp} {v : V} (d : Dat H v) (s : ExtN H H') : Dat H' v := by
  cases v with
  | ref a => exact d.elim (fun ⟨xs, e⟩ => .inl ⟨xs, s _ _ e fun _ z => by cases z⟩) (fun ⟨xs, e⟩ => .inr ⟨xs, s _ _ e fun _ z => by cases z⟩)
  | non => trivial
  | bl _ => trivial
  | int _ => trivial
  | str _ => trivial
  | byt _ => exact d.elim
  | flt _ => exact d.elim
  | ty _ => exact d.elim
theorem tupOf_ext {H H' : Hp} {v : V} (d : Dat H v) (s : ExtN H H') : tupOf H' v = tupOf H v := by
  cases v with
  | ref a =>
    rcases d with ⟨xs, e⟩ | ⟨xs, e⟩
    · rw [tupOf_ref e, tupOf_ref (s _ _ e fun _ z => by cases z)]
    · have h1 : tupOf H (.ref a) = none := by simp [tupOf, e]
      have h2 : tupOf H' (.ref a) = none := by simp [tupOf, s _ _ e fun _ z => by cases z]
      rw [h1, h2]
  | non => rfl
  | bl _ => rfl
  | int _ => rfl
  | str _ => rfl
  | byt _ => rfl
  | flt _ => rfl
  | ty _ => rfl
theorem PD.ext {H H' : Hp} {v : V} (d : PD H v) (s : ExtN H H') : PD H' v := ⟨d.1.ext s, fun xs e => by
  rw [tupOf_ext d.1 s] at e
  exact ⟨(d.2 xs e).1, fun x hx => ((d.2 xs e).2 x hx).ext s⟩⟩
theorem isPoint_ext {H H' : Hp} {v : V} (d : PD H v) (s : ExtN H H') : isPoint H' v = isPoint H v := by
  unfold isPoint
  rw [tupOf_ext d.1 s]
theorem _root_.L2.Same.ext {H H' : Hp} (s : Same H H') : ExtN H H' := ExtN.of s
/-- a pair of texts, as == asks it -/
theorem dp_word {K : PySem.W.Frag} {H : Hp} {r : Addr} {x y : Str} (h : H r = some (.tup [.str x, .str y])) : Dp K H (.ref r) (.tuple [.str x, .str y]) := .tup (sqT h) (.cons (.str x) (.cons (.str y) .nil))
end NM
namespace NM
open PySem PySem.Spec PyProof.Rows L2 HotX L2H
open LamX (ExtN Tabs TabS CodeO)
theorem ext_upd {Hb H : Hp} {l : Addr} {o : HO} (e : ExtN Hb H) (n : Hb l = none) : ExtN Hb (upd H l o) := fun b x h k => by
  rw [upd_ne (ne_of_none h n)]
  exact e b x h k
theorem ext_upd' {H H3 H' : Hp} {l : Addr} {o : HO} (f3 : ExtN H H3) (nl : H3 l = none) (f : ExtN H H') : ExtN H (upd H' l o) := fun b x h k => by
  rw [upd_ne (ne_of_none (f3 b x h k) nl)]
  exact f b x h k
theorem codeO_lst {c : Addr} {q : Str} (xs : List V) : CodeO c q ≠ .lst xs := fun z => by
  unfold CodeO at z
  cases z
theorem tabs_upd {T : List (Addr × Str)} {H : Hp} {l : Addr} {xs : List V} {o : HO} (t : Tabs T H) (h : H l = some (.lst xs)) : Tabs T (upd H l o) := fun p hp => by
  obtain ⟨ps, h1, h2, h3⟩ := t p hp
  refine ⟨ps, ?_, h2, fun pos cv hc => ?_⟩
  · rw [upd_ne (ne_of h1 h (by intro z; cases z))]
    exact h1
  · obtain ⟨c, e1, e2⟩ := h3 pos cv hc
    refine ⟨c, e1, ?_⟩
    rw [upd_ne (ne_of e2 h (codeO_lst _))]
    exact e2
theorem ext_none {H H' : Hp} (e : ExtN H H') {l : Addr} (h : H' l = none) (ht : ∀ ps, H l ≠ some (.tbl ps)) : H l = none := by
  cases q : H l with
  | none => rfl
  | some o =>
    cases o with
    | tbl ps => exact absurd q (ht ps)
    | _ => rw [e l _ q (fun _ z => by cases z)] at h; cases h
theorem tup_ext {H H' : Hp} {r : Addr} {xs : List V} (e : ExtN H H') (h : H r = some (.tup xs)) : H' r = some (.tup xs) := e _ _ h fun _ z => by cases z
theorem lst_ext {H H' : Hp} {r : Addr} {xs : List V} (e : ExtN H H') (h : H r = some (.lst xs)) : H' r = some (.lst xs) := e _ _ h fun _ z => by cases z
theorem tup_upd {H : Hp} {r l : Addr} {xs ys : List V} {o : HO} (h : H r = some (.tup xs)) (hl : H l = some (.lst ys)) : (upd H l o) r = some (.tup xs) := by
  rw [upd_ne (ne_of h hl (by intro z; cases z))]
  exact h
theorem tup_new {H : Hp} {r l : Addr} {xs : List V} {o : HO} (h : H r = some (.tup xs)) (hl : H l = none) : (upd H l o) r = some (.tup xs) := by
  rw [upd_ne (ne_of_none h hl)]
  exact h
end NM
namespace NM
open PySem PySem.Spec PyProof.Rows L2 HotX L2H
/-! ### what is no point -/
theorem dat_flat {H : Hp} {v : V} (h : flatV v = true) : Dat H v := by
  cases v <;> first | trivial | cases h
theorem pd_flat {H : Hp} {v : V} (h : flatV v = true) : PD H v ∧ isPoint H v = false := by
  cases v <;> first | exact ⟨⟨trivial, fun xs e => nomatch e⟩, rfl⟩ | cases h
theorem pd_tup {H : Hp} {a : Addr} {xs : List V} (h : H a = some (.tup xs)) (hl : xs.length ≤ 1000) (hf : xs.all flatV = true) (hn : (decide (xs.length = 2) && xs.all (isCount 0 4095)) = false) : PD H (.ref a) ∧ isPoint H (.ref a) = false := by
  refine ⟨⟨.inl ⟨xs, h⟩, fun ys e => ?_⟩, ?_⟩
  · rw [tupOf_ref h] at e
    cases e
    exact ⟨hl, fun x hx => dat_flat (List.all_eq_true.mp hf x hx)⟩
  · unfold isPoint
    rw [tupOf_ref h]
    exact hn
theorem pd_lst {H : Hp} {a : Addr} {xs : List V} (h : H a = some (.lst xs)) : PD H (.ref a) ∧ isPoint H (.ref a) = false := by
  have e0 : tupOf H (.ref a) = none := by simp [tupOf, h]
  refine ⟨⟨.inr ⟨xs, h⟩, fun ys e => ?_⟩, ?_⟩
  · rw [e0] at e
    cases e
  · unfold isPoint
    rw [e0]
def AllBad (H : Hp) (xs : List V) : Prop := ∀ x ∈ xs, PD H x ∧ isPoint H x = false
theorem AllBad.nil {H : Hp} : AllBad H [] := fun _ h => nomatch h
theorem AllBad.cons {H : Hp} {x : V} {xs : List V} (h : PD H x ∧ isPoint H x = false) (t : AllBad H xs) : AllBad H (x :: xs) := fun y hy => (List.mem_cons.mp hy).elim (fun e => e ▸ h) (t y)
theorem AllBad.ext {H H' : Hp} {xs : List V} (h : AllBad H xs) (e : LamX.ExtN H H') : AllBad H' xs := fun x hx => ⟨(h x hx).1.ext e, (isPoint_ext (h x hx).1 e).trans (h x hx).2⟩
end NM
namespace NM
open PySem PySem.Spec PyProof.Rows L2 HotX L2H
/-- a word of a refusal, as data -/
def wordD (nm : Str) : PyData := .tuple [.str "refused", .str nm]
theorem lay_word {nm : Str} (h : PyData.strOk nm = true) : Lay 1 (wordD nm) := lay_tuple (lay_cons (lay_str (by decide +kernel)) (lay_cons (lay_str h) lay_nil))
theorem dp_words {K : PySem.W.Frag} {H : Hp} {nm : Str} : ∀ {rs : List Addr}, (∀ r ∈ rs, H r = some (.tup [.str "refused", .str nm])) → DpAll K H (rs.map V.ref) (List.replicate rs.length (wordD nm))
  | [], _ => .nil
  | r :: rs, h => .cons (dp_word (h r List.mem_cons_self)) (dp_words fun x hx => h x (List.mem_cons_of_mem _ hx))
theorem lay_words {nm : Str} (h : PyData.strOk nm = true) (n : Nat) : Lay 2 (.list (List.replicate n (wordD nm))) := lay_list fun d hd => by
  rw [List.eq_of_mem_replicate hd]
  exact lay_word h
theorem iteNB {b : Bool} {A B : Prop} (hb : b = true) (h : B) : if (!b) = true then A else B := by
  rw [hb]
  exact h
end NM

namespace NMP
open PySem PySem.Spec PyProof.Rows L2 HotX L2H NM
/-! ### the text by places -/
def topS (i : Nat) : Stmt := PySem.Challenge.pw_nearmarks_k10_points.main.body.getD i (.Pass ⟨0, 0, 0, 0⟩)
abbrev s_is_count : Stmt := topS 13
abbrev s_is_name : Stmt := topS 14
abbrev s_need_name : Stmt := topS 15
abbrev s_need_point : Stmt := topS 16
abbrev s_need_size : Stmt := topS 17
abbrev s_reach : Stmt := topS 18
abbrev s_apart : Stmt := topS 19
abbrev s_far : Stmt := topS 20
abbrev s_near_size : Stmt := topS 21
abbrev s_law_cell : Stmt := topS 23
abbrev s_law_drawn : Stmt := topS 24
abbrev s_law_word : Stmt := topS 25
abbrev s_law_told : Stmt := topS 26
abbrev s_law_point : Stmt := topS 27
abbrev s_law_far : Stmt := topS 28
abbrev s_law_near : Stmt := topS 29
abbrev s_law : Stmt := topS 30
theorem sc_is_count : FnScope ["thing", "low", "high"] ["thing", "low", "high"] (defScope s_is_count) := ⟨rfl, rfl, rfl, by decide +kernel, rfl, by decide +kernel, by decide +kernel⟩
theorem sc_is_name : FnScope ["thing", "sign"] ["thing"] (defScope s_is_name) := ⟨rfl, rfl, rfl, by decide +kernel, rfl, by decide +kernel, by decide +kernel⟩
theorem sc_need_name : FnScope ["thing"] ["thing"] (defScope s_need_name) := ⟨rfl, rfl, rfl, by decide +kernel, rfl, by decide +kernel, by decide +kernel⟩
theorem sc_need_point : FnScope ["thing", "one"] ["thing"] (defScope s_need_point) := ⟨rfl, rfl, rfl, by decide +kernel, rfl, by decide +kernel, by decide +kernel⟩
theorem sc_need_size : FnScope ["thing"] ["thing"] (defScope s_need_size) := ⟨rfl, rfl, rfl, by decide +kernel, rfl, by decide +kernel, by decide +kernel⟩
theorem sc_reach : FnScope ["size"] ["size"] (defScope s_reach) := ⟨rfl, rfl, rfl, by decide +kernel, rfl, by decide +kernel, by decide +kernel⟩
theorem sc_apart : FnScope ["one", "other"] ["one", "other"] (defScope s_apart) := ⟨rfl, rfl, rfl, by decide +kernel, rfl, by decide +kernel, by decide +kernel⟩
theorem sc_far : FnScope ["one", "other"] ["one", "other"] (defScope s_far) := ⟨rfl, rfl, rfl, by decide +kernel, rfl, by decide +kernel, by decide +kernel⟩
theorem sc_near_size : FnScope ["one", "other", "size"] ["one", "other"] (defScope s_near_size) := ⟨rfl, rfl, rfl, by decide +kernel, rfl, by decide +kernel, by decide +kernel⟩
theorem sc_law_cell : FnScope ["script", "k"] ["script", "k"] (defScope s_law_cell) := ⟨rfl, rfl, rfl, by decide +kernel, rfl, by decide +kernel, by decide +kernel⟩
theorem sc_law_drawn : FnScope ["cell", "k", "more"] ["cell", "k"] (defScope s_law_drawn) := ⟨rfl, rfl, rfl, by decide +kernel, rfl, by decide +kernel, by decide +kernel⟩
theorem sc_law_word : FnScope ["e", "flags", "flag"] ["e"] (defScope s_law_word) := ⟨rfl, rfl, rfl, by decide +kernel, rfl, by decide +kernel, by decide +kernel⟩
theorem sc_law_told : FnScope ["deed", "e"] ["deed"] (defScope s_law_told) := ⟨rfl, rfl, rfl, by decide +kernel, rfl, by decide +kernel, by decide +kernel⟩
theorem sc_law_point : FnScope ["more", "here", "by"] ["more"] (defScope s_law_point) := ⟨rfl, rfl, rfl, by decide +kernel, rfl, by decide +kernel, by decide +kernel⟩
theorem sc_law_far : FnScope ["one", "other"] ["one", "other"] (defScope s_law_far) := ⟨rfl, rfl, rfl, by decide +kernel, rfl, by decide +kernel, by decide +kernel⟩
theorem sc_law_near : FnScope ["one", "other", "size", "most"] ["one", "other", "size"] (defScope s_law_near) := ⟨rfl, rfl, rfl, by decide +kernel, rfl, by decide +kernel, by decide +kernel⟩
theorem sc_law : FnScope ["script", "k", "more", "one", "other", "size", "bad", "some"] ["script"] (defScope s_law) := ⟨rfl, rfl, rfl, by decide +kernel, rfl, by decide +kernel, by decide +kernel⟩
/-! ### what the top has left -/
structure Tx (K : PySem.W.Frag) (mg : Str → Option Value) where
  C_MarkError : Addr
  C_BadName : Addr
  C_BadPoint : Addr
  C_BadSize : Addr
  C_BadHeap : Addr
  C_BadText : Addr
  g_MarkError : mg "MarkError" = some (.ref C_MarkError)
  x_MarkError : PySem.W.excIn K C_MarkError [.type "ValueError", .type "Exception", .type "BaseException", .type "object"] "ValueError.__new__" = true
  k_MarkError : PySem.W.keepIn K (.ref C_MarkError) = true
  e_MarkError : PySem.W.subIn K (.ref C_MarkError) (.type "BaseException") = some true
  t_MarkError : PySem.W.typeIn K (.ref C_MarkError) = some (.type "type")
  hd_MarkError : PySem.W.hasDictIn K C_MarkError = true
  sm_MarkError : PySem.W.subIn K (.ref C_MarkError) (.ref C_MarkError) = some true
  ga_MarkError : PySem.W.findIn K (.ref C_MarkError) "__getattribute__" = some (some (.builtin "BaseException.__getattribute__"))
  gt_MarkError : PySem.W.findIn K (.ref C_MarkError) "__getattr__" = some none
  cl_MarkError : PySem.W.findIn K (.ref C_MarkError) "__class__" = some (some (.builtin "object.__class__"))
  mr_MarkError : PySem.W.mroIn K C_MarkError (.type "object") = some true
  g_BadName : mg "BadName" = some (.ref C_BadName)
  x_BadName : PySem.W.excIn K C_BadName [.type "ValueError", .type "Exception", .type "BaseException", .type "object"] "ValueError.__new__" = true
  k_BadName : PySem.W.keepIn K (.ref C_BadName) = true
  e_BadName : PySem.W.subIn K (.ref C_BadName) (.type "BaseException") = some true
  t_BadName : PySem.W.typeIn K (.ref C_BadName) = some (.type "type")
  hd_BadName : PySem.W.hasDictIn K C_BadName = true
  sm_BadName : PySem.W.subIn K (.ref C_BadName) (.ref C_MarkError) = some true
  ga_BadName : PySem.W.findIn K (.ref C_BadName) "__getattribute__" = some (some (.builtin "BaseException.__getattribute__"))
  gt_BadName : PySem.W.findIn K (.ref C_BadName) "__getattr__" = some none
  cl_BadName : PySem.W.findIn K (.ref C_BadName) "__class__" = some (some (.builtin "object.__class__"))
  mr_BadName : PySem.W.mroIn K C_BadName (.type "object") = some true
  g_BadPoint : mg "BadPoint" = some (.ref C_BadPoint)
  x_BadPoint : PySem.W.excIn K C_BadPoint [.type "ValueError", .type "Exception", .type "BaseException", .type "object"] "ValueError.__new__" = true
  k_BadPoint : PySem.W.keepIn K (.ref C_BadPoint) = true
  e_BadPoint : PySem.W.subIn K (.ref C_BadPoint) (.type "BaseException") = some true
  t_BadPoint : PySem.W.typeIn K (.ref C_BadPoint) = some (.type "type")
  hd_BadPoint : PySem.W.hasDictIn K C_BadPoint = true
  sm_BadPoint : PySem.W.subIn K (.ref C_BadPoint) (.ref C_MarkError) = some true
  ga_BadPoint : PySem.W.findIn K (.ref C_BadPoint) "__getattribute__" = some (some (.builtin "BaseException.__getattribute__"))
  gt_BadPoint : PySem.W.findIn K (.ref C_BadPoint) "__getattr__" = some none
  cl_BadPoint : PySem.W.findIn K (.ref C_BadPoint) "__class__" = some (some (.builtin "object.__class__"))
  mr_BadPoint : PySem.W.mroIn K C_BadPoint (.type "object") = some true
  g_BadSize : mg "BadSize" = some (.ref C_BadSize)
  x_BadSize : PySem.W.excIn K C_BadSize [.type "ValueError", .type "Exception", .type "BaseException", .type "object"] "ValueError.__new__" = true
  k_BadSize : PySem.W.keepIn K (.ref C_BadSize) = true
  e_BadSize : PySem.W.subIn K (.ref C_BadSize) (.type "BaseException") = some true
  t_BadSize : PySem.W.typeIn K (.ref C_BadSize) = some (.type "type")
  hd_BadSize : PySem.W.hasDictIn K C_BadSize = true
  sm_BadSize : PySem.W.subIn K (.ref C_BadSize) (.ref C_MarkError) = some true
  ga_BadSize : PySem.W.findIn K (.ref C_BadSize) "__getattribute__" = some (some (.builtin "BaseException.__getattribute__"))
  gt_BadSize : PySem.W.findIn K (.ref C_BadSize) "__getattr__" = some none
  cl_BadSize : PySem.W.findIn K (.ref C_BadSize) "__class__" = some (some (.builtin "object.__class__"))
  mr_BadSize : PySem.W.mroIn K C_BadSize (.type "object") = some true
  g_BadHeap : mg "BadHeap" = some (.ref C_BadHeap)
  x_BadHeap : PySem.W.excIn K C_BadHeap [.type "ValueError", .type "Exception", .type "BaseException", .type "object"] "ValueError.__new__" = true
  k_BadHeap : PySem.W.keepIn K (.ref C_BadHeap) = true
  e_BadHeap : PySem.W.subIn K (.ref C_BadHeap) (.type "BaseException") = some true
  t_BadHeap : PySem.W.typeIn K (.ref C_BadHeap) = some (.type "type")
  hd_BadHeap : PySem.W.hasDictIn K C_BadHeap = true
  sm_BadHeap : PySem.W.subIn K (.ref C_BadHeap) (.ref C_MarkError) = some true
  ga_BadHeap : PySem.W.findIn K (.ref C_BadHeap) "__getattribute__" = some (some (.builtin "BaseException.__getattribute__"))
  gt_BadHeap : PySem.W.findIn K (.ref C_BadHeap) "__getattr__" = some none
  cl_BadHeap : PySem.W.findIn K (.ref C_BadHeap) "__class__" = some (some (.builtin "object.__class__"))
  mr_BadHeap : PySem.W.mroIn K C_BadHeap (.type "object") = some true
  g_BadText : mg "BadText" = some (.ref C_BadText)
  x_BadText : PySem.W.excIn K C_BadText [.type "ValueError", .type "Exception", .type "BaseException", .type "object"] "ValueError.__new__" = true
  k_BadText : PySem.W.keepIn K (.ref C_BadText) = true
  e_BadText : PySem.W.subIn K (.ref C_BadText) (.type "BaseException") = some true
  t_BadText : PySem.W.typeIn K (.ref C_BadText) = some (.type "type")
  hd_BadText : PySem.W.hasDictIn K C_BadText = true
  sm_BadText : PySem.W.subIn K (.ref C_BadText) (.ref C_MarkError) = some true
  ga_BadText : PySem.W.findIn K (.ref C_BadText) "__getattribute__" = some (some (.builtin "BaseException.__getattribute__"))
  gt_BadText : PySem.W.findIn K (.ref C_BadText) "__getattr__" = some none
  cl_BadText : PySem.W.findIn K (.ref C_BadText) "__class__" = some (some (.builtin "object.__class__"))
  mr_BadText : PySem.W.mroIn K C_BadText (.type "object") = some true
  ocn : PySem.W.specialIn K (.builtin "object.__class__") "__get__" = some (some (.builtin "getset_descriptor.__get__"))
  oct : PySem.W.takesIn K (.builtin "object.__class__") = some true
  kit_BadHeap_BadHeap : PySem.W.kitOne K (.ref C_BadHeap) (.ref C_BadHeap) = some true
  kit_BadHeap_BadName : PySem.W.kitOne K (.ref C_BadHeap) (.ref C_BadName) = some false
  kit_BadHeap_BadPoint : PySem.W.kitOne K (.ref C_BadHeap) (.ref C_BadPoint) = some false
  kit_BadHeap_BadSize : PySem.W.kitOne K (.ref C_BadHeap) (.ref C_BadSize) = some false
  kit_BadHeap_BadText : PySem.W.kitOne K (.ref C_BadHeap) (.ref C_BadText) = some false
  kit_BadHeap_VE : PySem.W.kitOne K (.ref C_BadHeap) (.type "ValueError") = some true
  kit_BadName_BadHeap : PySem.W.kitOne K (.ref C_BadName) (.ref C_BadHeap) = some false
  kit_BadName_BadName : PySem.W.kitOne K (.ref C_BadName) (.ref C_BadName) = some true
  kit_BadName_BadPoint : PySem.W.kitOne K (.ref C_BadName) (.ref C_BadPoint) = some false
  kit_BadName_BadSize : PySem.W.kitOne K (.ref C_BadName) (.ref C_BadSize) = some false
  kit_BadName_BadText : PySem.W.kitOne K (.ref C_BadName) (.ref C_BadText) = some false
  kit_BadName_VE : PySem.W.kitOne K (.ref C_BadName) (.type "ValueError") = some true
  kit_BadPoint_BadHeap : PySem.W.kitOne K (.ref C_BadPoint) (.ref C_BadHeap) = some false
  kit_BadPoint_BadName : PySem.W.kitOne K (.ref C_BadPoint) (.ref C_BadName) = some false
  kit_BadPoint_BadPoint : PySem.W.kitOne K (.ref C_BadPoint) (.ref C_BadPoint) = some true
  kit_BadPoint_BadSize : PySem.W.kitOne K (.ref C_BadPoint) (.ref C_BadSize) = some false
  kit_BadPoint_BadText : PySem.W.kitOne K (.ref C_BadPoint) (.ref C_BadText) = some false
  kit_BadPoint_VE : PySem.W.kitOne K (.ref C_BadPoint) (.type "ValueError") = some true
  kit_BadSize_BadHeap : PySem.W.kitOne K (.ref C_BadSize) (.ref C_BadHeap) = some false
  kit_BadSize_BadName : PySem.W.kitOne K (.ref C_BadSize) (.ref C_BadName) = some false
  kit_BadSize_BadPoint : PySem.W.kitOne K (.ref C_BadSize) (.ref C_BadPoint) = some false
  kit_BadSize_BadSize : PySem.W.kitOne K (.ref C_BadSize) (.ref C_BadSize) = some true
  kit_BadSize_BadText : PySem.W.kitOne K (.ref C_BadSize) (.ref C_BadText) = some false
  kit_BadSize_VE : PySem.W.kitOne K (.ref C_BadSize) (.type "ValueError") = some true
  kit_BadText_BadHeap : PySem.W.kitOne K (.ref C_BadText) (.ref C_BadHeap) = some false
  kit_BadText_BadName : PySem.W.kitOne K (.ref C_BadText) (.ref C_BadName) = some false
  kit_BadText_BadPoint : PySem.W.kitOne K (.ref C_BadText) (.ref C_BadPoint) = some false
  kit_BadText_BadSize : PySem.W.kitOne K (.ref C_BadText) (.ref C_BadSize) = some false
  kit_BadText_BadText : PySem.W.kitOne K (.ref C_BadText) (.ref C_BadText) = some true
  kit_BadText_VE : PySem.W.kitOne K (.ref C_BadText) (.type "ValueError") = some true
  t_SMALL : Tok
  g_SMALL : mg "SMALL" = some (.str "abcdefghijklmnopqrstuvwxyz" t_SMALL)
  t_MOST_WORD : Tok
  g_MOST_WORD : mg "MOST_WORD" = some (.int 6 t_MOST_WORD)
  t_MOST_SIDE : Tok
  g_MOST_SIDE : mg "MOST_SIDE" = some (.int 4095 t_MOST_SIDE)
  t_MOST_SIZE : Tok
  g_MOST_SIZE : mg "MOST_SIZE" = some (.int 13 t_MOST_SIZE)
  a_REACHES : Addr
  g_REACHES : mg "REACHES" = some (.ref a_REACHES)
  s_REACHES : ∀ H : Hp, SqT K H a_REACHES [V.int 0, V.int 1, V.int 2, V.int 4, V.int 8, V.int 16, V.int 32, V.int 64, V.int 128, V.int 256, V.int 512, V.int 1024, V.int 2048, V.int 4096]
  n_ValueError : mg "ValueError" = none
  n_abs : mg "abs" = none
  n_all : mg "all" = none
  n_bool : mg "bool" = none
  n_int : mg "int" = none
  n_isinstance : mg "isinstance" = none
  n_len : mg "len" = none
  n_max : mg "max" = none
  n_min : mg "min" = none
  n_range : mg "range" = none
  n_sorted : mg "sorted" = none
  n_str : mg "str" = none
  n_sum : mg "sum" = none
  n_tuple : mg "tuple" = none
  f_is_count : Addr
  d_is_count : FuncData
  F_is_count : Fun K "is_count" "is_count" s_is_count f_is_count d_is_count
  b_is_count : Binds K d_is_count ["thing", "low", "high"] []
  g_is_count : mg "is_count" = some (.ref f_is_count)
  f_is_name : Addr
  d_is_name : FuncData
  F_is_name : Fun K "is_name" "is_name" s_is_name f_is_name d_is_name
  b_is_name : Binds K d_is_name ["thing"] []
  g_is_name : mg "is_name" = some (.ref f_is_name)
  f_need_name : Addr
  d_need_name : FuncData
  F_need_name : Fun K "need_name" "need_name" s_need_name f_need_name d_need_name
  b_need_name : Binds K d_need_name ["thing"] []
  g_need_name : mg "need_name" = some (.ref f_need_name)
  f_need_point : Addr
  d_need_point : FuncData
  F_need_point : Fun K "need_point" "need_point" s_need_point f_need_point d_need_point
  b_need_point : Binds K d_need_point ["thing"] []
  g_need_point : mg "need_point" = some (.ref f_need_point)
  f_need_size : Addr
  d_need_size : FuncData
  F_need_size : Fun K "need_size" "need_size" s_need_size f_need_size d_need_size
  b_need_size : Binds K d_need_size ["thing"] []
  g_need_size : mg "need_size" = some (.ref f_need_size)
  f_reach : Addr
  d_reach : FuncData
  F_reach : Fun K "reach" "reach" s_reach f_reach d_reach
  b_reach : Binds K d_reach ["size"] []
  g_reach : mg "reach" = some (.ref f_reach)
  f_apart : Addr
  d_apart : FuncData
  F_apart : Fun K "apart" "apart" s_apart f_apart d_apart
  b_apart : Binds K d_apart ["one", "other"] []
  g_apart : mg "apart" = some (.ref f_apart)
  f_far : Addr
  d_far : FuncData
  F_far : Fun K "far" "far" s_far f_far d_far
  b_far : Binds K d_far ["one", "other"] []
  g_far : mg "far" = some (.ref f_far)
  f_near_size : Addr
  d_near_size : FuncData
  F_near_size : Fun K "near_size" "near_size" s_near_size f_near_size d_near_size
  b_near_size : Binds K d_near_size ["one", "other"] []
  g_near_size : mg "near_size" = some (.ref f_near_size)
  f_law_cell : Addr
  d_law_cell : FuncData
  F_law_cell : Fun K "_law_cell" "_law_cell" s_law_cell f_law_cell d_law_cell
  b_law_cell : Binds K d_law_cell ["script", "k"] []
  g_law_cell : mg "_law_cell" = some (.ref f_law_cell)
  f_law_drawn : Addr
  d_law_drawn : FuncData
  F_law_drawn : Fun K "_law_drawn" "_law_drawn" s_law_drawn f_law_drawn d_law_drawn
  b_law_drawn : Binds K d_law_drawn ["cell", "k"] []
  g_law_drawn : mg "_law_drawn" = some (.ref f_law_drawn)
  f_law_word : Addr
  d_law_word : FuncData
  F_law_word : Fun K "_law_word" "_law_word" s_law_word f_law_word d_law_word
  b_law_word : Binds K d_law_word ["e"] []
  g_law_word : mg "_law_word" = some (.ref f_law_word)
  f_law_told : Addr
  d_law_told : FuncData
  F_law_told : Fun K "_law_told" "_law_told" s_law_told f_law_told d_law_told
  b_law_told : Binds K d_law_told ["deed"] []
  g_law_told : mg "_law_told" = some (.ref f_law_told)
  f_law_point : Addr
  d_law_point : FuncData
  F_law_point : Fun K "_law_point" "_law_point" s_law_point f_law_point d_law_point
  b_law_point : Binds K d_law_point ["more"] []
  g_law_point : mg "_law_point" = some (.ref f_law_point)
  f_law_far : Addr
  d_law_far : FuncData
  F_law_far : Fun K "_law_far" "_law_far" s_law_far f_law_far d_law_far
  b_law_far : Binds K d_law_far ["one", "other"] []
  g_law_far : mg "_law_far" = some (.ref f_law_far)
  f_law_near : Addr
  d_law_near : FuncData
  F_law_near : Fun K "_law_near" "_law_near" s_law_near f_law_near d_law_near
  b_law_near : Binds K d_law_near ["one", "other", "size"] []
  g_law_near : mg "_law_near" = some (.ref f_law_near)
  f_law : Addr
  d_law : FuncData
  F_law : Fun K "law" "law" s_law f_law d_law
  b_law : Binds K d_law ["script"] []
  co_law : Addr
  tb_law : Addr
  D_law : FunC K "law" "law" s_law f_law d_law co_law
  g_law : mg "law" = some (.ref f_law)
section
variable {P : Program} {w : World} {K : PySem.W.Frag} {mg : Str → Option Value} {base : Heap}
def sp_is_count : Sp := fun vs H Q _ => ∃ (v : V) (lo hi : Int), vs = [v, .int lo, .int hi] ∧ Dat H v ∧ Q (.bl (isCount lo hi v)) H
theorem ok_is_count (T : Tx K mg) : FnOk P w K mg base CX0 1 T.f_is_count T.d_is_count ["thing", "low", "high"] (sp_is_count) := by
  refine T.F_is_count.ok sc_is_count (fun vs H Q E h => ?_) (fun cdv A outer s H vs Q E hr h => ?_)
  · obtain ⟨v, lo, hi, rfl, _⟩ := h
    rfl
  · obtain ⟨v, lo, hi, rfl, d, q⟩ := h
    refine ⟨_, (pss_one (ps_ret (pe_and (pe_callB call_isi (by rfl) T.n_isinstance (by decide +kernel) (pa_cons (pv 0) (pa_cons (pe_bltn (v := .ty "int") (by rfl) T.n_int (by decide +kernel) rfl) pa_nil))) (pe_and (pe_not (pe_callB call_isi (by rfl) T.n_isinstance (by decide +kernel) (pa_cons (pv 0) (pa_cons (pe_bltn (v := .ty "bool") (by rfl) T.n_bool (by decide +kernel) rfl) pa_nil)))) (pe_one (pe_chain op_le op_le (pv 1) (pv 0) (pv 2))))))), ?_⟩
    rcases tyN_cases d with ⟨e, t⟩ | ⟨b, e, t⟩ | ⟨i, e, t⟩ | ⟨x, e, t⟩ | ⟨a, xs, e, e2, t⟩ | ⟨a, xs, e, e2, t⟩
    · subst e
      exact ⟨_, rfl, _, _, _, _, false, rfl, .ty _, d.ty, kit_ty (by rw [t]; decide +kernel), _, rfl, iteF q⟩
    · subst e
      exact ⟨_, rfl, _, _, _, _, true, rfl, .ty _, d.ty, kit_ty (by rw [t]; decide +kernel), _, rfl, iteT ⟨_, rfl, _, _, _, _, true, rfl, .ty _, d.ty, kit_ty (by rw [t]; decide +kernel), _, rfl, _, rfl, iteF q⟩⟩
    · subst e
      refine ⟨_, rfl, _, _, _, _, true, rfl, .ty _, d.ty, kit_ty (by rw [t]; decide +kernel), _, rfl, iteT ⟨_, rfl, _, _, _, _, false, rfl, .ty _, d.ty, kit_ty (by rw [t]; decide +kernel), _, rfl, _, rfl, iteT ?_⟩⟩
      refine ⟨_, rfl, _, rfl, _, _, rfl, rfl, _, rfl, ?_⟩
      by_cases c : lo ≤ i
      · rw [decide_eq_true c]
        refine iteT ⟨_, rfl, _, _, rfl, rfl, ?_⟩
        simp only [isCount, decide_eq_true c, Bool.true_and] at q
        exact q
      · rw [decide_eq_false c]
        refine iteF ?_
        simp only [isCount, decide_eq_false c, Bool.false_and] at q
        exact q
    · subst e
      exact ⟨_, rfl, _, _, _, _, false, rfl, .ty _, d.ty, kit_ty (by rw [t]; decide +kernel), _, rfl, iteF q⟩
    · subst e
      exact ⟨_, rfl, _, _, _, _, false, rfl, .ty _, d.ty, kit_ty (by rw [t]; decide +kernel), _, rfl, iteF q⟩
    · subst e
      exact ⟨_, rfl, _, _, _, _, false, rfl, .ty _, d.ty, kit_ty (by rw [t]; decide +kernel), _, rfl, iteF q⟩

def sp_is_name : Sp := fun vs H Q _ => ∃ (v : V), vs = [v] ∧ Dat H v ∧ (∀ x, v = .str x → x.length ≤ 1000) ∧ ∀ H', Same H H' → Q (.bl (isName v)) H'
theorem ok_is_name (T : Tx K mg) : FnOk P w K mg base CX0 1 T.f_is_name T.d_is_name ["thing"] (sp_is_name) := by
  refine T.F_is_name.ok sc_is_name (fun vs H Q E h => ?_) (fun cdv A outer s H vs Q E hr h => ?_)
  · obtain ⟨v, rfl, _⟩ := h
    rfl
  · obtain ⟨v, rfl, d, hl, q⟩ := h
    refine ⟨_, (pss_one (ps_ret (pe_and (pe_callB call_isi (by rfl) T.n_isinstance (by decide +kernel) (pa_cons (pv 0) (pa_cons (pe_bltn (v := .ty "str") (by rfl) T.n_str (by decide +kernel) rfl) pa_nil))) (pe_and (pe_chain op_le op_le pe_int (pe_callB call_len_str (by rfl) T.n_len (by decide +kernel) (pa_cons (pv 0) pa_nil)) (pe_glob (v := .int 6) (by rfl) T.g_MOST_WORD ⟨_, rfl⟩)) (pe_one (pe_callB (cr_all rfl) (by rfl) T.n_all (by decide +kernel) (pa_cons (pe_lc (own := [("sign", 1)]) (g := gName 1) (tt := tYes) (by rfl) sc_is_name.nd (pi_str (pv 0)) (blkOk_by (own := [("sign", 1)]) (N := ["thing", "sign"]) (sc := defScope s_is_name) (by decide +kernel)) (fun _ _ _ _ _ => (pg_name (i := 1) sc_is_name.nd rfl (Or.inl rfl))) (fun _ _ _ _ _ => pts_nil) (fun _ _ _ _ _ => (pe_cmpR op_in_sign (pv 1) (pe_glob (v := .str "abcdefghijklmnopqrstuvwxyz") (by rfl) T.g_SMALL ⟨_, rfl⟩) (by rfl)))) pa_nil))))))), ?_⟩
    rcases tyN_cases d with ⟨e, t⟩ | ⟨b, e, t⟩ | ⟨i, e, t⟩ | ⟨x, e, t⟩ | ⟨a, xs, e, e2, t⟩ | ⟨a, xs, e, e2, t⟩
    · subst e
      exact ⟨_, rfl, _, _, _, _, false, rfl, .ty _, d.ty, kit_ty (by rw [t]; decide +kernel), _, rfl, iteF (q H (Same.refl H))⟩
    · subst e
      exact ⟨_, rfl, _, _, _, _, false, rfl, .ty _, d.ty, kit_ty (by rw [t]; decide +kernel), _, rfl, iteF (q H (Same.refl H))⟩
    · subst e
      exact ⟨_, rfl, _, _, _, _, false, rfl, .ty _, d.ty, kit_ty (by rw [t]; decide +kernel), _, rfl, iteF (q H (Same.refl H))⟩
    · subst e
      have hl := hl x rfl
      refine ⟨_, rfl, _, _, _, _, true, rfl, .ty _, d.ty, kit_ty (by rw [t]; decide +kernel), _, rfl, iteT ?_⟩
      refine ⟨_, rfl, x, rfl, Nat.le_of_lt (small1000 hl), _, _, rfl, rfl, _, rfl, ?_⟩
      have es : x.length = x.cps.size := rfl
      by_cases c1 : (1 : Int) ≤ x.length
      · rw [decide_eq_true c1]
        refine iteT ⟨_, _, rfl, rfl, _, rfl, ?_⟩
        by_cases c2 : (x.length : Int) ≤ 6
        · rw [decide_eq_true c2]
          refine iteT ⟨_, rfl, x, rfl, lc_map enum_str (fun v => .bl (match v with | .str y => decide (y.cps.getD 0 0 ∈ smallS.cps.toList) | _ => false)) (fun _ _ _ _ => trivial) (by rw [signsV_len, ← es]; exact small1000 hl) ?_ ?_⟩
          · intro i v H' Cy ev sm h1
            obtain ⟨c, rfl⟩ : ∃ c, v = .str ⟨#[c]⟩ := by
              rw [signsV, List.getElem?_map] at ev
              cases e : x.cps.toList[i]? with
              | none => rw [e] at ev; cases ev
              | some c => rw [e] at ev; exact ⟨c, (Option.some.inj ev).symm⟩
            exact ⟨_, rfl, c, smallS, rfl, rfl, h1 H' (Same.refl _)⟩
          · intro D H' nD sm hD
            refine ⟨D, x.cps.toList.map (fun c => decide (c ∈ smallS.cps.toList)), rfl, ?_, ?_⟩
            · have e1 : (signsV x).map (fun v => V.bl (match v with | .str y => decide (y.cps.getD 0 0 ∈ smallS.cps.toList) | _ => false)) = (x.cps.toList.map (fun c => decide (c ∈ smallS.cps.toList))).map V.bl := by
                rw [signsV, List.map_map, List.map_map]
                rfl
              rw [e1] at hD
              exact sqL hD
            · have e2 : (x.cps.toList.map (fun c => decide (c ∈ smallS.cps.toList))).all id = isName (.str x) := by
                have h1 : decide (1 ≤ x.cps.size) = true := decide_eq_true (by rw [← es]; omega)
                have h2 : decide (x.cps.size ≤ 6) = true := decide_eq_true (by rw [← es]; omega)
                simp only [isName, nameS, h1, h2, Bool.true_and, List.all_map]
                rfl
              rw [e2]
              exact q H' sm
        · rw [decide_eq_false c2]
          have e3 : isName (.str x) = false := by
            have h2 : decide (x.cps.size ≤ 6) = false := decide_eq_false (by rw [← es]; omega)
            simp [isName, nameS, h2]
          rw [e3] at q
          exact iteF (q H (Same.refl H))
      · rw [decide_eq_false c1]
        have e3 : isName (.str x) = false := by
          have h2 : decide (1 ≤ x.cps.size) = false := decide_eq_false (by rw [← es]; omega)
          simp [isName, nameS, h2]
        rw [e3] at q
        exact iteF ⟨_, rfl, iteF (q H (Same.refl H))⟩
    · subst e
      exact ⟨_, rfl, _, _, _, _, false, rfl, .ty _, d.ty, kit_ty (by rw [t]; decide +kernel), _, rfl, iteF (q H (Same.refl H))⟩
    · subst e
      exact ⟨_, rfl, _, _, _, _, false, rfl, .ty _, d.ty, kit_ty (by rw [t]; decide +kernel), _, rfl, iteF (q H (Same.refl H))⟩

def sp_need_name (C : Addr) : Sp := fun vs H Q E => ∃ (v : V), vs = [v] ∧ Dat H v ∧ (∀ x, v = .str x → x.length ≤ 1000) ∧ ((isName v = true ∧ ∀ H', Same H H' → Q .non H') ∨ (isName v = false ∧ ∀ H', Same H H' → E (.ref C) none H'))
theorem ok_need_name (T : Tx K mg) : FnOk P w K mg base (L2N.CX P w) 2 T.f_need_name T.d_need_name ["thing"] (sp_need_name T.C_BadName) := by
  refine okN T.F_need_name sc_need_name (fun vs H Q E h => ?_) (fun cdv A outer s H vs Q E hr h => ?_)
  · obtain ⟨v, rfl, _⟩ := h
    rfl
  · obtain ⟨v, rfl, d, hl, k⟩ := h
    refine ⟨_, (pss_one (ps_if (pt_not (pt_val (pe_call (ok_is_name T) (hr.mono (by decide)) (by rfl) T.g_is_name T.F_is_name.kp T.b_is_name .nil pass0 (pa_cons (pv 0) pa_nil)))) (pss_one (L2N.ps_raise rfl (L2N.takes_of rfl rfl rfl rfl) (L2N.pmk_own PySem.F.excBase_ValueError T.x_BadName T.g_BadName T.k_BadName (raises_own T.e_BadName T.t_BadName) (by rfl)))) pss_nil)), ?_⟩
    refine ⟨_, rfl, v, rfl, d, hl, fun H' sm => ⟨_, rfl, ?_⟩⟩
    rcases k with ⟨e, k⟩ | ⟨e, k⟩
    · rw [e]
      exact iteF (k H' sm)
    · rw [e]
      exact iteT (k H' sm)

def sp_need_point (C : Addr) : Sp := fun vs H Q E => ∃ (v : V), vs = [v] ∧ Dat H v ∧ (∀ xs, tupOf H v = some xs → xs.length ≤ 1000 ∧ ∀ x ∈ xs, Dat H x) ∧ ((isPoint H v = true ∧ ∀ H', Same H H' → Q .non H') ∨ (isPoint H v = false ∧ ∀ H', Same H H' → E (.ref C) none H'))
theorem ok_need_point (T : Tx K mg) : FnOk P w K mg base (L2N.CX P w) 2 T.f_need_point T.d_need_point ["thing"] (sp_need_point T.C_BadPoint) := by
  refine okN T.F_need_point sc_need_point (fun vs H Q E h => ?_) (fun cdv A outer s H vs Q E hr h => ?_)
  · obtain ⟨v, rfl, _⟩ := h
    rfl
  · obtain ⟨v, rfl, d, hx, k⟩ := h
    have k1 : isPoint H v = true → ∀ H', Same H H' → Q .non H' := fun e => k.elim (fun z => z.2) (fun z => by rw [e] at z; cases z.1)
    have k2 : isPoint H v = false → ∀ H', Same H H' → E (.ref T.C_BadPoint) none H' := fun e => k.elim (fun z => by rw [e] at z; cases z.1) (fun z => z.2)
    refine ⟨_, (pss_one (ps_if (PW.pt (pw_or (pt_not (pt_val (pe_callB call_isi (by rfl) T.n_isinstance (by decide +kernel) (pa_cons (pv 0) (pa_cons (pe_bltn (v := .ty "tuple") (by rfl) T.n_tuple (by decide +kernel) rfl) pa_nil))))) (pw_or (pt_cmpR op_ne (pe_callB call_len_seq (by rfl) T.n_len (by decide +kernel) (pa_cons (pv 0) pa_nil)) pe_int (nomark _)) (pw_or1 (pt_not (pt_val (pe_callB (cr_all rfl) (by rfl) T.n_all (by decide +kernel) (pa_cons (pe_lc (own := [("one", 1)]) (g := gName 1) (tt := tYes) (by rfl) sc_need_point.nd (pi_tup (pv 0)) (blkOk_by (own := [("one", 1)]) (N := ["thing", "one"]) (sc := defScope s_need_point) (by decide +kernel)) (fun _ _ _ _ _ => (pg_name (i := 1) sc_need_point.nd rfl (Or.inl rfl))) (fun _ _ _ _ _ => pts_nil) (fun _ _ _ _ _ => (pe_call (ok_is_count T) (hr.mono (by decide)) (by rfl) T.g_is_count T.F_is_count.kp T.b_is_count .nil pass0 (pa_cons (pv 1) (pa_cons pe_int (pa_cons (pe_glob (v := .int 4095) (by rfl) T.g_MOST_SIDE ⟨_, rfl⟩) pa_nil)))))) pa_nil)))))))) (pss_one (L2N.ps_raise rfl (L2N.takes_of rfl rfl rfl rfl) (L2N.pmk_own PySem.F.excBase_ValueError T.x_BadPoint T.g_BadPoint T.k_BadPoint (raises_own T.e_BadPoint T.t_BadPoint) (by rfl)))) pss_nil)), ?_⟩
    have no : tupOf H v = none → isPoint H v = false := fun e => by unfold isPoint; rw [e]
    rcases tyN_cases d with ⟨e, t⟩ | ⟨b, e, t⟩ | ⟨i, e, t⟩ | ⟨x, e, t⟩ | ⟨a, xs, e, e2, t⟩ | ⟨a, xs, e, e2, t⟩
    · subst e
      exact ⟨_, rfl, _, _, _, _, false, rfl, .ty _, d.ty, kit_ty (by rw [t]; decide +kernel), _, rfl, iteT (iteT (k2 (no rfl) H (Same.refl H)))⟩
    · subst e
      exact ⟨_, rfl, _, _, _, _, false, rfl, .ty _, d.ty, kit_ty (by rw [t]; decide +kernel), _, rfl, iteT (iteT (k2 (no rfl) H (Same.refl H)))⟩
    · subst e
      exact ⟨_, rfl, _, _, _, _, false, rfl, .ty _, d.ty, kit_ty (by rw [t]; decide +kernel), _, rfl, iteT (iteT (k2 (no rfl) H (Same.refl H)))⟩
    · subst e
      exact ⟨_, rfl, _, _, _, _, false, rfl, .ty _, d.ty, kit_ty (by rw [t]; decide +kernel), _, rfl, iteT (iteT (k2 (no rfl) H (Same.refl H)))⟩
    · subst e
      have et := tupOf_ref e2
      obtain ⟨hl, hd⟩ := hx xs et
      refine ⟨_, rfl, _, _, _, _, true, rfl, .ty _, d.ty, kit_ty (by rw [t]; decide +kernel), _, rfl, iteF ?_⟩
      refine ⟨_, rfl, a, xs, rfl, .inr (sqT e2), rfl, _, rfl, ?_⟩
      by_cases c : xs.length = 2
      · have ec : decide (V.int (xs.length : Nat) = V.int 2) = true := decide_eq_true (by rw [c]; rfl)
        rw [ec]
        refine iteF ⟨_, rfl, a, rfl, ⟨xs, sqT e2⟩, lc_map (enum_tup (xs := xs)) (fun v => .bl (isCount 0 4095 v)) (fun D H' nD s => sqT (s _ _ (ne_of_none e2 nD) e2)) (small1000 hl) ?_ ?_⟩
        · intro i v H' Cy ev sm h1
          exact ⟨_, rfl, v, 0, 4095, rfl, (hd v (List.mem_of_getElem? ev)).same sm, h1 H' (Same.refl _)⟩
        · intro D H' nD sm hD
          refine ⟨D, xs.map (isCount 0 4095), rfl, sqL (by rw [List.map_map]; exact hD), _, rfl, ?_⟩
          have e3 : isPoint H (.ref a) = (xs.map (isCount 0 4095)).all id := by
            unfold isPoint
            rw [et]
            simp only [decide_eq_true c, Bool.true_and, List.all_map]
            rfl
          cases e4 : (xs.map (isCount 0 4095)).all id with
          | true => exact iteF (k1 (e3.trans e4) H' sm)
          | false => exact iteT (k2 (e3.trans e4) H' sm)
      · have ec : decide (V.int (xs.length : Nat) = V.int 2) = false := decide_eq_false (fun z => c (by injection z with z; omega))
        rw [ec]
        have e3 : isPoint H (.ref a) = false := by
          unfold isPoint
          rw [et]
          simp only [decide_eq_false c, Bool.false_and]
        exact iteT (iteT (k2 e3 H (Same.refl H)))
    · subst e
      have et : tupOf H (.ref a) = none := by simp [tupOf, e2]
      exact ⟨_, rfl, _, _, _, _, false, rfl, .ty _, d.ty, kit_ty (by rw [t]; decide +kernel), _, rfl, iteT (iteT (k2 (no et) H (Same.refl H)))⟩

def sp_need_size (C : Addr) : Sp := fun vs H Q E => ∃ (v : V), vs = [v] ∧ Dat H v ∧ ((isCount 0 13 v = true ∧ Q .non H) ∨ (isCount 0 13 v = false ∧ E (.ref C) none H))
theorem ok_need_size (T : Tx K mg) : FnOk P w K mg base (L2N.CX P w) 2 T.f_need_size T.d_need_size ["thing"] (sp_need_size T.C_BadSize) := by
  refine okN T.F_need_size sc_need_size (fun vs H Q E h => ?_) (fun cdv A outer s H vs Q E hr h => ?_)
  · obtain ⟨v, rfl, _⟩ := h
    rfl
  · obtain ⟨v, rfl, d, k⟩ := h
    refine ⟨_, (pss_one (ps_if (pt_not (pt_val (pe_call (ok_is_count T) (hr.mono (by decide)) (by rfl) T.g_is_count T.F_is_count.kp T.b_is_count .nil pass0 (pa_cons (pv 0) (pa_cons pe_int (pa_cons (pe_glob (v := .int 13) (by rfl) T.g_MOST_SIZE ⟨_, rfl⟩) pa_nil)))))) (pss_one (L2N.ps_raise rfl (L2N.takes_of rfl rfl rfl rfl) (L2N.pmk_own PySem.F.excBase_ValueError T.x_BadSize T.g_BadSize T.k_BadSize (raises_own T.e_BadSize T.t_BadSize) (by rfl)))) pss_nil)), ?_⟩
    refine ⟨_, rfl, v, 0, 13, rfl, d, _, rfl, ?_⟩
    rcases k with ⟨e, k⟩ | ⟨e, k⟩
    · rw [e]
      exact iteF k
    · rw [e]
      exact iteT k

def sp_reach : Sp := fun vs H Q _ => ∃ (s : Int), vs = [.int s] ∧ 0 ≤ s ∧ s ≤ 13 ∧ Q (.int (reachI s)) H
theorem ok_reach (T : Tx K mg) : FnOk P w K mg base CX0 1 T.f_reach T.d_reach ["size"] (sp_reach) := by
  refine T.F_reach.ok sc_reach (fun vs H Q E h => ?_) (fun cdv A outer s H vs Q E hr h => ?_)
  · obtain ⟨s, rfl, _⟩ := h
    rfl
  · obtain ⟨z, rfl, h0, h1, q⟩ := h
    refine ⟨_, (pss_one (ps_ret (pe_ix ix_tup (pe_glob (v := .ref T.a_REACHES) (by rfl) T.g_REACHES rfl) (pv 0) (fun _ _ => rfl)))), ?_⟩
    have e : (reachs.map V.int)[z.toNat]? = some (.int (reachI z)) := by
      rw [List.getElem?_map, reachI, List.getD_eq_getElem?_getD, List.getElem?_eq_getElem (by show z.toNat < 14; omega)]
      rfl
    exact ⟨_, rfl, _, _, _, _, rfl, rfl, T.s_REACHES H, at_of (j := z.toNat) (by omega) e, q⟩

def sp_apart : Sp := fun vs H Q _ => ∃ (v u : V) (p q : Pt), vs = [v, u] ∧ PtAt H v p ∧ PtAt H u q ∧ Q (.int (dist p q)) H
theorem ok_apart (T : Tx K mg) : FnOk P w K mg base CX0 1 T.f_apart T.d_apart ["one", "other"] (sp_apart) := by
  refine T.F_apart.ok sc_apart (fun vs H Q E h => ?_) (fun cdv A outer s H vs Q E hr h => ?_)
  · obtain ⟨v, u, p, r, rfl, _⟩ := h
    rfl
  · obtain ⟨v, u, p, r, rfl, ⟨a, rfl, ha⟩, ⟨b, rfl, hb⟩, q⟩ := h
    refine ⟨_, (pss_one (ps_ret (pe_callB (call_max2 rfl) (by rfl) T.n_max (by decide +kernel) (pa_cons (pe_callB call_abs (by rfl) T.n_abs (by decide +kernel) (pa_cons (pe_op op_sub (pe_ix ix_tup (pv 0) pe_int (fun _ _ => rfl)) (pe_ix ix_tup (pv 1) pe_int (fun _ _ => rfl))) pa_nil)) (pa_cons (pe_callB call_abs (by rfl) T.n_abs (by decide +kernel) (pa_cons (pe_op op_sub (pe_ix ix_tup (pv 0) pe_int (fun _ _ => rfl)) (pe_ix ix_tup (pv 1) pe_int (fun _ _ => rfl))) pa_nil)) pa_nil))))), ?_⟩
    refine ⟨_, rfl, _, _, _, _, rfl, rfl, sqT ha, atI_nat (j := 0) rfl, _, rfl, _, _, _, _, rfl, rfl, sqT hb, atI_nat (j := 0) rfl, _, _, rfl, rfl, _, rfl, ?_⟩
    refine ⟨_, rfl, _, _, _, _, rfl, rfl, sqT ha, atI_nat (j := 1) rfl, _, rfl, _, _, _, _, rfl, rfl, sqT hb, atI_nat (j := 1) rfl, _, _, rfl, rfl, _, rfl, ?_⟩
    exact ⟨_, _, rfl, q⟩

def sp_far (C : Addr) : Sp := fun vs H Q E => ∃ (v u : V), vs = [v, u] ∧ PD H v ∧ PD H u ∧ ((∃ p q, PtAt H v p ∧ PtAt H u q ∧ PtOk p ∧ PtOk q ∧ ∀ H', Same H H' → Q (.int (dist p q)) H') ∨ ((isPoint H v = false ∨ isPoint H u = false) ∧ ∀ H', Same H H' → E (.ref C) none H'))
theorem ok_far (T : Tx K mg) : FnOk P w K mg base (L2N.CX P w) 3 T.f_far T.d_far ["one", "other"] (sp_far T.C_BadPoint) := by
  refine okN T.F_far sc_far (fun vs H Q E h => ?_) (fun cdv A outer s H vs Q E hr h => ?_)
  · obtain ⟨v, u, rfl, _⟩ := h
    rfl
  · obtain ⟨v, u, rfl, dv, du, k⟩ := h
    refine ⟨_, (pss_cons (ps_expr (pe_call (ok_need_point T) (hr.mono (by decide)) (by rfl) T.g_need_point T.F_need_point.kp T.b_need_point .nil (L2N.passes_call (L2N.takes_of rfl rfl rfl rfl) (fun _ _ _ _ h => h)) (pa_cons (pv 0) pa_nil)))
      (pss_cons (ps_expr (pe_call (ok_need_point T) (hr.mono (by decide)) (by rfl) T.g_need_point T.F_need_point.kp T.b_need_point .nil (L2N.passes_call (L2N.takes_of rfl rfl rfl rfl) (fun _ _ _ _ h => h)) (pa_cons (pv 1) pa_nil)))
      (pss_one (ps_ret (pe_call (ok_apart T) (hr.mono (by decide)) (by rfl) T.g_apart T.F_apart.kp T.b_apart .nil pass0 (pa_cons (pv 0) (pa_cons (pv 1) pa_nil))))))), ?_⟩
    rcases k with ⟨p, q, hp, hq, op, oq, k1⟩ | ⟨hb, k2⟩
    rotate_left
    · cases ev : isPoint H v with
      | false => exact ⟨_, rfl, v, rfl, dv.1, dv.2, .inr ⟨ev, k2⟩⟩
      | true =>
        refine ⟨_, rfl, v, rfl, dv.1, dv.2, .inl ⟨ev, fun H1 s1 => ⟨_, rfl, u, rfl, (du.same s1).1, (du.same s1).2, .inr ⟨?_, fun H2 s2 => k2 H2 (s1.trans s2)⟩⟩⟩⟩
        rw [isPoint_same du s1]
        rw [ev] at hb
        exact hb.elim (fun z => nomatch z) id
    refine ⟨_, rfl, v, rfl, dv.1, dv.2, .inl ⟨isPoint_of hp op, fun H1 s1 => ?_⟩⟩
    refine ⟨_, rfl, u, rfl, (du.same s1).1, (du.same s1).2, .inl ⟨isPoint_of (hq.same s1) oq, fun H2 s2 => ?_⟩⟩
    exact ⟨_, rfl, _, rfl, v, u, p, q, rfl, hp.same (s1.trans s2), hq.same (s1.trans s2), k1 H2 (s1.trans s2)⟩

def sp_near_size (C : Addr) : Sp := fun vs H Q E => ∃ (v u : V), vs = [v, u] ∧ PD H v ∧ PD H u ∧ ((∃ p q, PtAt H v p ∧ PtAt H u q ∧ PtOk p ∧ PtOk q ∧ ∀ H', Same H H' → Q (.int (nearSize (dist p q))) H') ∨ ((isPoint H v = false ∨ isPoint H u = false) ∧ ∀ H', Same H H' → E (.ref C) none H'))
theorem ok_near_size (T : Tx K mg) : FnOk P w K mg base (L2N.CX P w) 3 T.f_near_size T.d_near_size ["one", "other"] (sp_near_size T.C_BadPoint) := by
  refine okN T.F_near_size sc_near_size (fun vs H Q E h => ?_) (fun cdv A outer s H vs Q E hr h => ?_)
  · obtain ⟨v, u, rfl, _⟩ := h
    rfl
  · obtain ⟨v, u, rfl, dv, du, k⟩ := h
    refine ⟨_, (pss_cons (ps_expr (pe_call (ok_need_point T) (hr.mono (by decide)) (by rfl) T.g_need_point T.F_need_point.kp T.b_need_point .nil (L2N.passes_call (L2N.takes_of rfl rfl rfl rfl) (fun _ _ _ _ h => h)) (pa_cons (pv 0) pa_nil)))
      (pss_cons (ps_expr (pe_call (ok_need_point T) (hr.mono (by decide)) (by rfl) T.g_need_point T.F_need_point.kp T.b_need_point .nil (L2N.passes_call (L2N.takes_of rfl rfl rfl rfl) (fun _ _ _ _ h => h)) (pa_cons (pv 1) pa_nil)))
      (pss_one (ps_ret (pe_ix ix_list (pe_lc (own := [("size", 2)]) (g := gName 2)  (by rfl) sc_near_size.nd (pi_range1 (by rfl) T.n_range (pa_cons (pe_op op_add (pe_glob (v := .int 13) (by rfl) T.g_MOST_SIZE ⟨_, rfl⟩) pe_int) pa_nil)) (blkOk_by (own := [("size", 2)]) (N := ["one", "other", "size"]) (sc := defScope s_near_size) (by decide +kernel)) (fun _ _ _ _ _ => (pg_name (i := 2) sc_near_size.nd rfl (Or.inl rfl))) (fun _ _ _ _ _ => (pts_one (pt_cmpR op_le (pe_call (ok_apart T) (hr.mono (by decide)) (by rfl) T.g_apart T.F_apart.kp T.b_apart .nil pass0 (pa_cons (pv 0) (pa_cons (pv 1) pa_nil))) (pe_call (ok_reach T) (hr.mono (by decide)) (by rfl) T.g_reach T.F_reach.kp T.b_reach .nil pass0 (pa_cons (pv 2) pa_nil)) (nomark _)))) (fun _ _ _ _ _ => (pv 2))) pe_int (fun _ _ => rfl)))))), ?_⟩
    rcases k with ⟨p, q, hp, hq, op, oq, k1⟩ | ⟨hb, k2⟩
    rotate_left
    · cases ev : isPoint H v with
      | false => exact ⟨_, rfl, v, rfl, dv.1, dv.2, .inr ⟨ev, k2⟩⟩
      | true =>
        refine ⟨_, rfl, v, rfl, dv.1, dv.2, .inl ⟨ev, fun H1 s1 => ⟨_, rfl, u, rfl, (du.same s1).1, (du.same s1).2, .inr ⟨?_, fun H2 s2 => k2 H2 (s1.trans s2)⟩⟩⟩⟩
        rw [isPoint_same du s1]
        rw [ev] at hb
        exact hb.elim (fun z => nomatch z) id
    refine ⟨_, rfl, v, rfl, dv.1, dv.2, .inl ⟨isPoint_of hp op, fun H1 s1 => ?_⟩⟩
    refine ⟨_, rfl, u, rfl, (du.same s1).1, (du.same s1).2, .inl ⟨isPoint_of (hq.same s1) oq, fun H2 s2 => ?_⟩⟩
    have sm := s1.trans s2
    have hd : dist p q ≤ 4096 := by have := dist_le op oq; omega
    refine ⟨_, _, rfl, rfl, 14, rfl, by decide, by decide, lc_fun (enum_range (lo := 0) (n := 14)) (nearB (dist p q)) (fun v => v) (fun _ _ _ _ => trivial) (by rw [rangeV_len]; decide) ?_ ?_⟩
    · intro i x H3 Cy Cn ex s3 h1 h2
      have hi : i < 14 := by
        have := (List.getElem?_eq_some_iff.mp ex).1
        rwa [rangeV_len] at this
      rw [rangeV_get hi] at ex
      cases ex
      refine ⟨_, rfl, _, rfl, v, u, p, q, rfl, hp.same (sm.trans s3), hq.same (sm.trans s3), _, rfl, _, rfl, by omega, by omega, _, _, rfl, rfl, _, rfl, ?_⟩
      refine ite2 (fun c => ?_) (fun c => ?_)
      · exact ⟨_, rfl, h1 H3 (Same.refl _) c⟩
      · exact h2 H3 (Same.refl _) (Bool.eq_false_iff.mpr c)
    · intro D H3 nD s3 hD
      rw [List.map_id''] at hD
      refine ⟨D, _, 0, .int (nearSize (dist p q)), rfl, rfl, sqL hD, at_of (j := 0) rfl (nearSize_head hd), k1 H3 (sm.trans s3)⟩
      exact fun x => rfl

def sp_law_cell (K : PySem.W.Frag) : Sp := fun vs H Q _ => ∃ (a : Addr) (ns : List Int) (k : Int), vs = [.ref a, .int k] ∧ SqL K H a (ns.map V.int) ∧ ns.length ≤ 63 ∧ 0 ≤ k ∧ k ≤ 5 ∧ ∀ c H', Same H H' → Q (.int c) H'
theorem ok_law_cell (T : Tx K mg) : FnOk P w K mg base CX0 1 T.f_law_cell T.d_law_cell ["script", "k"] (sp_law_cell K) := by
  refine T.F_law_cell.ok sc_law_cell (fun vs H Q E h => ?_) (fun cdv A outer s H vs Q E hr h => ?_)
  · obtain ⟨a, ns, k, rfl, _⟩ := h
    rfl
  · obtain ⟨a, ns, k, rfl, hS, hl, hk0, hk, q⟩ := h
    refine ⟨_, (pss_cons (ps_if (pt_cmpR (op_eqD hr.units) (pv 0) (pe_lst pa_nil) (nomark _)) (pss_one (ps_ret (pe_op op_mul (pv 1) pe_int))) pss_nil)
      (pss_one (ps_ret (pe_op op_add (pe_ix ix_list (pv 0) (pe_op op_mod (pv 1) (pe_callB call_len_seq (by rfl) T.n_len (by decide +kernel) (pa_cons (pv 0) pa_nil))) (fun _ _ => rfl)) (pe_op op_mul (pe_op op_fdiv (pv 1) (pe_callB call_len_seq (by rfl) T.n_len (by decide +kernel) (pa_cons (pv 0) pa_nil))) pe_int))))), ?_⟩
    refine ⟨_, rfl, Nat.zero_le _, fun l nl => ⟨.list (ns.map .int), .list [], .lst ((same_upd nl).seq hS) (dpAll_ints ns), .lst (sqL upd_same) .nil, (lay_list (lay_map fun x _ => lay_int x)).shaped (by decide), (lay_list (n := 0) lay_nil).shaped (by decide), _, rfl, ?_⟩⟩
    rw [eqv_nil]
    have sm : Same H (upd H l (.lst [])) := same_upd nl
    cases ns with
    | nil => exact iteT ⟨_, rfl, _, _, rfl, rfl, .inr ⟨by decide, by decide⟩, q _ _ sm⟩
    | cons n ns =>
      refine iteF ?_
      have hp : (0 : Int) < ((n :: ns).map V.int).length := by rw [List.length_map]; exact Int.natCast_pos.mpr (Nat.succ_pos _)
      have hlt : (((n :: ns).map V.int).length : Int) < 1073741824 := by
        rw [List.length_map]; omega
      have hm0 := Int.emod_nonneg k (Int.ne_of_gt hp)
      have hm1 := Int.emod_lt_of_pos k hp
      obtain ⟨j, hj⟩ : ∃ j : Nat, k % (((n :: ns).map V.int).length : Int) = j := ⟨(k % (((n :: ns).map V.int).length : Int)).toNat, by omega⟩
      have hj2 : j < (n :: ns).length := by
        rw [List.length_map] at hm1 hj
        omega
      refine ⟨_, rfl, _, rfl, _, rfl, a, _, rfl, .inl (sm.seq hS), _, _, rfl, rfl, hp, a, _, _, .int (n :: ns)[j], rfl, rfl, sm.seq hS, at_of hj ?_, ?_⟩
      · rw [List.getElem?_map, List.getElem?_eq_getElem hj2]
        rfl
      · refine ⟨_, rfl, _, rfl, a, _, rfl, .inl (sm.seq hS), _, _, rfl, rfl, ⟨hp, hlt⟩, _, _, rfl, rfl, .inr ⟨by decide, by decide⟩, _, _, rfl, rfl, q _ _ sm⟩

def sp_law_drawn : Sp := fun vs H Q _ => ∃ (c k : Int), vs = [.int c, .int k] ∧ -1000 ≤ k ∧ k ≤ 1000 ∧ ∀ r : Int, 0 ≤ r → r < 340282366920938463463374607431768211507 → Q (.int r) H
theorem ok_law_drawn (T : Tx K mg) : FnOk P w K mg base CX0 1 T.f_law_drawn T.d_law_drawn ["cell", "k"] (sp_law_drawn) := by
  refine T.F_law_drawn.ok sc_law_drawn (fun vs H Q E h => ?_) (fun cdv A outer s H vs Q E hr h => ?_)
  · obtain ⟨c, k, rfl, _⟩ := h
    rfl
  · obtain ⟨c, k, rfl, k0, k1, q⟩ := h
    refine ⟨_, (pss_cons (ps_set (i := 2) sc_law_drawn.nd rfl (Or.inl rfl) (pe_op op_mod (pe_op op_add (pe_op op_mul (pv 0) pe_int) (pe_op op_mul (pe_op op_add (pv 1) pe_int) pe_int)) pe_int))
      (pss_cons (ps_set (i := 2) sc_law_drawn.nd rfl (Or.inl rfl) (pe_op op_mod (pe_op op_mulW (pv 2) (pv 2)) pe_int))
      (pss_cons (ps_set (i := 2) sc_law_drawn.nd rfl (Or.inl rfl) (pe_op op_mulW (pe_op op_mul (pe_op op_add (pe_op op_mod (pv 2) pe_int) pe_int) (pe_op op_add (pe_op op_fdivW (pv 2) pe_int) pe_int)) (pv 2)))
      (pss_one (ps_ret (pe_op op_mod (pv 2) pe_int)))))), ?_⟩
    refine ⟨_, rfl, _, _, rfl, rfl, .inr ⟨by decide, by decide⟩, _, rfl, _, _, rfl, rfl, _, _, rfl, rfl, .inr ⟨by decide, by decide⟩, _, _, rfl, rfl, _, _, rfl, rfl, (by show (0 : Int) < 340282366920938463463374607431768211507; decide), ?_⟩
    have big : ∀ z : Int, (z % 340282366920938463463374607431768211507).natAbs < 2 ^ 129 := fun z => by
      have h0 := Int.emod_nonneg z (show (340282366920938463463374607431768211507 : Int) ≠ 0 by decide)
      have h1 := Int.emod_lt_of_pos z (show (0 : Int) < 340282366920938463463374607431768211507 by decide)
      have h2 : (2 : Nat) ^ 129 = 680564733841876926926749214863536422912 := by decide
      omega
    have bigN : ∀ z : Int, 0 ≤ z % 340282366920938463463374607431768211297 ∧ z % 340282366920938463463374607431768211297 < 340282366920938463463374607431768211297 := fun z =>
      ⟨Int.emod_nonneg z (by decide), Int.emod_lt_of_pos z (by decide)⟩
    have bigN2 : ∀ z : Int, (z % 340282366920938463463374607431768211297).natAbs < 2 ^ 129 := fun z => by
      have h := bigN z
      have h2 : (2 : Nat) ^ 129 = 680564733841876926926749214863536422912 := by decide
      omega
    have dv : ∀ z : Int, 0 ≤ z → z < 340282366920938463463374607431768211297 → 0 ≤ z / 18446744073709551557 ∧ z / 18446744073709551557 < 36893488147419103232 := fun z h0 h1 => by omega
    have md : ∀ z : Int, 0 ≤ z % 18446744073709551557 ∧ z % 18446744073709551557 < 18446744073709551557 := fun z => by omega
    have cv : ∀ z : Int, 0 ≤ z → z < 340282366920938463463374607431768211297 → ((z % 18446744073709551557 + 1) * (z / 18446744073709551557 + 1)).natAbs < 2 ^ (64 + 66) := fun z h0 h1 => by
      refine wide_lt ?_ ?_
      · have := md z
        have h2 : (2 : Nat) ^ 64 = 18446744073709551616 := by decide
        omega
      · have := dv z h0 h1
        have h2 : (2 : Nat) ^ 66 = 73786976294838206464 := by decide
        omega
    refine ⟨_, rfl, _, rfl, _, _, rfl, rfl, wide_mul (a := 129) (b := 129) (big _) (big _) (by decide) (by decide) (by decide), _, _, rfl, rfl, (by show (0 : Int) < 340282366920938463463374607431768211297; decide), ?_⟩
    refine ⟨_, rfl, _, _, rfl, rfl, (by show (0 : Int) < 18446744073709551557; decide), _, _, rfl, rfl, _, rfl, _, _, rfl, rfl, wide_div (b := 64) (by decide) (by decide) (by decide) (by decide), _, _, rfl, rfl, _, _, rfl, rfl, .inl ?_, _, rfl, _, _, rfl, rfl, wide_mul (a := 130) (b := 129) (cv _ (bigN _).1 (bigN _).2) (bigN2 _) (by decide) (by decide) (by decide), ?_⟩
    · have := md ((c * 6364136223846793005 + (k + 1) * 1442695040888963407) % 340282366920938463463374607431768211507 * ((c * 6364136223846793005 + (k + 1) * 1442695040888963407) % 340282366920938463463374607431768211507) % 340282366920938463463374607431768211297)
      have h2 : (2 : Int) ^ 64 = 18446744073709551616 := by decide
      rw [h2]
      constructor <;> omega
    refine ⟨_, rfl, _, _, rfl, rfl, (by show (0 : Int) < 340282366920938463463374607431768211507; decide), ?_⟩
    exact q _ (Int.emod_nonneg _ (by decide)) (Int.emod_lt_of_pos _ (by decide))

/-- the word of a refusal -/
def Wd (T : Tx K mg) (D : Addr) (nm : Str) : Prop := (D = T.C_BadHeap ∧ nm = "BadHeap") ∨ (D = T.C_BadName ∧ nm = "BadName") ∨ (D = T.C_BadPoint ∧ nm = "BadPoint") ∨ (D = T.C_BadSize ∧ nm = "BadSize") ∨ (D = T.C_BadText ∧ nm = "BadText")
def wordsL : List Str := ["BadHeap", "BadName", "BadPoint", "BadSize", "BadText"]
def sp_law_word (T : Tx K mg) : Addr × Obj → Sp := fun p vs H Q _ => ∃ (D : Addr) (nm : Str), vs = [.ref p.1] ∧ Zc (.ref D) none p.2 ∧ (∃ vs, p.2.data = .fields vs) ∧ Wd T D nm ∧ ∀ H' r, Same H H' → H' r = some (.tup [.str "refused", .str nm]) → Q (.ref r) H'
theorem wd_excC (T : Tx K mg) {D : Addr} {nm : Str} (h : Wd T D nm) : ExcC K D := by
  rcases h with ⟨e, _⟩ | ⟨e, _⟩ | ⟨e, _⟩ | ⟨e, _⟩ | ⟨e, _⟩
  · rw [e]; exact ⟨T.ga_BadHeap, T.gt_BadHeap, T.e_BadHeap, T.hd_BadHeap, T.cl_BadHeap, T.ocn, T.oct, T.mr_BadHeap⟩
  · rw [e]; exact ⟨T.ga_BadName, T.gt_BadName, T.e_BadName, T.hd_BadName, T.cl_BadName, T.ocn, T.oct, T.mr_BadName⟩
  · rw [e]; exact ⟨T.ga_BadPoint, T.gt_BadPoint, T.e_BadPoint, T.hd_BadPoint, T.cl_BadPoint, T.ocn, T.oct, T.mr_BadPoint⟩
  · rw [e]; exact ⟨T.ga_BadSize, T.gt_BadSize, T.e_BadSize, T.hd_BadSize, T.cl_BadSize, T.ocn, T.oct, T.mr_BadSize⟩
  · rw [e]; exact ⟨T.ga_BadText, T.gt_BadText, T.e_BadText, T.hd_BadText, T.cl_BadText, T.ocn, T.oct, T.mr_BadText⟩
theorem wd_flags (T : Tx K mg) {D : Addr} {nm : Str} (h : Wd T D nm) : ∃ (b1 b2 b3 b4 b5 : Bool) (j : Nat), PySem.W.kitOne K (.ref D) (.ref T.C_BadHeap) = some b1 ∧ PySem.W.kitOne K (.ref D) (.ref T.C_BadName) = some b2 ∧ PySem.W.kitOne K (.ref D) (.ref T.C_BadPoint) = some b3 ∧ PySem.W.kitOne K (.ref D) (.ref T.C_BadSize) = some b4 ∧ PySem.W.kitOne K (.ref D) (.ref T.C_BadText) = some b5 ∧ PySem.W.kitOne K (.ref D) (.type "ValueError") = some true ∧
    ([b1, b2, b3, b4, b5].map fun b => b2i b).sum = 1 ∧ [b1, b2, b3, b4, b5][j]? = some true ∧ (∀ i < j, [b1, b2, b3, b4, b5][i]? = some false) ∧ wordsL[j]? = some nm := by
  rcases h with ⟨e, n⟩ | ⟨e, n⟩ | ⟨e, n⟩ | ⟨e, n⟩ | ⟨e, n⟩
  · rw [e, n]; exact ⟨true, false, false, false, false, 0, T.kit_BadHeap_BadHeap, T.kit_BadHeap_BadName, T.kit_BadHeap_BadPoint, T.kit_BadHeap_BadSize, T.kit_BadHeap_BadText, T.kit_BadHeap_VE, rfl, rfl, by decide, rfl⟩
  · rw [e, n]; exact ⟨false, true, false, false, false, 1, T.kit_BadName_BadHeap, T.kit_BadName_BadName, T.kit_BadName_BadPoint, T.kit_BadName_BadSize, T.kit_BadName_BadText, T.kit_BadName_VE, rfl, rfl, by decide, rfl⟩
  · rw [e, n]; exact ⟨false, false, true, false, false, 2, T.kit_BadPoint_BadHeap, T.kit_BadPoint_BadName, T.kit_BadPoint_BadPoint, T.kit_BadPoint_BadSize, T.kit_BadPoint_BadText, T.kit_BadPoint_VE, rfl, rfl, by decide, rfl⟩
  · rw [e, n]; exact ⟨false, false, false, true, false, 3, T.kit_BadSize_BadHeap, T.kit_BadSize_BadName, T.kit_BadSize_BadPoint, T.kit_BadSize_BadSize, T.kit_BadSize_BadText, T.kit_BadSize_VE, rfl, rfl, by decide, rfl⟩
  · rw [e, n]; exact ⟨false, false, false, false, true, 4, T.kit_BadText_BadHeap, T.kit_BadText_BadName, T.kit_BadText_BadPoint, T.kit_BadText_BadSize, T.kit_BadText_BadText, T.kit_BadText_VE, rfl, rfl, by decide, rfl⟩
theorem cls_ref {C : Addr} : ∀ u, RelV (.ref C) u → u = .ref C := fun _ h => h
theorem cls_ty {n : String} : ∀ u, RelV (.ty n) u → u = .type n := fun _ h => h
theorem ok_law_word (T : Tx K mg) : FnA P w K mg base CX0 1 T.f_law_word T.d_law_word ["e"] (sp_law_word T) := by
  refine fnA_of T.F_law_word sc_law_word (fun p vs H Q E h => ?_) (fun cdv A outer s H vs Q E p hot hr h => ?_)
  · obtain ⟨D, nm, rfl, _⟩ := h
    rfl
  · obtain ⟨D, nm, rfl, hz, hf, wd, q⟩ := h
    obtain ⟨a, oe⟩ := p
    have xc := wd_excC T wd
    have hot' : Hot1 (A.deeper (envOfC "_law_word" (defScope s_law_word) s.heap.objs.size T.f_law_word cdv)) (a, oe) := ⟨hot.1, hot.2⟩
    obtain ⟨b1, b2, b3, b4, b5, j, e1, e2, e3, e4, e5, ev, hs, hj, hlt, hn⟩ := wd_flags T wd
    refine ⟨_, (pss_cons (ps_set (i := 1) sc_law_word.nd rfl (Or.inl rfl) (pe_lst (pa_cons (pe_callB (call_isP (List.mem_singleton.mpr rfl) xc hz hf) (by rfl) T.n_isinstance (by decide +kernel) (pa_cons (pv 0) (pa_cons (pe_glob (v := .ref T.C_BadHeap) (by rfl) T.g_BadHeap rfl) pa_nil))) (pa_cons (pe_callB (call_isP (List.mem_singleton.mpr rfl) xc hz hf) (by rfl) T.n_isinstance (by decide +kernel) (pa_cons (pv 0) (pa_cons (pe_glob (v := .ref T.C_BadName) (by rfl) T.g_BadName rfl) pa_nil))) (pa_cons (pe_callB (call_isP (List.mem_singleton.mpr rfl) xc hz hf) (by rfl) T.n_isinstance (by decide +kernel) (pa_cons (pv 0) (pa_cons (pe_glob (v := .ref T.C_BadPoint) (by rfl) T.g_BadPoint rfl) pa_nil))) (pa_cons (pe_callB (call_isP (List.mem_singleton.mpr rfl) xc hz hf) (by rfl) T.n_isinstance (by decide +kernel) (pa_cons (pv 0) (pa_cons (pe_glob (v := .ref T.C_BadSize) (by rfl) T.g_BadSize rfl) pa_nil))) pa_nil))))))
      (pss_cons (ps_set (i := 1) sc_law_word.nd rfl (Or.inl rfl) (pe_op op_cat (pv 1) (pe_lst (pa_cons (pe_callB (call_isP (List.mem_singleton.mpr rfl) xc hz hf) (by rfl) T.n_isinstance (by decide +kernel) (pa_cons (pv 0) (pa_cons (pe_glob (v := .ref T.C_BadText) (by rfl) T.g_BadText rfl) pa_nil))) pa_nil))))
      (pss_cons (ps_if (PW.pt (pw_or (pt_cmpR op_ne (pe_callB (cr_sumH ⟨_, hot', List.mem_singleton.mpr rfl⟩) (by rfl) T.n_sum (by decide +kernel) (pa_cons (pe_lcH (own := [("flag", 2)]) (g := gName 2) (tt := tYes) hot (List.mem_singleton.mpr rfl) sc_law_word.nd (pi_listH (pv 1)) (blkOk_by (own := [("flag", 2)]) (N := ["e", "flags", "flag"]) (sc := defScope s_law_word) (by decide +kernel)) (fun _ _ _ _ _ => (pg_name (i := 2) sc_law_word.nd rfl (Or.inl rfl))) (fun _ _ _ _ _ => pts_nil) (fun _ _ _ _ _ => (pe_callTy call_int1 (by rfl) T.n_int (by decide +kernel) (pa_cons (pv 2) pa_nil)))) pa_nil)) pe_int (nomark _)) (pw_or1 (pt_not (pt_val (pe_callB (call_isP (List.mem_singleton.mpr rfl) xc hz hf) (by rfl) T.n_isinstance (by decide +kernel) (pa_cons (pv 0) (pa_cons (pe_bltn (v := .ty "ValueError") (by rfl) T.n_ValueError (by decide +kernel) rfl) pa_nil)))))))) (pss_one (ps_ret (pe_tup (pa_cons pe_str (pa_cons pe_str pa_nil))))) pss_nil)
      (pss_one (ps_ret (pe_tup (pa_cons pe_str (pa_cons (pe_ix ix_list (pe_lst (pa_cons pe_str (pa_cons pe_str (pa_cons pe_str (pa_cons pe_str (pa_cons pe_str pa_nil)))))) (pe_bm PySem.F.plainAttrs_list PySem.F.slot_list_index PySem.F.type_list_index mt_index (pv 1) (pa_cons pe_bl pa_nil)) (fun _ _ => rfl)) pa_nil)))))))), ?_⟩
    refine ⟨_, rfl, _, _, b1, rfl, cls_ref, e1, _, rfl, _, _, b2, rfl, cls_ref, e2, _, rfl, _, _, b3, rfl, cls_ref, e3, _, rfl, _, _, b4, rfl, cls_ref, e4, (by show 4 ≤ sizeLine; decide), fun l nl => ?_⟩
    have s1 := same_upd (o := .lst [V.bl b1, V.bl b2, V.bl b3, V.bl b4]) nl
    refine ⟨_, rfl, _, rfl, _, _, b5, rfl, cls_ref, e5, (by show 1 ≤ sizeLine; decide), fun l2 nl2 => ?_⟩
    have s2 := same_upd (o := .lst [V.bl b5]) nl2
    refine ⟨l, l2, _, _, rfl, rfl, s2 _ _ upd_same, upd_same, (by show 5 ≤ sizeLine; decide), fun l3 nl3 => ?_⟩
    have s3 := same_upd (o := .lst ([V.bl b1, V.bl b2, V.bl b3, V.bl b4] ++ [V.bl b5])) nl3
    have e3l : (upd (upd (upd H l (.lst [V.bl b1, V.bl b2, V.bl b3, V.bl b4])) l2 (.lst [V.bl b5])) l3 (.lst ([V.bl b1, V.bl b2, V.bl b3, V.bl b4] ++ [V.bl b5]))) l3 = some (.lst ([b1, b2, b3, b4, b5].map V.bl)) := upd_same
    refine ⟨_, rfl, l3, rfl, ⟨_, sqL e3l⟩, lc_map (enum_list (xs := [b1, b2, b3, b4, b5].map V.bl)) (fun v => match v with | .bl k => .int (b2i k) | _ => .int 0) (fun D H' nD s => sqL (s _ _ (ne_of_none e3l nD) e3l)) (by show 5 < sizeLine; decide) ?_ ?_⟩
    · intro i v H' Cy ev sm h1
      obtain ⟨k, rfl⟩ : ∃ k, v = .bl k := by
        rw [List.getElem?_map] at ev
        cases e : [b1, b2, b3, b4, b5][i]? with
        | none => rw [e] at ev; cases ev
        | some c => rw [e] at ev; exact ⟨c, (Option.some.inj ev).symm⟩
      exact ⟨_, rfl, .inr ⟨k, rfl, h1 H' (Same.refl _)⟩⟩
    · intro D H' nD sm hD
      have eD : ([b1, b2, b3, b4, b5].map V.bl).map (fun v => match v with | .bl k => V.int (b2i k) | _ => .int 0) = ([b1, b2, b3, b4, b5].map fun b => b2i b).map V.int := by
        rw [List.map_map, List.map_map]
        rfl
      rw [eD] at hD
      refine ⟨D, _, rfl, sqL hD, rfl, _, rfl, ?_⟩
      rw [hs]
      refine iteF ⟨_, rfl, _, _, true, rfl, cls_ty, ev, _, rfl, iteF ?_⟩
      have el : H' l3 = some (.lst ([b1, b2, b3, b4, b5].map V.bl)) := sm _ _ e3l
      refine ⟨(by show 5 ≤ sizeLine; decide), fun l4 nl4 => ?_⟩
      have s4 := same_upd (o := .lst (wordsL.map V.str)) nl4
      have el4 := s4 _ _ el
      refine ⟨_, rfl, .inl ⟨rfl, _, sqL el4⟩, l3, _, .bl true, j, .bl true, rfl, rfl, sqL el4, rfl, rfl, ?_, rfl, ?_, ?_⟩
      · rw [List.getElem?_map, hj]
        rfl
      · intro m z' hm hz'
        rw [List.getElem?_map, hlt m hm] at hz'
        cases hz'
        rfl
      · refine ⟨l4, _, _, .str nm, rfl, rfl, sqL upd_same, at_of (j := j) rfl ?_, (by show 2 ≤ sizeLine; decide), fun r nr => ?_⟩
        · show (wordsL.map V.str)[j]? = some (V.str nm)
          rw [List.getElem?_map, hn]
          rfl
        · exact q _ r (((((s1.trans s2).trans s3).trans sm).trans s4).trans (same_upd nr)) upd_same

--IMPORT law_word
theorem wd_exm (T : Tx K mg) {D : Addr} {nm : Str} (h : Wd T D nm) : PySem.W.exmOne K (.ref D) (.ref T.C_MarkError) = some true := by
  refine PySem.W.exm_ref T.e_MarkError T.hd_MarkError T.t_MarkError ?_
  rcases h with ⟨e, _⟩ | ⟨e, _⟩ | ⟨e, _⟩ | ⟨e, _⟩ | ⟨e, _⟩
  · rw [e]; exact T.sm_BadHeap
  · rw [e]; exact T.sm_BadName
  · rw [e]; exact T.sm_BadPoint
  · rw [e]; exact T.sm_BadSize
  · rw [e]; exact T.sm_BadText
theorem told_ok {X : Cx} (T : Tx X.K X.mg) {q : Str} {k : Nat} (cdv : Value) : Gives X ["deed", "e"] "_law_told" (defScope s_law_told) T.f_law_told cdv (defBody s_law_told) "deed" q (k + 1) (TTold X.K T.C_MarkError (sp_law_word T)) :=
  told_gives (by decide) rfl T.g_MarkError (by decide) rfl rfl T.g_law_word (by decide) (by decide) (by decide) (Nat.succ_le_succ (Nat.zero_le k)) (fun _ => ok_law_word T) T.F_law_word.kp T.b_law_word
/-- what told makes of a refusal -/
theorem told_E (T : Tx K mg) {D : Addr} {nm : Str} {H' : Hp} {Q : VK} (wd : Wd T D nm) (q : ∀ H'' r, Same H' H'' → H'' r = some (.tup [.str "refused", .str nm]) → Q (.ref r) H'') :
    ∃ b, PySem.W.exmOne K (.ref D) (.ref T.C_MarkError) = some b ∧ (b = true → ∀ (a : Addr) (oe : Obj), L2N.Zn (.ref D) none oe → (∃ vs, oe.data = .fields vs) → H' a = none → sp_law_word T (a, oe) [.ref a] H' Q E0) ∧ (b = false → False) :=
  ⟨true, wd_exm T wd, fun _ a oe hz hf _ => ⟨D, nm, rfl, hz.zc, hf, wd, q⟩, fun z => nomatch z⟩
theorem told_okL (T : Tx K mg) {N : List Str} {qual : Str} {sc : Scope} {f : Addr} {cd : Value} {A : Around} {outer : List Env} {s : Shared} {H : Hp} {E : XK} {q : Str} (k : Nat) (cdv : Value) :
    Gives (cxOf CX0 P w K mg base N qual sc f cd A outer s H E).nox ["deed", "e"] "_law_told" (defScope s_law_told) T.f_law_told cdv (defBody s_law_told) "deed" q (k + 1) (TTold K T.C_MarkError (sp_law_word T)) :=
  told_ok (X := (cxOf CX0 P w K mg base N qual sc f cd A outer s H E).nox) T cdv

def sp_law_point : Sp := fun vs H Q _ => ∃ (m : Int), vs = [.int m] ∧ ∀ (p : Pt) (v : V) (H' : Hp), PtOk p → Same H H' → PtAt H' v p → Q v H'
theorem ok_law_point (T : Tx K mg) : FnOk P w K mg base CX0 1 T.f_law_point T.d_law_point ["more"] (sp_law_point) := by
  refine T.F_law_point.ok sc_law_point (fun vs H Q E h => ?_) (fun cdv A outer s H vs Q E hr h => ?_)
  · obtain ⟨m, rfl, _⟩ := h
    rfl
  · obtain ⟨m, rfl, q⟩ := h
    refine ⟨_, (pss_cons (ps_set (i := 1) sc_law_point.nd rfl (Or.inl rfl) (pe_op op_fdiv (pv 0) pe_int))
      (pss_cons (ps_if (pt_cmpR op_eq (pe_op op_mod (pv 0) pe_int) pe_int (nomark _)) (pss_one (ps_ret (pe_tup (pa_cons (pe_op op_mod (pv 1) pe_int) (pa_cons (pe_op op_mod (pe_op op_fdiv (pv 1) pe_int) pe_int) pa_nil))))) pss_nil)
      (pss_cons (ps_set (i := 2) sc_law_point.nd rfl (Or.inl rfl) (pe_ix ix_list (pe_lst (pa_cons pe_int (pa_cons pe_int (pa_cons pe_int (pa_cons pe_int pa_nil))))) (pe_op op_mod (pe_op op_fdiv (pv 1) (pe_op op_pow pe_int pe_int)) pe_int) (fun _ _ => rfl)))
      (pss_one (ps_ret (pe_tup (pa_cons (pe_op op_mul (pe_op op_mod (pv 1) pe_int) (pv 2)) (pa_cons (pe_op op_mul (pe_op op_mod (pe_op op_fdiv (pv 1) pe_int) pe_int) (pv 2)) pa_nil)))))))), ?_⟩
    refine ⟨_, rfl, _, _, rfl, rfl, ⟨by decide, by decide⟩, ?_⟩
    refine ⟨_, rfl, _, _, rfl, rfl, (by show (0 : Int) < 4; decide), rfl, _, rfl, ?_⟩
    refine ite2 (fun _ => ?_) (fun _ => ?_)
    · refine ⟨_, rfl, _, _, rfl, rfl, (by show (0 : Int) < 4096; decide), _, rfl, _, _, rfl, rfl, ⟨by decide, by decide⟩, _, _, rfl, rfl, (by show (0 : Int) < 4096; decide), (by show 2 ≤ sizeLine; decide), fun a na => ?_⟩
      refine q (m / 8 % 4096, m / 8 / 4096 % 4096) _ _ ?_ (same_upd na) ⟨a, rfl, upd_same⟩
      unfold PtOk
      dsimp only
      omega
    · refine ⟨(by show 4 ≤ sizeLine; decide), fun l nl => ?_⟩
      have s1 := same_upd (o := .lst [V.int 1, .int 3, .int 10, .int 100]) nl
      have h0 := Int.emod_nonneg (m / 8 / 2 ^ (24 : Int).toNat) (show (4 : Int) ≠ 0 by decide)
      have h1 := Int.emod_lt_of_pos (m / 8 / 2 ^ (24 : Int).toNat) (show (0 : Int) < 4 by decide)
      obtain ⟨j, hj⟩ : ∃ j : Nat, m / 8 / 2 ^ (24 : Int).toNat % 4 = (j : Int) := ⟨(m / 8 / 2 ^ (24 : Int).toNat % 4).toNat, by omega⟩
      obtain ⟨b, hb, b0, b1⟩ : ∃ b : Int, ([V.int 1, .int 3, .int 10, .int 100] : List V)[j]? = some (.int b) ∧ 0 ≤ b ∧ b ≤ 100 := by
        have : j < 4 := by omega
        match j, this with
        | 0, _ => exact ⟨1, rfl, by decide, by decide⟩
        | 1, _ => exact ⟨3, rfl, by decide, by decide⟩
        | 2, _ => exact ⟨10, rfl, by decide, by decide⟩
        | 3, _ => exact ⟨100, rfl, by decide, by decide⟩
      refine ⟨_, rfl, _, _, rfl, rfl, ⟨by decide, by decide, by decide⟩, _, _, rfl, rfl, ⟨by decide, by decide⟩, _, _, rfl, rfl, (by show (0 : Int) < 4; decide), l, _, _, .int b, rfl, rfl, sqL upd_same, at_of hj hb, ?_⟩
      have c2 : ∀ z : Int, (-(2 ^ 64) : Int) < z % 12 ∧ z % 12 < 2 ^ 64 := fun z => by
        have h2 : (2 : Int) ^ 64 = 18446744073709551616 := by decide
        rw [h2]
        omega
      refine ⟨_, rfl, _, _, rfl, rfl, (by show (0 : Int) < 12; decide), _, rfl, _, _, rfl, rfl, .inl (c2 _), _, rfl, _, _, rfl, rfl, ⟨by decide, by decide⟩, _, _, rfl, rfl, (by show (0 : Int) < 12; decide), _, rfl, _, _, rfl, rfl, .inl (c2 _), (by show 2 ≤ sizeLine; decide), fun a na => ?_⟩
      refine q (m / 8 % 12 * b, m / 8 / 16 % 12 * b) _ _ ?_ (s1.trans (same_upd na)) ⟨a, rfl, upd_same⟩
      have e1 : 0 ≤ m / 8 % 12 * b := Int.mul_nonneg (by omega) b0
      have e2 : m / 8 % 12 * b ≤ 11 * 100 := Int.mul_le_mul (by omega) b1 b0 (by decide)
      have e3 : 0 ≤ m / 8 / 16 % 12 * b := Int.mul_nonneg (by omega) b0
      have e4 : m / 8 / 16 % 12 * b ≤ 11 * 100 := Int.mul_le_mul (by omega) b1 b0 (by decide)
      unfold PtOk
      dsimp only
      omega

def sp_law_far : Sp := fun vs H Q _ => ∃ (v u : V) (p q : Pt), vs = [v, u] ∧ PtAt H v p ∧ PtAt H u q ∧ ∀ H', Same H H' → Q (.int (dist p q)) H'
theorem ok_law_far (T : Tx K mg) : FnOk P w K mg base CX0 1 T.f_law_far T.d_law_far ["one", "other"] (sp_law_far) := by
  refine T.F_law_far.ok sc_law_far (fun vs H Q E h => ?_) (fun cdv A outer s H vs Q E hr h => ?_)
  · obtain ⟨v, u, p, r, rfl, _⟩ := h
    rfl
  · obtain ⟨v, u, p, r, rfl, ⟨a, rfl, ha⟩, ⟨b, rfl, hb⟩, q⟩ := h
    refine ⟨_, (pss_one (ps_ret (pe_ix ix_list (pe_callB cr_sorted (by rfl) T.n_sorted (by decide +kernel) (pa_cons (pe_lst (pa_cons (pe_callB call_abs (by rfl) T.n_abs (by decide +kernel) (pa_cons (pe_op op_sub (pe_ix ix_tup (pv 0) pe_int (fun _ _ => rfl)) (pe_ix ix_tup (pv 1) pe_int (fun _ _ => rfl))) pa_nil)) (pa_cons (pe_callB call_abs (by rfl) T.n_abs (by decide +kernel) (pa_cons (pe_op op_sub (pe_ix ix_tup (pv 0) pe_int (fun _ _ => rfl)) (pe_ix ix_tup (pv 1) pe_int (fun _ _ => rfl))) pa_nil)) pa_nil))) pa_nil)) pe_int (fun _ _ => rfl)))), ?_⟩
    refine ⟨_, rfl, _, _, _, _, rfl, rfl, sqT ha, atI_nat (j := 0) rfl, _, rfl, _, _, _, _, rfl, rfl, sqT hb, atI_nat (j := 0) rfl, _, _, rfl, rfl, _, rfl, ?_⟩
    refine ⟨_, rfl, _, _, _, _, rfl, rfl, sqT ha, atI_nat (j := 1) rfl, _, rfl, _, _, _, _, rfl, rfl, sqT hb, atI_nat (j := 1) rfl, _, _, rfl, rfl, _, rfl, ?_⟩
    refine ⟨(by show 2 ≤ sizeLine; decide), fun l nl => ?_⟩
    refine ⟨l, [iabs (p.1 - r.1), iabs (p.2 - r.2)], rfl, sqL upd_same, (by show 2 < 64; decide), fun ns' m hp hs nm => ?_⟩
    have s1 := (same_upd (o := .lst [V.int (iabs (p.1 - r.1)), V.int (iabs (p.2 - r.2))]) nl).trans (same_upd (o := .lst (ns'.map V.int)) nm)
    have hlen : ns'.length = 2 := hp.length_eq
    match ns', hlen, hp, hs with
    | [x, y], _, hp, hs =>
      have e : y = dist p r := by
        have hxy : x ≤ y := by simpa using hs
        have h1 : iabs (p.1 - r.1) ∈ [x, y] := hp.mem_iff.mpr (by simp)
        have h2 : iabs (p.2 - r.2) ∈ [x, y] := hp.mem_iff.mpr (by simp)
        have h3 : y ∈ [iabs (p.1 - r.1), iabs (p.2 - r.2)] := hp.mem_iff.mp (by simp)
        simp only [List.mem_cons, List.not_mem_nil, or_false] at h1 h2 h3
        unfold dist imax
        split <;> omega
      refine ⟨m, _, 1, .int y, rfl, rfl, sqL upd_same, at_of (j := 1) rfl rfl, ?_⟩
      have z := q _ s1
      rw [← e] at z
      exact z

def sp_law_near : Sp := fun vs H Q _ => ∃ (v u : V) (p q : Pt) (s : Int), vs = [v, u, .int s] ∧ PtAt H v p ∧ PtAt H u q ∧ 0 ≤ s ∧ s ≤ 13 ∧ ∀ H', Same H H' → Q (.bl (decide (dist p q ≤ reachI s))) H'
theorem ok_law_near (T : Tx K mg) : FnOk P w K mg base CX0 2 T.f_law_near T.d_law_near ["one", "other", "size"] (sp_law_near) := by
  refine T.F_law_near.ok sc_law_near (fun vs H Q E h => ?_) (fun cdv A outer s H vs Q E hr h => ?_)
  · obtain ⟨v, u, p, r, z, rfl, _⟩ := h
    rfl
  · obtain ⟨v, u, p, r, z, rfl, hv, hu, z0, z1, q⟩ := h
    refine ⟨_, (pss_cons (ps_set (i := 3) sc_law_near.nd rfl (Or.inl rfl) (pe_ix ix_list (pe_lst (pa_cons pe_int (pa_cons pe_int (pa_cons pe_int (pa_cons pe_int (pa_cons pe_int (pa_cons pe_int (pa_cons pe_int (pa_cons pe_int (pa_cons pe_int (pa_cons pe_int (pa_cons pe_int (pa_cons pe_int (pa_cons pe_int (pa_cons pe_int pa_nil))))))))))))))) (pv 2) (fun _ _ => rfl)))
      (pss_one (ps_ret (pe_cmpR op_le (pe_call (ok_law_far T) (hr.mono (by decide)) (by rfl) T.g_law_far T.F_law_far.kp T.b_law_far .nil pass0 (pa_cons (pv 0) (pa_cons (pv 1) pa_nil))) (pv 3) (nomark _))))), ?_⟩
    have e : (reachs.map V.int)[z.toNat]? = some (.int (reachI z)) := by
      rw [List.getElem?_map, reachI, List.getD_eq_getElem?_getD, List.getElem?_eq_getElem (by show z.toNat < 14; omega)]
      rfl
    refine ⟨(by show 14 ≤ sizeLine; decide), fun l nl => ?_⟩
    have s1 : Same H _ := same_upd (o := .lst (reachs.map V.int)) nl
    refine ⟨_, rfl, l, reachs.map V.int, _, _, rfl, rfl, sqL upd_same, at_of (j := z.toNat) (by omega) e, ?_⟩
    exact ⟨_, rfl, _, rfl, v, u, p, r, rfl, hv.same s1, hu.same s1, fun H' s2 => ⟨_, rfl, _, _, rfl, rfl, q _ (s1.trans s2)⟩⟩

def TL (T : Tx K mg) : List (Addr × Str) := [(T.tb_law, ("law" : Str) ++ ".<locals>." ++ "<lambda>")]
theorem tl_m_law (T : Tx K mg) : (T.tb_law, ("law" : Str) ++ ".<locals>." ++ "<lambda>") ∈ TL T := List.mem_singleton.mpr rfl
theorem tl_u_law (T : Tx K mg) : ∀ p ∈ TL T, p.1 = T.tb_law → p.2 = ("law" : Str) ++ ".<locals>." ++ "<lambda>" := fun p hp _ => by rw [List.mem_singleton.mp hp]
def sp_law (T : Tx K mg) : Sp := fun vs H Q _ => ∃ (a : Addr) (ns : List Int), vs = [.ref a] ∧ SqL K H a (ns.map V.int) ∧ ns.length ≤ 63 ∧ LamX.Tabs (TL T) H ∧ ∀ H', Q (.bl true) H'
theorem few5 (n : Nat) : 1 ≤ (if (if (n : Int) < 5 then (n : Int) else 5) > 1 then (if (n : Int) < 5 then (n : Int) else 5) else 1) ∧ (if (if (n : Int) < 5 then (n : Int) else 5) > 1 then (if (n : Int) < 5 then (n : Int) else 5) else 1) ≤ 5 := by
  split <;> split <;> omega
theorem ok_law (T : Tx K mg) (TB : LamX.TabB base mg T.co_law T.tb_law) : FnOk P w K mg base CX0 6 T.f_law T.d_law ["script"] (sp_law T) := by
  refine T.D_law.ok sc_law (fun vs H Q E h => ?_) (fun A outer s H vs Q E hr h => ?_)
  · obtain ⟨a, ns, rfl, _⟩ := h
    rfl
  · obtain ⟨a, ns, rfl, hS, hl, hT, q⟩ := h
    refine ⟨_, (pss_cons (ps_for PassesOwn.never (by rfl) (pi_range1 (by rfl) T.n_range (pa_cons (pe_callB (call_max2 rfl) (by rfl) T.n_max (by decide +kernel) (pa_cons pe_int (pa_cons (pe_callB (call_min2 rfl) (by rfl) T.n_min (by decide +kernel) (pa_cons pe_int (pa_cons (pe_callB call_len_seq (by rfl) T.n_len (by decide +kernel) (pa_cons (pv 0) pa_nil)) pa_nil))) pa_nil))) pa_nil)) (pg_name (i := 1) sc_law.nd rfl (Or.inl rfl))
      (pss_cons (ps_set (i := 2) sc_law.nd rfl (Or.inl rfl) (pe_call (ok_law_drawn T) (hr.mono (by decide)) (by rfl) T.g_law_drawn T.F_law_drawn.kp T.b_law_drawn .nil pass0 (pa_cons (pe_call (ok_law_cell T) (hr.mono (by decide)) (by rfl) T.g_law_cell T.F_law_cell.kp T.b_law_cell .nil pass0 (pa_cons (pv 0) (pa_cons (pv 1) pa_nil))) (pa_cons (pv 1) pa_nil))))
      (pss_cons (ps_asg (pe_tup (pa_cons (pe_call (ok_law_point T) (hr.mono (by decide)) (by rfl) T.g_law_point T.F_law_point.kp T.b_law_point .nil pass0 (pa_cons (pe_call (ok_law_drawn T) (hr.mono (by decide)) (by rfl) T.g_law_drawn T.F_law_drawn.kp T.b_law_drawn .nil pass0 (pa_cons (pv 2) (pa_cons pe_int pa_nil))) pa_nil)) (pa_cons (pe_call (ok_law_point T) (hr.mono (by decide)) (by rfl) T.g_law_point T.F_law_point.kp T.b_law_point .nil pass0 (pa_cons (pe_call (ok_law_drawn T) (hr.mono (by decide)) (by rfl) T.g_law_drawn T.F_law_drawn.kp T.b_law_drawn .nil pass0 (pa_cons (pv 2) (pa_cons pe_int pa_nil))) pa_nil)) pa_nil))) (pg_tup (by rfl) (pgs_cons (pg_name (i := 3) sc_law.nd rfl (Or.inr rfl)) (pgs_cons (pg_name (i := 4) sc_law.nd rfl (Or.inr rfl)) pgs_nil))))
      (C8.pss_cut (ps_if (pt_cmpR op_eq (pe_op op_mod (pv 2) pe_int) pe_int (nomark _)) (pss_one (ps_set (i := 4) sc_law.nd rfl (Or.inr rfl) (pe_tup (pa_cons (pe_ix ix_tup (pv 3) pe_int (fun _ _ => rfl)) (pa_cons (pe_callB (call_min2 rfl) (by rfl) T.n_min (by decide +kernel) (pa_cons pe_int (pa_cons (pe_op op_add (pe_ix ix_tup (pv 3) pe_int (fun _ _ => rfl)) (pe_ix ix_list (pe_lst (pa_cons pe_int (pa_cons pe_int (pa_cons pe_int (pa_cons pe_int (pa_cons pe_int (pa_cons pe_int (pa_cons pe_int (pa_cons pe_int pa_nil))))))))) (pe_op op_mod (pe_op op_fdiv (pv 2) pe_int) pe_int) (fun _ _ => rfl))) pa_nil))) pa_nil))))) pss_nil)
      (pss_cons (ps_if (PW.pt (pw_or (pt_cmpR op_ne (pe_lamN (k := 3) (t := fun E => _) (T := TL T) (TT := TTold K T.C_MarkError (sp_law_word T)) T.F_law_told (by rfl) T.g_law_told T.b_law_told sc_law_told rfl (.inl rfl) (told_okL T 3) TB rfl (tl_m_law T) (tl_u_law T) (hr.mono (by decide)) (LamX.lamS_by (sc := defScope s_law) (by decide +kernel)) rfl (fun _ _ _ _ _ => rfl) (fun A outer s H E f c' hl => (pe_call (ok_far T) (hl.mono (by decide)) rfl T.g_far T.F_far.kp T.b_far .nil (L2N.passes_call (L2N.takes_of rfl rfl rfl rfl) (fun _ _ _ _ h => h)) (pa_cons (pv 3) (pa_cons (pv 4) pa_nil))))) (pe_call (ok_law_far T) (hr.mono (by decide)) (by rfl) T.g_law_far T.F_law_far.kp T.b_law_far .nil pass0 (pa_cons (pv 3) (pa_cons (pv 4) pa_nil))) (nomark _)) (pw_or1 (pt_cmpR op_ne (pe_call (ok_far T) (hr.mono (by decide)) (by rfl) T.g_far T.F_far.kp T.b_far .nil passN0 (pa_cons (pv 4) (pa_cons (pv 3) pa_nil))) (pe_call (ok_far T) (hr.mono (by decide)) (by rfl) T.g_far T.F_far.kp T.b_far .nil passN0 (pa_cons (pv 3) (pa_cons (pv 4) pa_nil))) (nomark _))))) (pss_one (ps_ret pe_bl)) pss_nil)
      (pss_cons (ps_set (i := 5) sc_law.nd rfl (Or.inl rfl) (pe_lamN (k := 3) (t := fun E => _) (T := TL T) (TT := TTold K T.C_MarkError (sp_law_word T)) T.F_law_told (by rfl) T.g_law_told T.b_law_told sc_law_told rfl (.inl rfl) (told_okL T 3) TB rfl (tl_m_law T) (tl_u_law T) (hr.mono (by decide)) (LamX.lamS_by (sc := defScope s_law) (by decide +kernel)) rfl (fun _ _ _ _ _ => rfl) (fun A outer s H E f c' hl => (pe_call (ok_near_size T) (hl.mono (by decide)) rfl T.g_near_size T.F_near_size.kp T.b_near_size .nil (L2N.passes_call (L2N.takes_of rfl rfl rfl rfl) (fun _ _ _ _ h => h)) (pa_cons (pv 3) (pa_cons (pv 4) pa_nil))))))
      (C8.pss_cut (ps_if (PW.pt (pw_or (pt_not (pt_val (pe_call (ok_law_near T) (hr.mono (by decide)) (by rfl) T.g_law_near T.F_law_near.kp T.b_law_near .nil pass0 (pa_cons (pv 3) (pa_cons (pv 4) (pa_cons (pv 5) pa_nil)))))) (pw_or1 (PW.pt (pw_and (pt_cmpR op_gt (pv 5) pe_int (nomark _)) (pw_and1 (pt_val (pe_call (ok_law_near T) (hr.mono (by decide)) (by rfl) T.g_law_near T.F_law_near.kp T.b_law_near .nil pass0 (pa_cons (pv 3) (pa_cons (pv 4) (pa_cons (pe_op op_sub (pv 5) pe_int) pa_nil))))))))))) (pss_one (ps_ret pe_bl)) pss_nil)
      (pss_cons (ps_if (PW.pt (pw_or (pt_cmpR op_notN (pe_call (ok_need_point T) (hr.mono (by decide)) (by rfl) T.g_need_point T.F_need_point.kp T.b_need_point .nil passN0 (pa_cons (pv 3) pa_nil)) pe_non (nomark _)) (pw_or1 (pt_cmpR op_notN (pe_call (ok_need_name T) (hr.mono (by decide)) (by rfl) T.g_need_name T.F_need_name.kp T.b_need_name .nil passN0 (pa_cons (pe_slice sl_str pe_str po_none (po_some (pe_op op_add pe_int (pe_op op_mod (pv 2) pe_int)))) pa_nil)) pe_non (nomark _))))) (pss_one (ps_ret pe_bl)) pss_nil)
      (pss_cons (ps_if (pt_cmpR op_notN (pe_call (ok_need_size T) (hr.mono (by decide)) (by rfl) T.g_need_size T.F_need_size.kp T.b_need_size .nil passN0 (pa_cons (pe_op op_mod (pv 2) pe_int) pa_nil)) pe_non (nomark _)) (pss_one (ps_ret pe_bl)) pss_nil)
      (C8.pss_cut (ps_for PassesOwn.never (by rfl) (pi_list (pe_lst (pa_cons pe_non (pa_cons (pe_tup (pa_cons pe_int pa_nil)) (pa_cons (pe_tup (pa_cons pe_int (pa_cons pe_int (pa_cons pe_int pa_nil)))) (pa_cons (pe_lst (pa_cons pe_int (pa_cons pe_int pa_nil))) (pa_cons (pe_tup (pa_cons (pe_un un_neg pe_int) (pa_cons pe_int pa_nil))) (pa_cons (pe_tup (pa_cons pe_int (pa_cons pe_int pa_nil))) (pa_cons (pe_tup (pa_cons pe_bl (pa_cons pe_int pa_nil))) (pa_cons (pe_tup (pa_cons pe_non (pa_cons pe_int pa_nil))) (pa_cons pe_str pa_nil))))))))))) (pg_name (i := 6) sc_law.nd rfl (Or.inr rfl))
      (pss_cons (ps_set (i := 7) sc_law.nd rfl (Or.inl rfl) (pe_lst (pa_cons (pe_lamN (k := 3) (t := fun E => _) (T := TL T) (TT := TTold K T.C_MarkError (sp_law_word T)) T.F_law_told (by rfl) T.g_law_told T.b_law_told sc_law_told rfl (.inl rfl) (told_okL T 3) TB rfl (tl_m_law T) (tl_u_law T) (hr.mono (by decide)) (LamX.lamS_by (sc := defScope s_law) (by decide +kernel)) rfl (fun _ _ _ _ _ => rfl) (fun A outer s H E f c' hl => (pe_call (ok_need_point T) (hl.mono (by decide)) rfl T.g_need_point T.F_need_point.kp T.b_need_point .nil (L2N.passes_call (L2N.takes_of rfl rfl rfl rfl) (fun _ _ _ _ h => h)) (pa_cons (pv 6) pa_nil)))) pa_nil)))
      (pss_cons (ps_expr (pe_bm PySem.F.plainAttrs_list PySem.F.slot_list_append PySem.F.type_list_append mt_append (pv 7) (pa_cons (pe_lamN (k := 3) (t := fun E => _) (T := TL T) (TT := TTold K T.C_MarkError (sp_law_word T)) T.F_law_told (by rfl) T.g_law_told T.b_law_told sc_law_told rfl (.inl rfl) (told_okL T 3) TB rfl (tl_m_law T) (tl_u_law T) (hr.mono (by decide)) (LamX.lamS_by (sc := defScope s_law) (by decide +kernel)) rfl (fun _ _ _ _ _ => rfl) (fun A outer s H E f c' hl => (pe_call (ok_far T) (hl.mono (by decide)) rfl T.g_far T.F_far.kp T.b_far .nil (L2N.passes_call (L2N.takes_of rfl rfl rfl rfl) (fun _ _ _ _ h => h)) (pa_cons (pv 6) (pa_cons (pv 3) pa_nil))))) pa_nil)))
      (pss_cons (ps_expr (pe_bm PySem.F.plainAttrs_list PySem.F.slot_list_append PySem.F.type_list_append mt_append (pv 7) (pa_cons (pe_lamN (k := 3) (t := fun E => _) (T := TL T) (TT := TTold K T.C_MarkError (sp_law_word T)) T.F_law_told (by rfl) T.g_law_told T.b_law_told sc_law_told rfl (.inl rfl) (told_okL T 3) TB rfl (tl_m_law T) (tl_u_law T) (hr.mono (by decide)) (LamX.lamS_by (sc := defScope s_law) (by decide +kernel)) rfl (fun _ _ _ _ _ => rfl) (fun A outer s H E f c' hl => (pe_call (ok_far T) (hl.mono (by decide)) rfl T.g_far T.F_far.kp T.b_far .nil (L2N.passes_call (L2N.takes_of rfl rfl rfl rfl) (fun _ _ _ _ h => h)) (pa_cons (pv 3) (pa_cons (pv 6) pa_nil))))) pa_nil)))
      (pss_cons (ps_expr (pe_bm PySem.F.plainAttrs_list PySem.F.slot_list_append PySem.F.type_list_append mt_append (pv 7) (pa_cons (pe_lamN (k := 3) (t := fun E => _) (T := TL T) (TT := TTold K T.C_MarkError (sp_law_word T)) T.F_law_told (by rfl) T.g_law_told T.b_law_told sc_law_told rfl (.inl rfl) (told_okL T 3) TB rfl (tl_m_law T) (tl_u_law T) (hr.mono (by decide)) (LamX.lamS_by (sc := defScope s_law) (by decide +kernel)) rfl (fun _ _ _ _ _ => rfl) (fun A outer s H E f c' hl => (pe_call (ok_near_size T) (hl.mono (by decide)) rfl T.g_near_size T.F_near_size.kp T.b_near_size .nil (L2N.passes_call (L2N.takes_of rfl rfl rfl rfl) (fun _ _ _ _ h => h)) (pa_cons (pv 3) (pa_cons (pv 6) pa_nil))))) pa_nil)))
      (pss_one (ps_if (pt_cmpR (op_neD hr.units) (pv 7) (pe_op op_rep (pe_lst (pa_cons (pe_tup (pa_cons pe_str (pa_cons pe_str pa_nil))) pa_nil)) pe_int) (nomark _)) (pss_one (ps_ret pe_bl)) pss_nil)))))))
      (C8.pss_cut (ps_for PassesOwn.never (by rfl) (pi_list (pe_lst (pa_cons (pe_un un_neg pe_int) (pa_cons pe_int (pa_cons pe_non (pa_cons pe_bl (pa_cons pe_str pa_nil))))))) (pg_name (i := 6) sc_law.nd rfl (Or.inr rfl))
      (pss_one (ps_if (pt_cmpR (op_neD hr.units) (pe_lamN (k := 3) (t := fun E => _) (T := TL T) (TT := TTold K T.C_MarkError (sp_law_word T)) T.F_law_told (by rfl) T.g_law_told T.b_law_told sc_law_told rfl (.inl rfl) (told_okL T 3) TB rfl (tl_m_law T) (tl_u_law T) (hr.mono (by decide)) (LamX.lamS_by (sc := defScope s_law) (by decide +kernel)) rfl (fun _ _ _ _ _ => rfl) (fun A outer s H E f c' hl => (pe_call (ok_need_size T) (hl.mono (by decide)) rfl T.g_need_size T.F_need_size.kp T.b_need_size .nil (L2N.passes_call (L2N.takes_of rfl rfl rfl rfl) (fun _ _ _ _ h => h)) (pa_cons (pv 6) pa_nil)))) (pe_tup (pa_cons pe_str (pa_cons pe_str pa_nil))) (nomark _)) (pss_one (ps_ret pe_bl)) pss_nil)))
      (pss_one (ps_for PassesOwn.never (by rfl) (pi_list (pe_lst (pa_cons pe_str (pa_cons pe_str (pa_cons pe_str (pa_cons pe_non (pa_cons pe_int (pa_cons pe_str (pa_cons (pe_tup (pa_cons pe_str pa_nil)) pa_nil))))))))) (pg_name (i := 6) sc_law.nd rfl (Or.inr rfl))
      (pss_one (ps_if (pt_cmpR (op_neD hr.units) (pe_lamN (k := 3) (t := fun E => _) (T := TL T) (TT := TTold K T.C_MarkError (sp_law_word T)) T.F_law_told (by rfl) T.g_law_told T.b_law_told sc_law_told rfl (.inl rfl) (told_okL T 3) TB rfl (tl_m_law T) (tl_u_law T) (hr.mono (by decide)) (LamX.lamS_by (sc := defScope s_law) (by decide +kernel)) rfl (fun _ _ _ _ _ => rfl) (fun A outer s H E f c' hl => (pe_call (ok_need_name T) (hl.mono (by decide)) rfl T.g_need_name T.F_need_name.kp T.b_need_name .nil (L2N.passes_call (L2N.takes_of rfl rfl rfl rfl) (fun _ _ _ _ h => h)) (pa_cons (pv 6) pa_nil)))) (pe_tup (pa_cons pe_str (pa_cons pe_str pa_nil))) (nomark _)) (pss_one (ps_ret pe_bl)) pss_nil)))))))))))))))
      (pss_one (ps_ret pe_bl))), ?_⟩
    have f5 := few5 (ns.map V.int).length
    refine ⟨_, rfl, a, _, rfl, .inl hS, _, _, rfl, _, _, rfl, _, rfl, by omega, by omega, for_enum enum_range (fun i σ H => ∃ x1 x2 x3 x4 x5 x6 x7, σ = [some (.ref a), x1, x2, x3, x4, x5, x6, x7] ∧ SqL K H a (ns.map V.int) ∧ LamX.Tabs (TL T) H) ⟨none, none, none, none, none, none, none, rfl, hS, hT⟩ (fun _ _ _ _ _ => trivial) ?_ ?_⟩
    · rintro i x σ H0 hx ⟨x1, x2, x3, x4, x5, x6, x7, rfl, hS, hT⟩
      have hi := (List.getElem?_eq_some_iff.mp hx).1
      rw [rangeV_len] at hi
      rw [rangeV_get hi] at hx
      cases hx
      refine ⟨_, rfl, _, rfl, a, ns, _, rfl, hS, hl, by omega, by omega, fun c H1 s1 => ⟨_, rfl, _, _, rfl, by omega, by omega, fun more m0 m1 => ?_⟩⟩
      have hT1 := hT.ext s1
      refine ⟨_, rfl, _, _, rfl, by decide, by decide, fun r1 _ _ => ⟨_, rfl, fun p1 v1 H2 o1 s2 a1 => ?_⟩⟩
      refine ⟨_, rfl, _, _, rfl, by decide, by decide, fun r2 _ _ => ⟨_, rfl, fun p2 v2 H3 o2 s3 a2 => ?_⟩⟩
      refine ⟨(by show 2 ≤ sizeLine; decide), fun t nt => ⟨t, [v1, v2], rfl, sqT upd_same, rfl, v1, [v2], rfl, v2, [], rfl, rfl, ?_⟩⟩
      have s4 := same_upd (o := .tup [v1, v2]) nt
      refine ⟨fun σ H => ∃ v2 p2, σ = [some (.ref a), some (.int (0 + (i : Int))), some (.int more), some v1, some v2, x5, x6, x7] ∧ PtOk p2 ∧ PtAt H v1 p1 ∧ PtAt H v2 p2 ∧ SqL K H a (ns.map V.int) ∧ LamX.Tabs (TL T) H, ?_, ?_⟩
      · have b1 := (a1.same s3).same s4
        have b2 := a2.same s4
        have bS := (((s1.trans s2).trans s3).trans s4).seq hS
        have bT := ((hT1.ext s2).ext s3).ext s4
        refine ⟨_, rfl, _, _, rfl, rfl, (by show (0 : Int) < 4; decide), rfl, _, rfl, ?_⟩
        refine ite2 (fun _ => ?_) (fun _ => ⟨v2, p2, rfl, o2, b1, b2, bS, bT⟩)
        obtain ⟨n1, rfl, c1⟩ := b1
        refine ⟨_, rfl, _, _, _, _, rfl, rfl, sqT c1, atI_nat (j := 0) rfl, _, rfl, _, _, _, _, rfl, rfl, sqT c1, atI_nat (j := 1) rfl, (by show 8 ≤ sizeLine; decide), fun l nl => ?_⟩
        have h0 := Int.emod_nonneg (more / 4) (show (8 : Int) ≠ 0 by decide)
        have h1 := Int.emod_lt_of_pos (more / 4) (show (0 : Int) < 8 by decide)
        obtain ⟨j, hj⟩ : ∃ j : Nat, more / 4 % 8 = (j : Int) := ⟨(more / 4 % 8).toNat, by omega⟩
        obtain ⟨b, hb, g0⟩ : ∃ b : Int, ([V.int 0, .int 1, .int 2, .int 3, .int 4, .int 5, .int 8, .int 9] : List V)[j]? = some (.int b) ∧ 0 ≤ b := by
          have : j < 8 := by omega
          match j, this with
          | 0, _ => exact ⟨0, rfl, by decide⟩
          | 1, _ => exact ⟨1, rfl, by decide⟩
          | 2, _ => exact ⟨2, rfl, by decide⟩
          | 3, _ => exact ⟨3, rfl, by decide⟩
          | 4, _ => exact ⟨4, rfl, by decide⟩
          | 5, _ => exact ⟨5, rfl, by decide⟩
          | 6, _ => exact ⟨8, rfl, by decide⟩
          | 7, _ => exact ⟨9, rfl, by decide⟩
        refine ⟨_, rfl, _, _, rfl, rfl, ⟨by decide, by decide⟩, _, _, rfl, rfl, (by show (0 : Int) < 8; decide), l, _, _, .int b, rfl, rfl, sqL upd_same, at_of hj hb, _, _, rfl, rfl, _, _, rfl, (by show 2 ≤ sizeLine; decide), fun u nu => ?_⟩
        have s5 := same_upd (o := .lst [V.int 0, .int 1, .int 2, .int 3, .int 4, .int 5, .int 8, .int 9]) nl
        have s6 := s5.trans (same_upd (o := .tup [V.int p1.1, .int (if p1.2 + b < 4095 then p1.2 + b else 4095)]) nu)
        refine ⟨.ref u, (p1.1, if p1.2 + b < 4095 then p1.2 + b else 4095), rfl, ?_, ⟨n1, rfl, s6 _ _ c1⟩, ⟨u, rfl, upd_same⟩, s6.seq bS, bT.ext s6⟩
        obtain ⟨o11, o12, o13, o14⟩ := o1
        refine ⟨o11, o12, ?_, ?_⟩ <;> dsimp only <;> split <;> omega
      · clear s2 s3 s4 a1 a2 o2 nt
        rintro σ H ⟨v2, p2, rfl, o2, a1, a2, hS, hT⟩
        -- told(far) against the law's own, and both ways
        refine ⟨hT, fun H1 e1 t1 => ⟨_, rfl, _, rfl, v1, v2, rfl, (a1.ext e1).pd, (a2.ext e1).pd, .inl ⟨p1, p2, a1.ext e1, a2.ext e1, o1, o2, fun H2 s2 => ?_⟩⟩⟩
        have b1 := (a1.ext e1).same s2
        have b2 := (a2.ext e1).same s2
        have bS := s2.seq (ext_seq e1 hS)
        have bT := t1.ext s2
        refine ⟨_, rfl, _, rfl, v1, v2, p1, p2, rfl, b1, b2, fun H3 s3 => ⟨rfl, _, rfl, iteNS rfl ?_⟩⟩
        refine ⟨_, rfl, _, rfl, v2, v1, rfl, (b2.same s3).pd, (b1.same s3).pd, .inl ⟨p2, p1, b2.same s3, b1.same s3, o2, o1, fun H4 s4 => ⟨_, rfl, _, rfl, v1, v2, rfl, ((b1.same s3).same s4).pd, ((b2.same s3).same s4).pd, .inl ⟨p1, p2, (b1.same s3).same s4, (b2.same s3).same s4, o1, o2, fun H5 s5 => ⟨rfl, _, rfl, iteNS (by rw [dist_comm]) ?_⟩⟩⟩⟩⟩
        have s35 := (s3.trans s4).trans s5
        have c1 := b1.same s35
        have c2 := b2.same s35
        have cS := s35.seq bS
        have cT := bT.ext s35
        clear b1 b2 bS bT a1 a2 hS hT
        -- size = told(near_size)
        refine ⟨cT, fun H6 e6 t6 => ⟨_, rfl, _, rfl, v1, v2, rfl, (c1.ext e6).pd, (c2.ext e6).pd, .inl ⟨p1, p2, c1.ext e6, c2.ext e6, o1, o2, fun H7 s7 => ?_⟩⟩⟩
        have b1 := (c1.ext e6).same s7
        have b2 := (c2.ext e6).same s7
        have bS := s7.seq (ext_seq e6 cS)
        have bT := t6.ext s7
        have hd : dist p1 p2 ≤ 4096 := by have := dist_le o1 o2; omega
        have hlt := nearSize_lt hd
        refine ⟨fun σ H => σ = [some (.ref a), some (.int (0 + (i : Int))), some (.int more), some v1, some v2, some (.int (nearSize (dist p1 p2))), x6, x7] ∧ PtAt H v1 p1 ∧ SqL K H a (ns.map V.int) ∧ LamX.Tabs (TL T) H, ?_, ?_⟩
        · refine ⟨_, rfl, _, rfl, _, rfl, v1, v2, p1, p2, _, rfl, b1, b2, by omega, by omega, fun H8 s8 => ⟨_, rfl, ?_⟩⟩
          rw [decide_eq_true (nearSize_near hd)]
          refine iteF ⟨_, rfl, _, _, rfl, rfl, _, rfl, ?_⟩
          have fin : ∀ H9, Same H7 H9 → PtAt H9 v1 p1 ∧ SqL K H9 a (ns.map V.int) ∧ LamX.Tabs (TL T) H9 := fun H9 s9 => ⟨b1.same s9, s9.seq bS, bT.ext s9⟩
          by_cases hz : (0 : Int) < (nearSize (dist p1 p2) : Int)
          · rw [decide_eq_true hz]
            refine iteT ⟨_, rfl, _, rfl, _, rfl, _, _, rfl, rfl, v1, v2, p1, p2, _, rfl, b1.same s8, b2.same s8, by omega, by omega, fun H9 s9 => ⟨_, rfl, ?_⟩⟩
            have e : ((nearSize (dist p1 p2) : Int) - 1) = ((nearSize (dist p1 p2) - 1 : Nat) : Int) := by omega
            rw [decide_eq_false (by rw [e]; exact nearSize_least hd (by omega))]
            exact iteF ⟨rfl, fin H9 (s8.trans s9)⟩
          · rw [decide_eq_false hz]
            exact iteF (iteF ⟨rfl, fin H8 s8⟩)
        · clear c1 c2 cS cT b1 b2 bS bT s7 t6 e6 s35 s2 s3 s4 s5 t1 e1
          rintro σ H ⟨rfl, a1, hS, hT⟩
          -- need_point(one) is not None or need_name(..) is not None
          refine ⟨_, rfl, v1, rfl, a1.pd.1, a1.pd.2, .inl ⟨isPoint_of a1 o1, fun H1 s1 => ⟨rfl, _, rfl, iteF ?_⟩⟩⟩
          have nm : isName (.str (cutS ("abcdef" : Str) none (some (1 + more % 6)))) = true := by
            have h0 := Int.emod_nonneg more (show (6 : Int) ≠ 0 by decide)
            have h1 := Int.emod_lt_of_pos more (show (0 : Int) < 6 by decide)
            obtain ⟨j, hj⟩ : ∃ j : Nat, more % 6 = (j : Int) := ⟨(more % 6).toNat, by omega⟩
            have hj6 : j < 6 := by omega
            rw [hj]
            match j, hj6 with
            | 0, _ => decide +kernel
            | 1, _ => decide +kernel
            | 2, _ => decide +kernel
            | 3, _ => decide +kernel
            | 4, _ => decide +kernel
            | 5, _ => decide +kernel
          have nl6 : ∀ x, V.str (cutS ("abcdef" : Str) none (some (1 + more % 6))) = .str x → x.length ≤ 1000 := fun x e => by
            injection e with e
            rw [← e]
            have h6 : nameS (cutS ("abcdef" : Str) none (some (1 + more % 6))) = true := nm
            simp only [nameS, Bool.and_eq_true, decide_eq_true_eq] at h6
            have := h6.1.2
            show (cutS ("abcdef" : Str) none (some (1 + more % 6))).cps.size ≤ 1000
            omega
          refine ⟨_, rfl, _, _, rfl, rfl, (by show (0 : Int) < 6; decide), _, _, rfl, rfl, _, rfl, _, rfl, (by show 6 ≤ sizeLine; decide), _, rfl, trivial, nl6, .inl ⟨nm, fun H2 s2 => ⟨rfl, _, rfl, iteF ?_⟩⟩⟩
          -- need_size(more % 14) is not None
          have sz : isCount 0 13 (.int (more % 14)) = true := by
            have h0 := Int.emod_nonneg more (show (14 : Int) ≠ 0 by decide)
            have h1 := Int.emod_lt_of_pos more (show (0 : Int) < 14 by decide)
            simp only [isCount, Bool.and_eq_true, decide_eq_true_eq]
            omega
          refine ⟨_, rfl, _, _, rfl, rfl, (by show (0 : Int) < 14; decide), _, rfl, trivial, .inl ⟨sz, ⟨rfl, _, rfl, iteF ?_⟩⟩⟩
          have b1 := (a1.same s1).same s2
          have bS := (s1.trans s2).seq hS
          have bT := (hT.ext s1).ext s2
          clear nm nl6 sz s1 s2
          refine ⟨fun σ H => ∃ x6 x7, σ = [some (.ref a), some (.int (0 + (i : Int))), some (.int more), some v1, some v2, some (.int (nearSize (dist p1 p2))), x6, x7] ∧ PtAt H v1 p1 ∧ SqL K H a (ns.map V.int) ∧ LamX.Tabs (TL T) H, ?_, ?_⟩
          · -- what is no point
            refine ⟨(by show 1 ≤ sizeLine; decide), fun t1 n1 => ⟨(by show 3 ≤ sizeLine; decide), fun t2 n2 => ⟨(by show 2 ≤ sizeLine; decide), fun t3 n3 => ⟨_, rfl, (by show 2 ≤ sizeLine; decide), fun t4 n4 => ⟨(by show 2 ≤ sizeLine; decide), fun t5 n5 => ⟨(by show 2 ≤ sizeLine; decide), fun t6 n6 => ⟨(by show 2 ≤ sizeLine; decide), fun t7 n7 => ⟨(by show 9 ≤ sizeLine; decide), fun L nL => ?_⟩⟩⟩⟩⟩⟩⟩⟩
            have g8 := same_upd (o := .lst [V.non, .ref t1, .ref t2, .ref t3, .ref t4, .ref t5, .ref t6, .ref t7, .str "12"]) nL
            have g7 := (same_upd (o := .tup [V.non, .int 1]) n7).trans g8
            have g6 := (same_upd (o := .tup [V.bl true, .int 1]) n6).trans g7
            have g5 := (same_upd (o := .tup [V.int 0, .int 4096]) n5).trans g6
            have g4 := (same_upd (o := .tup [V.int (-1), .int 0]) n4).trans g5
            have g3 := (same_upd (o := .lst [V.int 1, .int 2]) n3).trans g4
            have g2 := (same_upd (o := .tup [V.int 1, .int 2, .int 3]) n2).trans g3
            have g1 := (same_upd (o := .tup [V.int 1]) n1).trans g2
            have k1 := g2 _ _ upd_same
            have k2 := g3 _ _ upd_same
            have k3 := g4 _ _ upd_same
            have k4 := g5 _ _ upd_same
            have k5 := g6 _ _ upd_same
            have k6 := g7 _ _ upd_same
            have k7 := g8 _ _ upd_same
            have kL := upd_same (H := upd (upd (upd (upd (upd (upd (upd H2 t1 (.tup [V.int 1])) t2 (.tup [V.int 1, .int 2, .int 3])) t3 (.lst [V.int 1, .int 2])) t4 (.tup [V.int (-1), .int 0])) t5 (.tup [V.int 0, .int 4096])) t6 (.tup [V.bl true, .int 1])) t7 (.tup [V.non, .int 1])) (a := L) (o := .lst [V.non, .ref t1, .ref t2, .ref t3, .ref t4, .ref t5, .ref t6, .ref t7, .str "12"])
            have c1 := b1.same g1
            have cS := g1.seq bS
            have cT := bT.ext g1
            have hb := AllBad.cons (pd_flat (v := .non) rfl) (AllBad.cons (pd_tup k1 (by decide) rfl rfl) (AllBad.cons (pd_tup k2 (by decide) rfl rfl) (AllBad.cons (pd_lst k3) (AllBad.cons (pd_tup k4 (by decide) rfl rfl) (AllBad.cons (pd_tup k5 (by decide) rfl rfl) (AllBad.cons (pd_tup k6 (by decide) rfl rfl) (AllBad.cons (pd_tup k7 (by decide) rfl rfl) (AllBad.cons (pd_flat (v := .str "12") rfl) AllBad.nil))))))))
            refine ⟨L, rfl, ⟨_, sqL kL⟩, for_enum enum_list (fun _ σ H => ∃ x6 x7, σ = [some (.ref a), some (.int (0 + (i : Int))), some (.int more), some v1, some v2, some (.int (nearSize (dist p1 p2))), x6, x7] ∧ PtAt H v1 p1 ∧ SqL K H a (ns.map V.int) ∧ LamX.Tabs (TL T) H ∧ H L = some (.lst [V.non, .ref t1, .ref t2, .ref t3, .ref t4, .ref t5, .ref t6, .ref t7, .str "12"]) ∧ AllBad H [V.non, .ref t1, .ref t2, .ref t3, .ref t4, .ref t5, .ref t6, .ref t7, .str "12"])
              ⟨x6, x7, rfl, c1, cS, cT, kL, hb⟩ (fun _ _ _ _ ⟨_, _, _, _, _, _, h, _⟩ => sqL h) ?_ (fun σ H ⟨x6, x7, e, h1, h2, h3, _⟩ => ⟨x6, x7, e, h1, h2, h3⟩)⟩
            clear g8 g7 g6 g5 g4 g3 g2 g1 k1 k2 k3 k4 k5 k6 k7 kL c1 cS cT hb
            rintro m x σ H hx ⟨x6, x7, rfl, c1, cS, cT, kL, hb⟩
            obtain ⟨dx, nx⟩ := hb x (List.mem_of_getElem? hx)
            have wd : Wd T T.C_BadPoint "BadPoint" := .inr (.inr (.inl ⟨rfl, rfl⟩))
            -- some = [told(need_point(bad))]
            refine ⟨cT, fun H1 e1 T1 => ⟨_, rfl, x, rfl, (dx.ext e1).1, (dx.ext e1).2, .inr ⟨(isPoint_ext dx e1).trans nx, fun H2 s2 => told_E T wd fun H3 r1 s3 h1 => ⟨(by show 1 ≤ sizeLine; decide), fun l nl => ?_⟩⟩⟩⟩
            have f3 := (e1.trans s2.ext).trans s3.ext
            have T3 := (T1.ext s2).ext s3
            have f4 := f3.trans (same_upd (o := .lst [V.ref r1]) nl).ext
            have T4 := T3.ext (same_upd (o := .lst [V.ref r1]) nl)
            have hl4 := upd_same (H := H3) (a := l) (o := .lst [V.ref r1])
            have h14 := tup_new (o := .lst [V.ref r1]) h1 nl
            -- some.append(told(far(bad, one)))
            refine ⟨_, rfl, .inl ⟨rfl, _, sqL hl4⟩, T4, fun H5 e5 T5 => ⟨_, rfl, _, rfl, x, v1, rfl, (dx.ext f4).ext e5, ((c1.ext f4).ext e5).pd, .inr ⟨.inl ((isPoint_ext dx (f4.trans e5)).trans nx), fun H6 s6 => told_E T wd fun H7 r2 s7 h2 => ?_⟩⟩⟩
            have u5 := (e5.trans s6.ext).trans s7.ext
            have f7 := f4.trans u5
            have T7 := (T5.ext s6).ext s7
            have l7 := lst_ext u5 hl4
            have h17 := tup_ext u5 h14
            refine ⟨l, [V.ref r1], _, rfl, rfl, l7, (by show 1 < sizeLine; decide), ?_⟩
            have f8 := ext_upd' (o := .lst ([V.ref r1] ++ [V.ref r2])) f3 nl f7
            have T8 := tabs_upd (o := .lst ([V.ref r1] ++ [V.ref r2])) T7 l7
            have l8 := upd_same (H := H7) (a := l) (o := .lst ([V.ref r1] ++ [V.ref r2]))
            have h18 := tup_upd (o := .lst ([V.ref r1] ++ [V.ref r2])) h17 l7
            have h28 := tup_upd (o := .lst ([V.ref r1] ++ [V.ref r2])) h2 l7
            clear T4 hl4 h14 T5 s6 s7 h2 T7 l7 h17 u5 e5 f7 H5 H6
            -- some.append(told(far(one, bad)))
            refine ⟨_, rfl, .inl ⟨rfl, _, sqL l8⟩, T8, fun H5 e5 T5 => ⟨_, rfl, _, rfl, v1, x, rfl, ((c1.ext f8).ext e5).pd, (dx.ext f8).ext e5, .inr ⟨.inr ((isPoint_ext dx (f8.trans e5)).trans nx), fun H6 s6 => told_E T wd fun H9 r3 s7 h3 => ?_⟩⟩⟩
            have u5 := (e5.trans s6.ext).trans s7.ext
            have f9 := f8.trans u5
            have T9 := (T5.ext s6).ext s7
            have l9 := lst_ext u5 l8
            have h19 := tup_ext u5 h18
            have h29 := tup_ext u5 h28
            refine ⟨l, _, _, rfl, rfl, l9, (by show 2 < sizeLine; decide), ?_⟩
            have f10 := ext_upd' (o := .lst ([V.ref r1] ++ [V.ref r2] ++ [V.ref r3])) f3 nl f9
            have T10 := tabs_upd (o := .lst ([V.ref r1] ++ [V.ref r2] ++ [V.ref r3])) T9 l9
            have l10 := upd_same (H := H9) (a := l) (o := .lst ([V.ref r1] ++ [V.ref r2] ++ [V.ref r3]))
            have h110 := tup_upd (o := .lst ([V.ref r1] ++ [V.ref r2] ++ [V.ref r3])) h19 l9
            have h210 := tup_upd (o := .lst ([V.ref r1] ++ [V.ref r2] ++ [V.ref r3])) h29 l9
            have h310 := tup_upd (o := .lst ([V.ref r1] ++ [V.ref r2] ++ [V.ref r3])) h3 l9
            clear T8 l8 h18 h28 T5 s6 s7 h3 T9 l9 h19 h29 u5 e5 f9 f8 H5 H6
            -- some.append(told(near_size(one, bad)))
            refine ⟨_, rfl, .inl ⟨rfl, _, sqL l10⟩, T10, fun H5 e5 T5 => ⟨_, rfl, _, rfl, v1, x, rfl, ((c1.ext f10).ext e5).pd, (dx.ext f10).ext e5, .inr ⟨.inr ((isPoint_ext dx (f10.trans e5)).trans nx), fun H6 s6 => told_E T wd fun H11 r4 s7 h4 => ?_⟩⟩⟩
            have u5 := (e5.trans s6.ext).trans s7.ext
            have f11 := f10.trans u5
            have T11 := (T5.ext s6).ext s7
            have l11 := lst_ext u5 l10
            have h111 := tup_ext u5 h110
            have h211 := tup_ext u5 h210
            have h311 := tup_ext u5 h310
            refine ⟨l, _, _, rfl, rfl, l11, (by show 3 < sizeLine; decide), ?_⟩
            have f12 := ext_upd' (o := .lst ([V.ref r1] ++ [V.ref r2] ++ [V.ref r3] ++ [V.ref r4])) f3 nl f11
            have T12 := tabs_upd (o := .lst ([V.ref r1] ++ [V.ref r2] ++ [V.ref r3] ++ [V.ref r4])) T11 l11
            have l12 := upd_same (H := H11) (a := l) (o := .lst ([V.ref r1] ++ [V.ref r2] ++ [V.ref r3] ++ [V.ref r4]))
            have h112 := tup_upd (o := .lst ([V.ref r1] ++ [V.ref r2] ++ [V.ref r3] ++ [V.ref r4])) h111 l11
            have h212 := tup_upd (o := .lst ([V.ref r1] ++ [V.ref r2] ++ [V.ref r3] ++ [V.ref r4])) h211 l11
            have h312 := tup_upd (o := .lst ([V.ref r1] ++ [V.ref r2] ++ [V.ref r3] ++ [V.ref r4])) h311 l11
            have h412 := tup_upd (o := .lst ([V.ref r1] ++ [V.ref r2] ++ [V.ref r3] ++ [V.ref r4])) h4 l11
            -- some != [("refused", "BadPoint")] * 4
            refine ⟨_, rfl, (by show 2 ≤ sizeLine; decide), fun w1 m1 => ⟨(by show 1 ≤ sizeLine; decide), fun w2 m2 => ?_⟩⟩
            have z1 := same_upd (o := .tup [V.str "refused", .str "BadPoint"]) m1
            have z2 := same_upd (o := .lst [V.ref w1]) m2
            refine ⟨w2, 4, _, rfl, rfl, upd_same, by decide, by decide, (by show 4 ≤ sizeLine; decide), fun w3 m3 => ?_⟩
            have z3 := same_upd (o := .lst (List.replicate 4 [V.ref w1]).flatten) m3
            have zz := (z1.trans z2).trans z3
            have ds : DpAll K _ ([r1, r2, r3, r4].map V.ref) (List.replicate 4 (wordD "BadPoint")) := dp_words (rs := [r1, r2, r3, r4]) (nm := "BadPoint") fun r hr => by
              simp only [List.mem_cons, List.not_mem_nil, or_false] at hr
              rcases hr with rfl | rfl | rfl | rfl
              · exact zz _ _ h112
              · exact zz _ _ h212
              · exact zz _ _ h312
              · exact zz _ _ h412
            have hw1 := (z2.trans z3) _ _ (upd_same (H := upd H11 l (.lst ([V.ref r1] ++ [V.ref r2] ++ [V.ref r3] ++ [V.ref r4]))) (a := w1) (o := .tup [V.str "refused", .str "BadPoint"]))
            have dw : DpAll K _ ([w1, w1, w1, w1].map V.ref) (List.replicate 4 (wordD "BadPoint")) := dp_words (rs := [w1, w1, w1, w1]) (nm := "BadPoint") fun r hr => by
              have e : r = w1 := by simpa using hr
              subst e
              exact hw1
            have lw := lay_words (nm := "BadPoint") (by decide +kernel) 4
            refine ⟨.list (List.replicate 4 (wordD "BadPoint")), .list (List.replicate 4 (wordD "BadPoint")), .lst (sqL (zz _ _ l12)) ds, .lst (sqL upd_same) dw, lw.shaped (by decide), lw.shaped (by decide), _, rfl, iteNB lw.eqv ?_⟩
            have fz := f12.trans zz.ext
            exact ⟨_, _, rfl, c1.ext fz, ext_seq fz cS, T12.ext zz, lst_ext fz kL, hb.ext fz⟩
          · -- what is no size
            clear b1 bS bT hS hT a1
            rintro σ H ⟨x6, x7, rfl, a1, hS, hT⟩
            refine ⟨fun σ H => ∃ x6 x7, σ = [some (.ref a), some (.int (0 + (i : Int))), some (.int more), some v1, some v2, some (.int (nearSize (dist p1 p2))), x6, x7] ∧ SqL K H a (ns.map V.int) ∧ LamX.Tabs (TL T) H, ?_, ?_⟩
            · refine ⟨_, rfl, (by show 5 ≤ sizeLine; decide), fun L nL => ?_⟩
              have g1 := same_upd (o := .lst [V.int (-1), .int 14, .non, .bl true, .str "1"]) nL
              refine ⟨L, rfl, ⟨_, sqL upd_same⟩, for_enum (enum_list (xs := [V.int (-1), .int 14, .non, .bl true, .str "1"])) (fun _ σ H => ∃ x6 x7, σ = [some (.ref a), some (.int (0 + (i : Int))), some (.int more), some v1, some v2, some (.int (nearSize (dist p1 p2))), x6, x7] ∧ SqL K H a (ns.map V.int) ∧ LamX.Tabs (TL T) H ∧ H L = some (.lst [V.int (-1), .int 14, .non, .bl true, .str "1"]))
                ⟨x6, x7, rfl, g1.seq hS, hT.ext g1, upd_same⟩ (fun _ _ _ _ ⟨_, _, _, _, _, h⟩ => sqL h) ?_ (fun σ H ⟨x6, x7, e, h1, h2, _⟩ => ⟨x6, x7, e, h1, h2⟩)⟩
              clear g1 hS hT nL a1
              rintro m x σ H hx ⟨x6, x7, rfl, hS, hT, hL⟩
              have hm := List.mem_of_getElem? hx
              have hf : flatV x = true := List.all_eq_true.mp (show ([V.int (-1), .int 14, .non, .bl true, .str "1"] : List V).all flatV = true from rfl) x hm
              have hc : isCount 0 13 x = false := by
                have h1 : ([V.int (-1), .int 14, .non, .bl true, .str "1"] : List V).all (fun v => !isCount 0 13 v) = true := rfl
                simpa using List.all_eq_true.mp h1 x hm
              refine ⟨hT, fun H1 e1 T1 => ⟨_, rfl, x, rfl, dat_flat hf, .inr ⟨hc, told_E T (.inr (.inr (.inr (.inl ⟨rfl, rfl⟩)))) fun H3 r1 s3 h1 => ⟨(by show 2 ≤ sizeLine; decide), fun w1 m1 => ?_⟩⟩⟩⟩
              have z1 := same_upd (o := .tup [V.str "refused", .str "BadSize"]) m1
              have fz := (e1.trans s3.ext).trans z1.ext
              have lw := lay_word (nm := "BadSize") (by decide +kernel)
              refine ⟨wordD "BadSize", wordD "BadSize", dp_word (z1 _ _ h1), dp_word upd_same, lw.shaped (by decide), lw.shaped (by decide), _, rfl, iteNB lw.eqv ?_⟩
              exact ⟨_, _, rfl, ext_seq fz hS, (T1.ext s3).ext z1, lst_ext fz hL⟩
            · -- what is no name
              clear hS hT a1
              rintro σ H ⟨x6, x7, rfl, hS, hT⟩
              refine ⟨(by show 1 ≤ sizeLine; decide), fun t1 n1 => ⟨(by show 7 ≤ sizeLine; decide), fun L nL => ?_⟩⟩
              have g2 := same_upd (o := .lst [V.str "", .str "A", .str "abcdefg", .non, .int 5, .str "a b", .ref t1]) nL
              have k1 := g2 _ _ (upd_same (H := H) (a := t1) (o := .tup [V.str "a"]))
              have g1 := (same_upd (o := .tup [V.str "a"]) n1).trans g2
              refine ⟨L, rfl, ⟨_, sqL upd_same⟩, for_enum (enum_list (xs := [V.str "", .str "A", .str "abcdefg", .non, .int 5, .str "a b", .ref t1])) (fun _ σ H => ∃ x6 x7, σ = [some (.ref a), some (.int (0 + (i : Int))), some (.int more), some v1, some v2, some (.int (nearSize (dist p1 p2))), x6, x7] ∧ SqL K H a (ns.map V.int) ∧ LamX.Tabs (TL T) H ∧ H L = some (.lst [V.str "", .str "A", .str "abcdefg", .non, .int 5, .str "a b", .ref t1]) ∧ H t1 = some (.tup [V.str "a"]))
                ⟨x6, x7, rfl, g1.seq hS, hT.ext g1, upd_same, k1⟩ (fun _ _ _ _ ⟨_, _, _, _, _, h, _⟩ => sqL h) ?_ (fun σ H ⟨x6, x7, e, h1, h2, _⟩ => ⟨_, _, _, _, _, _, _, e, h1, h2⟩)⟩
              clear g1 g2 hS hT nL k1 n1
              rintro m x σ H hx ⟨x6, x7, rfl, hS, hT, hL, h1⟩
              have hm := List.mem_of_getElem? hx
              have hd : Dat H x ∧ (∀ y, x = .str y → y.length ≤ 1000) ∧ isName x = false := by
                simp only [List.mem_cons, List.not_mem_nil, or_false] at hm
                rcases hm with rfl | rfl | rfl | rfl | rfl | rfl | rfl
                · exact ⟨trivial, fun y e => by injection e with e; rw [← e]; decide, by decide +kernel⟩
                · exact ⟨trivial, fun y e => by injection e with e; rw [← e]; decide, by decide +kernel⟩
                · exact ⟨trivial, fun y e => by injection e with e; rw [← e]; decide, by decide +kernel⟩
                · exact ⟨trivial, (fun y e => nomatch e), rfl⟩
                · exact ⟨trivial, (fun y e => nomatch e), rfl⟩
                · exact ⟨trivial, fun y e => by injection e with e; rw [← e]; decide, by decide +kernel⟩
                · exact ⟨.inl ⟨_, h1⟩, (fun y e => nomatch e), rfl⟩
              obtain ⟨d1, d2, d3⟩ := hd
              refine ⟨hT, fun H1 e1 T1 => ⟨_, rfl, x, rfl, d1.ext e1, d2, .inr ⟨d3, fun H2 s2 => told_E T (.inr (.inl ⟨rfl, rfl⟩)) fun H3 r1 s3 hr1 => ⟨(by show 2 ≤ sizeLine; decide), fun w1 m1 => ?_⟩⟩⟩⟩
              have z1 := same_upd (o := .tup [V.str "refused", .str "BadName"]) m1
              have fz := ((e1.trans s2.ext).trans s3.ext).trans z1.ext
              have lw := lay_word (nm := "BadName") (by decide +kernel)
              refine ⟨wordD "BadName", wordD "BadName", dp_word (z1 _ _ hr1), dp_word upd_same, lw.shaped (by decide), lw.shaped (by decide), _, rfl, iteNB lw.eqv ?_⟩
              exact ⟨_, _, rfl, ext_seq fz hS, ((T1.ext s2).ext s3).ext z1, lst_ext fz hL, tup_ext fz h1⟩
    · rintro σ H' ⟨x1, x2, x3, x4, x5, x6, x7, rfl, hS, hT⟩
      exact q H'

end
theorem all_mk {l : PySem.W.OpenLaw} {w : World} {K : PySem.W.Frag} {h : Heap} {mg : Str → Option Value} {fa : Addr} (X : K.In h) (G : h.Ns mainGlobals mg) (hfa : mg "law" = some (.ref fa))
    {C_MarkError : Addr} {C_BadName : Addr} {C_BadPoint : Addr} {C_BadSize : Addr} {C_BadHeap : Addr} {C_BadText : Addr} {t_SMALL : Tok} {t_MOST_WORD : Tok} {t_MOST_SIDE : Tok} {t_MOST_SIZE : Tok} {a_REACHES : Addr} {oc_REACHES : Option Addr} {n_REACHES : Nat} {sl_REACHES : Array (Option Value)} {t0_REACHES : Tok} {t1_REACHES : Tok} {t2_REACHES : Tok} {t3_REACHES : Tok} {t4_REACHES : Tok} {t5_REACHES : Tok} {t6_REACHES : Tok} {t7_REACHES : Tok} {t8_REACHES : Tok} {t9_REACHES : Tok} {t10_REACHES : Tok} {t11_REACHES : Tok} {t12_REACHES : Tok} {t13_REACHES : Tok} {f_is_count : Addr} {od_is_count : Option Addr} {an_is_count : Option Addr} {sl_is_count : Array (Option Value)} {oc_is_count : Value} {kV_is_count : Value} {dc_is_count : Value} {pm_is_count : Value} {cd_is_count : Value} {ct_is_count : Value} {f_is_name : Addr} {od_is_name : Option Addr} {an_is_name : Option Addr} {sl_is_name : Array (Option Value)} {oc_is_name : Value} {kV_is_name : Value} {dc_is_name : Value} {pm_is_name : Value} {cd_is_name : Value} {ct_is_name : Value} {f_need_name : Addr} {od_need_name : Option Addr} {an_need_name : Option Addr} {sl_need_name : Array (Option Value)} {oc_need_name : Value} {kV_need_name : Value} {dc_need_name : Value} {pm_need_name : Value} {cd_need_name : Value} {ct_need_name : Value} {f_need_point : Addr} {od_need_point : Option Addr} {an_need_point : Option Addr} {sl_need_point : Array (Option Value)} {oc_need_point : Value} {kV_need_point : Value} {dc_need_point : Value} {pm_need_point : Value} {cd_need_point : Value} {ct_need_point : Value} {f_need_size : Addr} {od_need_size : Option Addr} {an_need_size : Option Addr} {sl_need_size : Array (Option Value)} {oc_need_size : Value} {kV_need_size : Value} {dc_need_size : Value} {pm_need_size : Value} {cd_need_size : Value} {ct_need_size : Value} {f_reach : Addr} {od_reach : Option Addr} {an_reach : Option Addr} {sl_reach : Array (Option Value)} {oc_reach : Value} {kV_reach : Value} {dc_reach : Value} {pm_reach : Value} {cd_reach : Value} {ct_reach : Value} {f_apart : Addr} {od_apart : Option Addr} {an_apart : Option Addr} {sl_apart : Array (Option Value)} {oc_apart : Value} {kV_apart : Value} {dc_apart : Value} {pm_apart : Value} {cd_apart : Value} {ct_apart : Value} {f_far : Addr} {od_far : Option Addr} {an_far : Option Addr} {sl_far : Array (Option Value)} {oc_far : Value} {kV_far : Value} {dc_far : Value} {pm_far : Value} {cd_far : Value} {ct_far : Value} {f_near_size : Addr} {od_near_size : Option Addr} {an_near_size : Option Addr} {sl_near_size : Array (Option Value)} {oc_near_size : Value} {kV_near_size : Value} {dc_near_size : Value} {pm_near_size : Value} {cd_near_size : Value} {ct_near_size : Value} {f_law_cell : Addr} {od_law_cell : Option Addr} {an_law_cell : Option Addr} {sl_law_cell : Array (Option Value)} {oc_law_cell : Value} {kV_law_cell : Value} {dc_law_cell : Value} {pm_law_cell : Value} {cd_law_cell : Value} {ct_law_cell : Value} {f_law_drawn : Addr} {od_law_drawn : Option Addr} {an_law_drawn : Option Addr} {sl_law_drawn : Array (Option Value)} {oc_law_drawn : Value} {kV_law_drawn : Value} {dc_law_drawn : Value} {pm_law_drawn : Value} {cd_law_drawn : Value} {ct_law_drawn : Value} {f_law_word : Addr} {od_law_word : Option Addr} {an_law_word : Option Addr} {sl_law_word : Array (Option Value)} {oc_law_word : Value} {kV_law_word : Value} {dc_law_word : Value} {pm_law_word : Value} {cd_law_word : Value} {ct_law_word : Value} {f_law_told : Addr} {od_law_told : Option Addr} {an_law_told : Option Addr} {sl_law_told : Array (Option Value)} {oc_law_told : Value} {kV_law_told : Value} {dc_law_told : Value} {pm_law_told : Value} {cd_law_told : Value} {ct_law_told : Value} {f_law_point : Addr} {od_law_point : Option Addr} {an_law_point : Option Addr} {sl_law_point : Array (Option Value)} {oc_law_point : Value} {kV_law_point : Value} {dc_law_point : Value} {pm_law_point : Value} {cd_law_point : Value} {ct_law_point : Value} {f_law_far : Addr} {od_law_far : Option Addr} {an_law_far : Option Addr} {sl_law_far : Array (Option Value)} {oc_law_far : Value} {kV_law_far : Value} {dc_law_far : Value} {pm_law_far : Value} {cd_law_far : Value} {ct_law_far : Value} {f_law_near : Addr} {od_law_near : Option Addr} {an_law_near : Option Addr} {sl_law_near : Array (Option Value)} {oc_law_near : Value} {kV_law_near : Value} {dc_law_near : Value} {pm_law_near : Value} {cd_law_near : Value} {ct_law_near : Value} {f_law : Addr} {od_law : Option Addr} {an_law : Option Addr} {sl_law : Array (Option Value)} {oc_law : Value} {kV_law : Value} {dc_law : Value} {pm_law : Value} {ct_law : Value} {co_law : Addr} {tb_law : Addr} {odc_law : Option Addr} {vsc_law : Array Value} {slc_law : Array (Option Value)}
    (a_MarkError : PySem.W.nsIn K mainGlobals "MarkError" = some (some (.ref C_MarkError)))
    (x_MarkError : PySem.W.excIn K C_MarkError [.type "ValueError", .type "Exception", .type "BaseException", .type "object"] "ValueError.__new__" = true)
    (k_MarkError : PySem.W.keepIn K (.ref C_MarkError) = true)
    (e_MarkError : PySem.W.subIn K (.ref C_MarkError) (.type "BaseException") = some true)
    (t_MarkError : PySem.W.typeIn K (.ref C_MarkError) = some (.type "type"))
    (hd_MarkError : PySem.W.hasDictIn K C_MarkError = true)
    (sm_MarkError : PySem.W.subIn K (.ref C_MarkError) (.ref C_MarkError) = some true)
    (ga_MarkError : PySem.W.findIn K (.ref C_MarkError) "__getattribute__" = some (some (.builtin "BaseException.__getattribute__")))
    (gt_MarkError : PySem.W.findIn K (.ref C_MarkError) "__getattr__" = some none)
    (cl_MarkError : PySem.W.findIn K (.ref C_MarkError) "__class__" = some (some (.builtin "object.__class__")))
    (mr_MarkError : PySem.W.mroIn K C_MarkError (.type "object") = some true)
    (a_BadName : PySem.W.nsIn K mainGlobals "BadName" = some (some (.ref C_BadName)))
    (x_BadName : PySem.W.excIn K C_BadName [.type "ValueError", .type "Exception", .type "BaseException", .type "object"] "ValueError.__new__" = true)
    (k_BadName : PySem.W.keepIn K (.ref C_BadName) = true)
    (e_BadName : PySem.W.subIn K (.ref C_BadName) (.type "BaseException") = some true)
    (t_BadName : PySem.W.typeIn K (.ref C_BadName) = some (.type "type"))
    (hd_BadName : PySem.W.hasDictIn K C_BadName = true)
    (sm_BadName : PySem.W.subIn K (.ref C_BadName) (.ref C_MarkError) = some true)
    (ga_BadName : PySem.W.findIn K (.ref C_BadName) "__getattribute__" = some (some (.builtin "BaseException.__getattribute__")))
    (gt_BadName : PySem.W.findIn K (.ref C_BadName) "__getattr__" = some none)
    (cl_BadName : PySem.W.findIn K (.ref C_BadName) "__class__" = some (some (.builtin "object.__class__")))
    (mr_BadName : PySem.W.mroIn K C_BadName (.type "object") = some true)
    (a_BadPoint : PySem.W.nsIn K mainGlobals "BadPoint" = some (some (.ref C_BadPoint)))
    (x_BadPoint : PySem.W.excIn K C_BadPoint [.type "ValueError", .type "Exception", .type "BaseException", .type "object"] "ValueError.__new__" = true)
    (k_BadPoint : PySem.W.keepIn K (.ref C_BadPoint) = true)
    (e_BadPoint : PySem.W.subIn K (.ref C_BadPoint) (.type "BaseException") = some true)
    (t_BadPoint : PySem.W.typeIn K (.ref C_BadPoint) = some (.type "type"))
    (hd_BadPoint : PySem.W.hasDictIn K C_BadPoint = true)
    (sm_BadPoint : PySem.W.subIn K (.ref C_BadPoint) (.ref C_MarkError) = some true)
    (ga_BadPoint : PySem.W.findIn K (.ref C_BadPoint) "__getattribute__" = some (some (.builtin "BaseException.__getattribute__")))
    (gt_BadPoint : PySem.W.findIn K (.ref C_BadPoint) "__getattr__" = some none)
    (cl_BadPoint : PySem.W.findIn K (.ref C_BadPoint) "__class__" = some (some (.builtin "object.__class__")))
    (mr_BadPoint : PySem.W.mroIn K C_BadPoint (.type "object") = some true)
    (a_BadSize : PySem.W.nsIn K mainGlobals "BadSize" = some (some (.ref C_BadSize)))
    (x_BadSize : PySem.W.excIn K C_BadSize [.type "ValueError", .type "Exception", .type "BaseException", .type "object"] "ValueError.__new__" = true)
    (k_BadSize : PySem.W.keepIn K (.ref C_BadSize) = true)
    (e_BadSize : PySem.W.subIn K (.ref C_BadSize) (.type "BaseException") = some true)
    (t_BadSize : PySem.W.typeIn K (.ref C_BadSize) = some (.type "type"))
    (hd_BadSize : PySem.W.hasDictIn K C_BadSize = true)
    (sm_BadSize : PySem.W.subIn K (.ref C_BadSize) (.ref C_MarkError) = some true)
    (ga_BadSize : PySem.W.findIn K (.ref C_BadSize) "__getattribute__" = some (some (.builtin "BaseException.__getattribute__")))
    (gt_BadSize : PySem.W.findIn K (.ref C_BadSize) "__getattr__" = some none)
    (cl_BadSize : PySem.W.findIn K (.ref C_BadSize) "__class__" = some (some (.builtin "object.__class__")))
    (mr_BadSize : PySem.W.mroIn K C_BadSize (.type "object") = some true)
    (a_BadHeap : PySem.W.nsIn K mainGlobals "BadHeap" = some (some (.ref C_BadHeap)))
    (x_BadHeap : PySem.W.excIn K C_BadHeap [.type "ValueError", .type "Exception", .type "BaseException", .type "object"] "ValueError.__new__" = true)
    (k_BadHeap : PySem.W.keepIn K (.ref C_BadHeap) = true)
    (e_BadHeap : PySem.W.subIn K (.ref C_BadHeap) (.type "BaseException") = some true)
    (t_BadHeap : PySem.W.typeIn K (.ref C_BadHeap) = some (.type "type"))
    (hd_BadHeap : PySem.W.hasDictIn K C_BadHeap = true)
    (sm_BadHeap : PySem.W.subIn K (.ref C_BadHeap) (.ref C_MarkError) = some true)
    (ga_BadHeap : PySem.W.findIn K (.ref C_BadHeap) "__getattribute__" = some (some (.builtin "BaseException.__getattribute__")))
    (gt_BadHeap : PySem.W.findIn K (.ref C_BadHeap) "__getattr__" = some none)
    (cl_BadHeap : PySem.W.findIn K (.ref C_BadHeap) "__class__" = some (some (.builtin "object.__class__")))
    (mr_BadHeap : PySem.W.mroIn K C_BadHeap (.type "object") = some true)
    (a_BadText : PySem.W.nsIn K mainGlobals "BadText" = some (some (.ref C_BadText)))
    (x_BadText : PySem.W.excIn K C_BadText [.type "ValueError", .type "Exception", .type "BaseException", .type "object"] "ValueError.__new__" = true)
    (k_BadText : PySem.W.keepIn K (.ref C_BadText) = true)
    (e_BadText : PySem.W.subIn K (.ref C_BadText) (.type "BaseException") = some true)
    (t_BadText : PySem.W.typeIn K (.ref C_BadText) = some (.type "type"))
    (hd_BadText : PySem.W.hasDictIn K C_BadText = true)
    (sm_BadText : PySem.W.subIn K (.ref C_BadText) (.ref C_MarkError) = some true)
    (ga_BadText : PySem.W.findIn K (.ref C_BadText) "__getattribute__" = some (some (.builtin "BaseException.__getattribute__")))
    (gt_BadText : PySem.W.findIn K (.ref C_BadText) "__getattr__" = some none)
    (cl_BadText : PySem.W.findIn K (.ref C_BadText) "__class__" = some (some (.builtin "object.__class__")))
    (mr_BadText : PySem.W.mroIn K C_BadText (.type "object") = some true)
    (ocn : PySem.W.specialIn K (.builtin "object.__class__") "__get__" = some (some (.builtin "getset_descriptor.__get__")))
    (oct : PySem.W.takesIn K (.builtin "object.__class__") = some true)
    (kit_BadHeap_BadHeap : PySem.W.kitOne K (.ref C_BadHeap) (.ref C_BadHeap) = some true)
    (kit_BadHeap_BadName : PySem.W.kitOne K (.ref C_BadHeap) (.ref C_BadName) = some false)
    (kit_BadHeap_BadPoint : PySem.W.kitOne K (.ref C_BadHeap) (.ref C_BadPoint) = some false)
    (kit_BadHeap_BadSize : PySem.W.kitOne K (.ref C_BadHeap) (.ref C_BadSize) = some false)
    (kit_BadHeap_BadText : PySem.W.kitOne K (.ref C_BadHeap) (.ref C_BadText) = some false)
    (kit_BadHeap_VE : PySem.W.kitOne K (.ref C_BadHeap) (.type "ValueError") = some true)
    (kit_BadName_BadHeap : PySem.W.kitOne K (.ref C_BadName) (.ref C_BadHeap) = some false)
    (kit_BadName_BadName : PySem.W.kitOne K (.ref C_BadName) (.ref C_BadName) = some true)
    (kit_BadName_BadPoint : PySem.W.kitOne K (.ref C_BadName) (.ref C_BadPoint) = some false)
    (kit_BadName_BadSize : PySem.W.kitOne K (.ref C_BadName) (.ref C_BadSize) = some false)
    (kit_BadName_BadText : PySem.W.kitOne K (.ref C_BadName) (.ref C_BadText) = some false)
    (kit_BadName_VE : PySem.W.kitOne K (.ref C_BadName) (.type "ValueError") = some true)
    (kit_BadPoint_BadHeap : PySem.W.kitOne K (.ref C_BadPoint) (.ref C_BadHeap) = some false)
    (kit_BadPoint_BadName : PySem.W.kitOne K (.ref C_BadPoint) (.ref C_BadName) = some false)
    (kit_BadPoint_BadPoint : PySem.W.kitOne K (.ref C_BadPoint) (.ref C_BadPoint) = some true)
    (kit_BadPoint_BadSize : PySem.W.kitOne K (.ref C_BadPoint) (.ref C_BadSize) = some false)
    (kit_BadPoint_BadText : PySem.W.kitOne K (.ref C_BadPoint) (.ref C_BadText) = some false)
    (kit_BadPoint_VE : PySem.W.kitOne K (.ref C_BadPoint) (.type "ValueError") = some true)
    (kit_BadSize_BadHeap : PySem.W.kitOne K (.ref C_BadSize) (.ref C_BadHeap) = some false)
    (kit_BadSize_BadName : PySem.W.kitOne K (.ref C_BadSize) (.ref C_BadName) = some false)
    (kit_BadSize_BadPoint : PySem.W.kitOne K (.ref C_BadSize) (.ref C_BadPoint) = some false)
    (kit_BadSize_BadSize : PySem.W.kitOne K (.ref C_BadSize) (.ref C_BadSize) = some true)
    (kit_BadSize_BadText : PySem.W.kitOne K (.ref C_BadSize) (.ref C_BadText) = some false)
    (kit_BadSize_VE : PySem.W.kitOne K (.ref C_BadSize) (.type "ValueError") = some true)
    (kit_BadText_BadHeap : PySem.W.kitOne K (.ref C_BadText) (.ref C_BadHeap) = some false)
    (kit_BadText_BadName : PySem.W.kitOne K (.ref C_BadText) (.ref C_BadName) = some false)
    (kit_BadText_BadPoint : PySem.W.kitOne K (.ref C_BadText) (.ref C_BadPoint) = some false)
    (kit_BadText_BadSize : PySem.W.kitOne K (.ref C_BadText) (.ref C_BadSize) = some false)
    (kit_BadText_BadText : PySem.W.kitOne K (.ref C_BadText) (.ref C_BadText) = some true)
    (kit_BadText_VE : PySem.W.kitOne K (.ref C_BadText) (.type "ValueError") = some true)
    (g_SMALL : PySem.W.nsIn K mainGlobals "SMALL" = some (some (.str "abcdefghijklmnopqrstuvwxyz" t_SMALL)))
    (g_MOST_WORD : PySem.W.nsIn K mainGlobals "MOST_WORD" = some (some (.int 6 t_MOST_WORD)))
    (g_MOST_SIDE : PySem.W.nsIn K mainGlobals "MOST_SIDE" = some (some (.int 4095 t_MOST_SIDE)))
    (g_MOST_SIZE : PySem.W.nsIn K mainGlobals "MOST_SIZE" = some (some (.int 13 t_MOST_SIZE)))
    (g_REACHES : PySem.W.nsIn K mainGlobals "REACHES" = some (some (.ref a_REACHES)))
    (l_REACHES : K.lookup a_REACHES = some ⟨.type "tuple", oc_REACHES, .seq #[Value.int 0 t0_REACHES, Value.int 1 t1_REACHES, Value.int 2 t2_REACHES, Value.int 4 t3_REACHES, Value.int 8 t4_REACHES, Value.int 16 t5_REACHES, Value.int 32 t6_REACHES, Value.int 64 t7_REACHES, Value.int 128 t8_REACHES, Value.int 256 t9_REACHES, Value.int 512 t10_REACHES, Value.int 1024 t11_REACHES, Value.int 2048 t12_REACHES, Value.int 4096 t13_REACHES] n_REACHES, sl_REACHES⟩)
    (n_ValueError : PySem.W.nsIn K mainGlobals "ValueError" = some none)
    (n_abs : PySem.W.nsIn K mainGlobals "abs" = some none)
    (n_all : PySem.W.nsIn K mainGlobals "all" = some none)
    (n_bool : PySem.W.nsIn K mainGlobals "bool" = some none)
    (n_int : PySem.W.nsIn K mainGlobals "int" = some none)
    (n_isinstance : PySem.W.nsIn K mainGlobals "isinstance" = some none)
    (n_len : PySem.W.nsIn K mainGlobals "len" = some none)
    (n_max : PySem.W.nsIn K mainGlobals "max" = some none)
    (n_min : PySem.W.nsIn K mainGlobals "min" = some none)
    (n_range : PySem.W.nsIn K mainGlobals "range" = some none)
    (n_sorted : PySem.W.nsIn K mainGlobals "sorted" = some none)
    (n_str : PySem.W.nsIn K mainGlobals "str" = some none)
    (n_sum : PySem.W.nsIn K mainGlobals "sum" = some none)
    (n_tuple : PySem.W.nsIn K mainGlobals "tuple" = some none)
    (a_is_count : PySem.W.nsIn K mainGlobals "is_count" = some (some (.ref f_is_count)))
    (l_is_count : K.lookup f_is_count = some ⟨oc_is_count, od_is_count, .func (PySem.W.fnOf "is_count" "is_count" (defArgs s_is_count) (defBody s_is_count) (defScope s_is_count) .none kV_is_count dc_is_count pm_is_count an_is_count cd_is_count ct_is_count), sl_is_count⟩)
    (c_is_count : PySem.W.codeIn K cd_is_count "is_count" = true)
    (k_is_count : PySem.W.keepIn K (.ref f_is_count) = true)
    (a_is_name : PySem.W.nsIn K mainGlobals "is_name" = some (some (.ref f_is_name)))
    (l_is_name : K.lookup f_is_name = some ⟨oc_is_name, od_is_name, .func (PySem.W.fnOf "is_name" "is_name" (defArgs s_is_name) (defBody s_is_name) (defScope s_is_name) .none kV_is_name dc_is_name pm_is_name an_is_name cd_is_name ct_is_name), sl_is_name⟩)
    (c_is_name : PySem.W.codeIn K cd_is_name "is_name" = true)
    (k_is_name : PySem.W.keepIn K (.ref f_is_name) = true)
    (a_need_name : PySem.W.nsIn K mainGlobals "need_name" = some (some (.ref f_need_name)))
    (l_need_name : K.lookup f_need_name = some ⟨oc_need_name, od_need_name, .func (PySem.W.fnOf "need_name" "need_name" (defArgs s_need_name) (defBody s_need_name) (defScope s_need_name) .none kV_need_name dc_need_name pm_need_name an_need_name cd_need_name ct_need_name), sl_need_name⟩)
    (c_need_name : PySem.W.codeIn K cd_need_name "need_name" = true)
    (k_need_name : PySem.W.keepIn K (.ref f_need_name) = true)
    (a_need_point : PySem.W.nsIn K mainGlobals "need_point" = some (some (.ref f_need_point)))
    (l_need_point : K.lookup f_need_point = some ⟨oc_need_point, od_need_point, .func (PySem.W.fnOf "need_point" "need_point" (defArgs s_need_point) (defBody s_need_point) (defScope s_need_point) .none kV_need_point dc_need_point pm_need_point an_need_point cd_need_point ct_need_point), sl_need_point⟩)
    (c_need_point : PySem.W.codeIn K cd_need_point "need_point" = true)
    (k_need_point : PySem.W.keepIn K (.ref f_need_point) = true)
    (a_need_size : PySem.W.nsIn K mainGlobals "need_size" = some (some (.ref f_need_size)))
    (l_need_size : K.lookup f_need_size = some ⟨oc_need_size, od_need_size, .func (PySem.W.fnOf "need_size" "need_size" (defArgs s_need_size) (defBody s_need_size) (defScope s_need_size) .none kV_need_size dc_need_size pm_need_size an_need_size cd_need_size ct_need_size), sl_need_size⟩)
    (c_need_size : PySem.W.codeIn K cd_need_size "need_size" = true)
    (k_need_size : PySem.W.keepIn K (.ref f_need_size) = true)
    (a_reach : PySem.W.nsIn K mainGlobals "reach" = some (some (.ref f_reach)))
    (l_reach : K.lookup f_reach = some ⟨oc_reach, od_reach, .func (PySem.W.fnOf "reach" "reach" (defArgs s_reach) (defBody s_reach) (defScope s_reach) .none kV_reach dc_reach pm_reach an_reach cd_reach ct_reach), sl_reach⟩)
    (c_reach : PySem.W.codeIn K cd_reach "reach" = true)
    (k_reach : PySem.W.keepIn K (.ref f_reach) = true)
    (a_apart : PySem.W.nsIn K mainGlobals "apart" = some (some (.ref f_apart)))
    (l_apart : K.lookup f_apart = some ⟨oc_apart, od_apart, .func (PySem.W.fnOf "apart" "apart" (defArgs s_apart) (defBody s_apart) (defScope s_apart) .none kV_apart dc_apart pm_apart an_apart cd_apart ct_apart), sl_apart⟩)
    (c_apart : PySem.W.codeIn K cd_apart "apart" = true)
    (k_apart : PySem.W.keepIn K (.ref f_apart) = true)
    (a_far : PySem.W.nsIn K mainGlobals "far" = some (some (.ref f_far)))
    (l_far : K.lookup f_far = some ⟨oc_far, od_far, .func (PySem.W.fnOf "far" "far" (defArgs s_far) (defBody s_far) (defScope s_far) .none kV_far dc_far pm_far an_far cd_far ct_far), sl_far⟩)
    (c_far : PySem.W.codeIn K cd_far "far" = true)
    (k_far : PySem.W.keepIn K (.ref f_far) = true)
    (a_near_size : PySem.W.nsIn K mainGlobals "near_size" = some (some (.ref f_near_size)))
    (l_near_size : K.lookup f_near_size = some ⟨oc_near_size, od_near_size, .func (PySem.W.fnOf "near_size" "near_size" (defArgs s_near_size) (defBody s_near_size) (defScope s_near_size) .none kV_near_size dc_near_size pm_near_size an_near_size cd_near_size ct_near_size), sl_near_size⟩)
    (c_near_size : PySem.W.codeIn K cd_near_size "near_size" = true)
    (k_near_size : PySem.W.keepIn K (.ref f_near_size) = true)
    (a_law_cell : PySem.W.nsIn K mainGlobals "_law_cell" = some (some (.ref f_law_cell)))
    (l_law_cell : K.lookup f_law_cell = some ⟨oc_law_cell, od_law_cell, .func (PySem.W.fnOf "_law_cell" "_law_cell" (defArgs s_law_cell) (defBody s_law_cell) (defScope s_law_cell) .none kV_law_cell dc_law_cell pm_law_cell an_law_cell cd_law_cell ct_law_cell), sl_law_cell⟩)
    (c_law_cell : PySem.W.codeIn K cd_law_cell "_law_cell" = true)
    (k_law_cell : PySem.W.keepIn K (.ref f_law_cell) = true)
    (a_law_drawn : PySem.W.nsIn K mainGlobals "_law_drawn" = some (some (.ref f_law_drawn)))
    (l_law_drawn : K.lookup f_law_drawn = some ⟨oc_law_drawn, od_law_drawn, .func (PySem.W.fnOf "_law_drawn" "_law_drawn" (defArgs s_law_drawn) (defBody s_law_drawn) (defScope s_law_drawn) .none kV_law_drawn dc_law_drawn pm_law_drawn an_law_drawn cd_law_drawn ct_law_drawn), sl_law_drawn⟩)
    (c_law_drawn : PySem.W.codeIn K cd_law_drawn "_law_drawn" = true)
    (k_law_drawn : PySem.W.keepIn K (.ref f_law_drawn) = true)
    (a_law_word : PySem.W.nsIn K mainGlobals "_law_word" = some (some (.ref f_law_word)))
    (l_law_word : K.lookup f_law_word = some ⟨oc_law_word, od_law_word, .func (PySem.W.fnOf "_law_word" "_law_word" (defArgs s_law_word) (defBody s_law_word) (defScope s_law_word) .none kV_law_word dc_law_word pm_law_word an_law_word cd_law_word ct_law_word), sl_law_word⟩)
    (c_law_word : PySem.W.codeIn K cd_law_word "_law_word" = true)
    (k_law_word : PySem.W.keepIn K (.ref f_law_word) = true)
    (a_law_told : PySem.W.nsIn K mainGlobals "_law_told" = some (some (.ref f_law_told)))
    (l_law_told : K.lookup f_law_told = some ⟨oc_law_told, od_law_told, .func (PySem.W.fnOf "_law_told" "_law_told" (defArgs s_law_told) (defBody s_law_told) (defScope s_law_told) .none kV_law_told dc_law_told pm_law_told an_law_told cd_law_told ct_law_told), sl_law_told⟩)
    (c_law_told : PySem.W.codeIn K cd_law_told "_law_told" = true)
    (k_law_told : PySem.W.keepIn K (.ref f_law_told) = true)
    (a_law_point : PySem.W.nsIn K mainGlobals "_law_point" = some (some (.ref f_law_point)))
    (l_law_point : K.lookup f_law_point = some ⟨oc_law_point, od_law_point, .func (PySem.W.fnOf "_law_point" "_law_point" (defArgs s_law_point) (defBody s_law_point) (defScope s_law_point) .none kV_law_point dc_law_point pm_law_point an_law_point cd_law_point ct_law_point), sl_law_point⟩)
    (c_law_point : PySem.W.codeIn K cd_law_point "_law_point" = true)
    (k_law_point : PySem.W.keepIn K (.ref f_law_point) = true)
    (a_law_far : PySem.W.nsIn K mainGlobals "_law_far" = some (some (.ref f_law_far)))
    (l_law_far : K.lookup f_law_far = some ⟨oc_law_far, od_law_far, .func (PySem.W.fnOf "_law_far" "_law_far" (defArgs s_law_far) (defBody s_law_far) (defScope s_law_far) .none kV_law_far dc_law_far pm_law_far an_law_far cd_law_far ct_law_far), sl_law_far⟩)
    (c_law_far : PySem.W.codeIn K cd_law_far "_law_far" = true)
    (k_law_far : PySem.W.keepIn K (.ref f_law_far) = true)
    (a_law_near : PySem.W.nsIn K mainGlobals "_law_near" = some (some (.ref f_law_near)))
    (l_law_near : K.lookup f_law_near = some ⟨oc_law_near, od_law_near, .func (PySem.W.fnOf "_law_near" "_law_near" (defArgs s_law_near) (defBody s_law_near) (defScope s_law_near) .none kV_law_near dc_law_near pm_law_near an_law_near cd_law_near ct_law_near), sl_law_near⟩)
    (c_law_near : PySem.W.codeIn K cd_law_near "_law_near" = true)
    (k_law_near : PySem.W.keepIn K (.ref f_law_near) = true)
    (a_law : PySem.W.nsIn K mainGlobals "law" = some (some (.ref f_law)))
    (l_law : K.lookup f_law = some ⟨oc_law, od_law, .func (PySem.W.fnOf "law" "law" (defArgs s_law) (defBody s_law) (defScope s_law) .none kV_law dc_law pm_law an_law (.ref co_law) ct_law), sl_law⟩)
    (c_law : PySem.W.codeIn K (.ref co_law) "law" = true)
    (k_law : PySem.W.keepIn K (.ref f_law) = true)
    (lo_law : K.lookup co_law = some ⟨.type "code", odc_law, .fields vsc_law, slc_law⟩)
    (tv_law : vsc_law[11]? = some (Value.ref tb_law))
    (th_law : codeHdV vsc_law co_law tb_law = true)
    (tn_law : K.lookup tb_law = none)
    (te_law : h.get? tb_law = some (PySem.W.tabObj #[]))
    : LamX.LawAtS l w K CX0 6 63 "script" mg fa h := by
  have e := hfa.symm.trans (PySem.W.mg_of X G a_law)
  have e' : fa = f_law := by cases e; rfl
  rw [e']
  have F_is_count := fun_mk (st := s_is_count) l_is_count c_is_count k_is_count
  have b_is_count := F_is_count.binds (ps := ["thing", "low", "high"]) fun _ _ _ _ _ _ us hl => match us, hl with | [_, _, _], _ => rfl
  have F_is_name := fun_mk (st := s_is_name) l_is_name c_is_name k_is_name
  have b_is_name := F_is_name.binds (ps := ["thing"]) fun _ _ _ _ _ _ us hl => match us, hl with | [_], _ => rfl
  have F_need_name := fun_mk (st := s_need_name) l_need_name c_need_name k_need_name
  have b_need_name := F_need_name.binds (ps := ["thing"]) fun _ _ _ _ _ _ us hl => match us, hl with | [_], _ => rfl
  have F_need_point := fun_mk (st := s_need_point) l_need_point c_need_point k_need_point
  have b_need_point := F_need_point.binds (ps := ["thing"]) fun _ _ _ _ _ _ us hl => match us, hl with | [_], _ => rfl
  have F_need_size := fun_mk (st := s_need_size) l_need_size c_need_size k_need_size
  have b_need_size := F_need_size.binds (ps := ["thing"]) fun _ _ _ _ _ _ us hl => match us, hl with | [_], _ => rfl
  have F_reach := fun_mk (st := s_reach) l_reach c_reach k_reach
  have b_reach := F_reach.binds (ps := ["size"]) fun _ _ _ _ _ _ us hl => match us, hl with | [_], _ => rfl
  have F_apart := fun_mk (st := s_apart) l_apart c_apart k_apart
  have b_apart := F_apart.binds (ps := ["one", "other"]) fun _ _ _ _ _ _ us hl => match us, hl with | [_, _], _ => rfl
  have F_far := fun_mk (st := s_far) l_far c_far k_far
  have b_far := F_far.binds (ps := ["one", "other"]) fun _ _ _ _ _ _ us hl => match us, hl with | [_, _], _ => rfl
  have F_near_size := fun_mk (st := s_near_size) l_near_size c_near_size k_near_size
  have b_near_size := F_near_size.binds (ps := ["one", "other"]) fun _ _ _ _ _ _ us hl => match us, hl with | [_, _], _ => rfl
  have F_law_cell := fun_mk (st := s_law_cell) l_law_cell c_law_cell k_law_cell
  have b_law_cell := F_law_cell.binds (ps := ["script", "k"]) fun _ _ _ _ _ _ us hl => match us, hl with | [_, _], _ => rfl
  have F_law_drawn := fun_mk (st := s_law_drawn) l_law_drawn c_law_drawn k_law_drawn
  have b_law_drawn := F_law_drawn.binds (ps := ["cell", "k"]) fun _ _ _ _ _ _ us hl => match us, hl with | [_, _], _ => rfl
  have F_law_word := fun_mk (st := s_law_word) l_law_word c_law_word k_law_word
  have b_law_word := F_law_word.binds (ps := ["e"]) fun _ _ _ _ _ _ us hl => match us, hl with | [_], _ => rfl
  have F_law_told := fun_mk (st := s_law_told) l_law_told c_law_told k_law_told
  have b_law_told := F_law_told.binds (ps := ["deed"]) fun _ _ _ _ _ _ us hl => match us, hl with | [_], _ => rfl
  have F_law_point := fun_mk (st := s_law_point) l_law_point c_law_point k_law_point
  have b_law_point := F_law_point.binds (ps := ["more"]) fun _ _ _ _ _ _ us hl => match us, hl with | [_], _ => rfl
  have F_law_far := fun_mk (st := s_law_far) l_law_far c_law_far k_law_far
  have b_law_far := F_law_far.binds (ps := ["one", "other"]) fun _ _ _ _ _ _ us hl => match us, hl with | [_, _], _ => rfl
  have F_law_near := fun_mk (st := s_law_near) l_law_near c_law_near k_law_near
  have b_law_near := F_law_near.binds (ps := ["one", "other", "size"]) fun _ _ _ _ _ _ us hl => match us, hl with | [_, _, _], _ => rfl
  have F_law := fun_mk (st := s_law) l_law c_law k_law
  have b_law := F_law.binds (ps := ["script"]) fun _ _ _ _ _ _ us hl => match us, hl with | [_], _ => rfl
  obtain ⟨T, e0, e1, e2, e3⟩ : ∃ T : Tx K mg, T.f_law = f_law ∧ T.d_law = (PySem.W.fnOf "law" "law" (defArgs s_law) (defBody s_law) (defScope s_law) .none kV_law dc_law pm_law an_law (.ref co_law) ct_law) ∧ T.co_law = co_law ∧ T.tb_law = tb_law := ⟨{
    C_MarkError := C_MarkError
    C_BadName := C_BadName
    C_BadPoint := C_BadPoint
    C_BadSize := C_BadSize
    C_BadHeap := C_BadHeap
    C_BadText := C_BadText
    g_MarkError := PySem.W.mg_of X G a_MarkError
    x_MarkError := x_MarkError
    k_MarkError := k_MarkError
    e_MarkError := e_MarkError
    t_MarkError := t_MarkError
    hd_MarkError := hd_MarkError
    sm_MarkError := sm_MarkError
    ga_MarkError := ga_MarkError
    gt_MarkError := gt_MarkError
    cl_MarkError := cl_MarkError
    mr_MarkError := mr_MarkError
    g_BadName := PySem.W.mg_of X G a_BadName
    x_BadName := x_BadName
    k_BadName := k_BadName
    e_BadName := e_BadName
    t_BadName := t_BadName
    hd_BadName := hd_BadName
    sm_BadName := sm_BadName
    ga_BadName := ga_BadName
    gt_BadName := gt_BadName
    cl_BadName := cl_BadName
    mr_BadName := mr_BadName
    g_BadPoint := PySem.W.mg_of X G a_BadPoint
    x_BadPoint := x_BadPoint
    k_BadPoint := k_BadPoint
    e_BadPoint := e_BadPoint
    t_BadPoint := t_BadPoint
    hd_BadPoint := hd_BadPoint
    sm_BadPoint := sm_BadPoint
    ga_BadPoint := ga_BadPoint
    gt_BadPoint := gt_BadPoint
    cl_BadPoint := cl_BadPoint
    mr_BadPoint := mr_BadPoint
    g_BadSize := PySem.W.mg_of X G a_BadSize
    x_BadSize := x_BadSize
    k_BadSize := k_BadSize
    e_BadSize := e_BadSize
    t_BadSize := t_BadSize
    hd_BadSize := hd_BadSize
    sm_BadSize := sm_BadSize
    ga_BadSize := ga_BadSize
    gt_BadSize := gt_BadSize
    cl_BadSize := cl_BadSize
    mr_BadSize := mr_BadSize
    g_BadHeap := PySem.W.mg_of X G a_BadHeap
    x_BadHeap := x_BadHeap
    k_BadHeap := k_BadHeap
    e_BadHeap := e_BadHeap
    t_BadHeap := t_BadHeap
    hd_BadHeap := hd_BadHeap
    sm_BadHeap := sm_BadHeap
    ga_BadHeap := ga_BadHeap
    gt_BadHeap := gt_BadHeap
    cl_BadHeap := cl_BadHeap
    mr_BadHeap := mr_BadHeap
    g_BadText := PySem.W.mg_of X G a_BadText
    x_BadText := x_BadText
    k_BadText := k_BadText
    e_BadText := e_BadText
    t_BadText := t_BadText
    hd_BadText := hd_BadText
    sm_BadText := sm_BadText
    ga_BadText := ga_BadText
    gt_BadText := gt_BadText
    cl_BadText := cl_BadText
    mr_BadText := mr_BadText
    ocn := ocn
    oct := oct
    kit_BadHeap_BadHeap := kit_BadHeap_BadHeap
    kit_BadHeap_BadName := kit_BadHeap_BadName
    kit_BadHeap_BadPoint := kit_BadHeap_BadPoint
    kit_BadHeap_BadSize := kit_BadHeap_BadSize
    kit_BadHeap_BadText := kit_BadHeap_BadText
    kit_BadHeap_VE := kit_BadHeap_VE
    kit_BadName_BadHeap := kit_BadName_BadHeap
    kit_BadName_BadName := kit_BadName_BadName
    kit_BadName_BadPoint := kit_BadName_BadPoint
    kit_BadName_BadSize := kit_BadName_BadSize
    kit_BadName_BadText := kit_BadName_BadText
    kit_BadName_VE := kit_BadName_VE
    kit_BadPoint_BadHeap := kit_BadPoint_BadHeap
    kit_BadPoint_BadName := kit_BadPoint_BadName
    kit_BadPoint_BadPoint := kit_BadPoint_BadPoint
    kit_BadPoint_BadSize := kit_BadPoint_BadSize
    kit_BadPoint_BadText := kit_BadPoint_BadText
    kit_BadPoint_VE := kit_BadPoint_VE
    kit_BadSize_BadHeap := kit_BadSize_BadHeap
    kit_BadSize_BadName := kit_BadSize_BadName
    kit_BadSize_BadPoint := kit_BadSize_BadPoint
    kit_BadSize_BadSize := kit_BadSize_BadSize
    kit_BadSize_BadText := kit_BadSize_BadText
    kit_BadSize_VE := kit_BadSize_VE
    kit_BadText_BadHeap := kit_BadText_BadHeap
    kit_BadText_BadName := kit_BadText_BadName
    kit_BadText_BadPoint := kit_BadText_BadPoint
    kit_BadText_BadSize := kit_BadText_BadSize
    kit_BadText_BadText := kit_BadText_BadText
    kit_BadText_VE := kit_BadText_VE
    t_SMALL := t_SMALL
    g_SMALL := PySem.W.mg_of X G g_SMALL
    t_MOST_WORD := t_MOST_WORD
    g_MOST_WORD := PySem.W.mg_of X G g_MOST_WORD
    t_MOST_SIDE := t_MOST_SIDE
    g_MOST_SIDE := PySem.W.mg_of X G g_MOST_SIDE
    t_MOST_SIZE := t_MOST_SIZE
    g_MOST_SIZE := PySem.W.mg_of X G g_MOST_SIZE
    a_REACHES := a_REACHES
    g_REACHES := PySem.W.mg_of X G g_REACHES
    s_REACHES := fun H => .inr ⟨_, _, _, l_REACHES, rfl, rfl, (by show 14 ≤ sizeLine; decide), (Paired.cons ⟨_, rfl⟩ (Paired.cons ⟨_, rfl⟩ (Paired.cons ⟨_, rfl⟩ (Paired.cons ⟨_, rfl⟩ (Paired.cons ⟨_, rfl⟩ (Paired.cons ⟨_, rfl⟩ (Paired.cons ⟨_, rfl⟩ (Paired.cons ⟨_, rfl⟩ (Paired.cons ⟨_, rfl⟩ (Paired.cons ⟨_, rfl⟩ (Paired.cons ⟨_, rfl⟩ (Paired.cons ⟨_, rfl⟩ (Paired.cons ⟨_, rfl⟩ (Paired.cons ⟨_, rfl⟩ Paired.nil))))))))))))))⟩
    n_ValueError := PySem.W.mg_none_of X G n_ValueError
    n_abs := PySem.W.mg_none_of X G n_abs
    n_all := PySem.W.mg_none_of X G n_all
    n_bool := PySem.W.mg_none_of X G n_bool
    n_int := PySem.W.mg_none_of X G n_int
    n_isinstance := PySem.W.mg_none_of X G n_isinstance
    n_len := PySem.W.mg_none_of X G n_len
    n_max := PySem.W.mg_none_of X G n_max
    n_min := PySem.W.mg_none_of X G n_min
    n_range := PySem.W.mg_none_of X G n_range
    n_sorted := PySem.W.mg_none_of X G n_sorted
    n_str := PySem.W.mg_none_of X G n_str
    n_sum := PySem.W.mg_none_of X G n_sum
    n_tuple := PySem.W.mg_none_of X G n_tuple
    g_is_count := PySem.W.mg_of X G a_is_count
    f_is_count := f_is_count
    d_is_count := _
    F_is_count := F_is_count
    b_is_count := b_is_count
    g_is_name := PySem.W.mg_of X G a_is_name
    f_is_name := f_is_name
    d_is_name := _
    F_is_name := F_is_name
    b_is_name := b_is_name
    g_need_name := PySem.W.mg_of X G a_need_name
    f_need_name := f_need_name
    d_need_name := _
    F_need_name := F_need_name
    b_need_name := b_need_name
    g_need_point := PySem.W.mg_of X G a_need_point
    f_need_point := f_need_point
    d_need_point := _
    F_need_point := F_need_point
    b_need_point := b_need_point
    g_need_size := PySem.W.mg_of X G a_need_size
    f_need_size := f_need_size
    d_need_size := _
    F_need_size := F_need_size
    b_need_size := b_need_size
    g_reach := PySem.W.mg_of X G a_reach
    f_reach := f_reach
    d_reach := _
    F_reach := F_reach
    b_reach := b_reach
    g_apart := PySem.W.mg_of X G a_apart
    f_apart := f_apart
    d_apart := _
    F_apart := F_apart
    b_apart := b_apart
    g_far := PySem.W.mg_of X G a_far
    f_far := f_far
    d_far := _
    F_far := F_far
    b_far := b_far
    g_near_size := PySem.W.mg_of X G a_near_size
    f_near_size := f_near_size
    d_near_size := _
    F_near_size := F_near_size
    b_near_size := b_near_size
    g_law_cell := PySem.W.mg_of X G a_law_cell
    f_law_cell := f_law_cell
    d_law_cell := _
    F_law_cell := F_law_cell
    b_law_cell := b_law_cell
    g_law_drawn := PySem.W.mg_of X G a_law_drawn
    f_law_drawn := f_law_drawn
    d_law_drawn := _
    F_law_drawn := F_law_drawn
    b_law_drawn := b_law_drawn
    g_law_word := PySem.W.mg_of X G a_law_word
    f_law_word := f_law_word
    d_law_word := _
    F_law_word := F_law_word
    b_law_word := b_law_word
    g_law_told := PySem.W.mg_of X G a_law_told
    f_law_told := f_law_told
    d_law_told := _
    F_law_told := F_law_told
    b_law_told := b_law_told
    g_law_point := PySem.W.mg_of X G a_law_point
    f_law_point := f_law_point
    d_law_point := _
    F_law_point := F_law_point
    b_law_point := b_law_point
    g_law_far := PySem.W.mg_of X G a_law_far
    f_law_far := f_law_far
    d_law_far := _
    F_law_far := F_law_far
    b_law_far := b_law_far
    g_law_near := PySem.W.mg_of X G a_law_near
    f_law_near := f_law_near
    d_law_near := _
    F_law_near := F_law_near
    b_law_near := b_law_near
    co_law := co_law
    tb_law := tb_law
    D_law := ⟨_, _, _, _, _, _, _, _, rfl, l_law, c_law⟩
    g_law := PySem.W.mg_of X G a_law
    f_law := f_law
    d_law := _
    F_law := F_law
    b_law := b_law
    }, rfl, rfl, rfl, rfl⟩
  subst e0 e2 e3
  have q1 : ∀ p ∈ ([(T.co_law, T.tb_law)] : List (Addr × Addr)), h.get? p.2 = some { cls := .none, data := .fields #[] } := fun p hp => by
    simp only [List.mem_cons, List.not_mem_nil, or_false] at hp
    subst hp
    exact te_law
  have q2 : ∀ p ∈ ([(T.co_law, T.tb_law)] : List (Addr × Addr)), K.lookup p.2 = none := fun p hp => by
    simp only [List.mem_cons, List.not_mem_nil, or_false] at hp
    subst hp
    exact tn_law
  have q3 : ∀ p ∈ ([(T.co_law, T.tb_law)] : List (Addr × Addr)), PySem.W.CodeHd h p.1 p.2 := fun p hp => by
    simp only [List.mem_cons, List.not_mem_nil, or_false] at hp
    subst hp
    exact PySem.W.codeHd_of_K X (hd_of lo_law th_law)
  refine ⟨(PySem.W.fnOf "law" "law" (defArgs s_law) (defBody s_law) (defScope s_law) .none kV_law dc_law pm_law an_law (.ref T.co_law) ct_law), [(T.co_law, T.tb_law)], sp_law T, q1, q2, q3, fun s v => .of_eq rfl, fun H a ns hl _ hT hS => ?_, fun base _ _ tb => ?_⟩
  · refine ⟨a, ns, rfl, hS, hl, fun p hp => ?_, fun _ => rfl⟩
    unfold TL at hp
    simp only [List.mem_cons, List.not_mem_nil, or_false] at hp
    subst hp
    exact LamX.TabS.nil (hT _ List.mem_cons_self)
  · rw [← e1]
    exact ok_law T (tb _ List.mem_cons_self)
end NMP
open PySem PySem.W PyProof.Rows
set_option maxRecDepth 100000 in
set_option maxHeartbeats 0 in
theorem PySem.Challenge.cw_nearmarks_k10_points_holds : PySem.Challenge.rw_nearmarks_k10_points.Holds := by
  w_on; o_law; k_head; (case hw => w_witness2)
  k_fill
  refine LamX.walk_ofTs (l := PySem.Challenge.rw_nearmarks_k10_points) (n := 63) (k := 6) (x := "script") (CX := fun _ => L2.CX0) rfl (by decide) rfl ⟨rfl, by decide, by decide⟩ (fun w h Y => PySem.W.km_in_of Y) ?F (fun _ _ _ _ _ z => z)
  case F =>
    intro w mg fa h Y KX G hmg
    refine' NMP.all_mk KX G hmg ?a_MarkError ?x_MarkError ?k_MarkError ?e_MarkError ?t_MarkError ?hd_MarkError ?sm_MarkError ?ga_MarkError ?gt_MarkError ?cl_MarkError ?mr_MarkError ?a_BadName ?x_BadName ?k_BadName ?e_BadName ?t_BadName ?hd_BadName ?sm_BadName ?ga_BadName ?gt_BadName ?cl_BadName ?mr_BadName ?a_BadPoint ?x_BadPoint ?k_BadPoint ?e_BadPoint ?t_BadPoint ?hd_BadPoint ?sm_BadPoint ?ga_BadPoint ?gt_BadPoint ?cl_BadPoint ?mr_BadPoint ?a_BadSize ?x_BadSize ?k_BadSize ?e_BadSize ?t_BadSize ?hd_BadSize ?sm_BadSize ?ga_BadSize ?gt_BadSize ?cl_BadSize ?mr_BadSize ?a_BadHeap ?x_BadHeap ?k_BadHeap ?e_BadHeap ?t_BadHeap ?hd_BadHeap ?sm_BadHeap ?ga_BadHeap ?gt_BadHeap ?cl_BadHeap ?mr_BadHeap ?a_BadText ?x_BadText ?k_BadText ?e_BadText ?t_BadText ?hd_BadText ?sm_BadText ?ga_BadText ?gt_BadText ?cl_BadText ?mr_BadText ?ocn ?oct ?kit_BadHeap_BadHeap ?kit_BadHeap_BadName ?kit_BadHeap_BadPoint ?kit_BadHeap_BadSize ?kit_BadHeap_BadText ?kit_BadHeap_VE ?kit_BadName_BadHeap ?kit_BadName_BadName ?kit_BadName_BadPoint ?kit_BadName_BadSize ?kit_BadName_BadText ?kit_BadName_VE ?kit_BadPoint_BadHeap ?kit_BadPoint_BadName ?kit_BadPoint_BadPoint ?kit_BadPoint_BadSize ?kit_BadPoint_BadText ?kit_BadPoint_VE ?kit_BadSize_BadHeap ?kit_BadSize_BadName ?kit_BadSize_BadPoint ?kit_BadSize_BadSize ?kit_BadSize_BadText ?kit_BadSize_VE ?kit_BadText_BadHeap ?kit_BadText_BadName ?kit_BadText_BadPoint ?kit_BadText_BadSize ?kit_BadText_BadText ?kit_BadText_VE ?g_SMALL ?g_MOST_WORD ?g_MOST_SIDE ?g_MOST_SIZE ?g_REACHES ?l_REACHES ?n_ValueError ?n_abs ?n_all ?n_bool ?n_int ?n_isinstance ?n_len ?n_max ?n_min ?n_range ?n_sorted ?n_str ?n_sum ?n_tuple ?a_is_count ?l_is_count ?c_is_count ?k_is_count ?a_is_name ?l_is_name ?c_is_name ?k_is_name ?a_need_name ?l_need_name ?c_need_name ?k_need_name ?a_need_point ?l_need_point ?c_need_point ?k_need_point ?a_need_size ?l_need_size ?c_need_size ?k_need_size ?a_reach ?l_reach ?c_reach ?k_reach ?a_apart ?l_apart ?c_apart ?k_apart ?a_far ?l_far ?c_far ?k_far ?a_near_size ?l_near_size ?c_near_size ?k_near_size ?a_law_cell ?l_law_cell ?c_law_cell ?k_law_cell ?a_law_drawn ?l_law_drawn ?c_law_drawn ?k_law_drawn ?a_law_word ?l_law_word ?c_law_word ?k_law_word ?a_law_told ?l_law_told ?c_law_told ?k_law_told ?a_law_point ?l_law_point ?c_law_point ?k_law_point ?a_law_far ?l_law_far ?c_law_far ?k_law_far ?a_law_near ?l_law_near ?c_law_near ?k_law_near ?a_law ?l_law ?c_law ?k_law ?lo_law ?tv_law ?th_law ?tn_law ?te_law
    (case a_MarkError => k_is)
    (case x_MarkError => k_exc)
    (case k_MarkError => k_is)
    (case e_MarkError => k_is)
    (case t_MarkError => k_is)
    (case hd_MarkError => k_is)
    (case sm_MarkError => k_is)
    (case ga_MarkError => k_is)
    (case gt_MarkError => k_is)
    (case cl_MarkError => k_is)
    (case mr_MarkError => k_is)
    (case a_BadName => k_is)
    (case x_BadName => k_exc)
    (case k_BadName => k_is)
    (case e_BadName => k_is)
    (case t_BadName => k_is)
    (case hd_BadName => k_is)
    (case sm_BadName => k_is)
    (case ga_BadName => k_is)
    (case gt_BadName => k_is)
    (case cl_BadName => k_is)
    (case mr_BadName => k_is)
    (case a_BadPoint => k_is)
    (case x_BadPoint => k_exc)
    (case k_BadPoint => k_is)
    (case e_BadPoint => k_is)
    (case t_BadPoint => k_is)
    (case hd_BadPoint => k_is)
    (case sm_BadPoint => k_is)
    (case ga_BadPoint => k_is)
    (case gt_BadPoint => k_is)
    (case cl_BadPoint => k_is)
    (case mr_BadPoint => k_is)
    (case a_BadSize => k_is)
    (case x_BadSize => k_exc)
    (case k_BadSize => k_is)
    (case e_BadSize => k_is)
    (case t_BadSize => k_is)
    (case hd_BadSize => k_is)
    (case sm_BadSize => k_is)
    (case ga_BadSize => k_is)
    (case gt_BadSize => k_is)
    (case cl_BadSize => k_is)
    (case mr_BadSize => k_is)
    (case a_BadHeap => k_is)
    (case x_BadHeap => k_exc)
    (case k_BadHeap => k_is)
    (case e_BadHeap => k_is)
    (case t_BadHeap => k_is)
    (case hd_BadHeap => k_is)
    (case sm_BadHeap => k_is)
    (case ga_BadHeap => k_is)
    (case gt_BadHeap => k_is)
    (case cl_BadHeap => k_is)
    (case mr_BadHeap => k_is)
    (case a_BadText => k_is)
    (case x_BadText => k_exc)
    (case k_BadText => k_is)
    (case e_BadText => k_is)
    (case t_BadText => k_is)
    (case hd_BadText => k_is)
    (case sm_BadText => k_is)
    (case ga_BadText => k_is)
    (case gt_BadText => k_is)
    (case cl_BadText => k_is)
    (case mr_BadText => k_is)
    (case ocn => k_is)
    (case oct => k_is)
    (case kit_BadHeap_BadHeap => exact NM.kit_yes)
    (case kit_BadHeap_BadName => exact NM.kit_no (by decide) (by k_is) (by k_is) (by k_is))
    (case kit_BadHeap_BadPoint => exact NM.kit_no (by decide) (by k_is) (by k_is) (by k_is))
    (case kit_BadHeap_BadSize => exact NM.kit_no (by decide) (by k_is) (by k_is) (by k_is))
    (case kit_BadHeap_BadText => exact NM.kit_no (by decide) (by k_is) (by k_is) (by k_is))
    (case kit_BadHeap_VE => exact NM.kit_VE (by k_is))
    (case kit_BadName_BadHeap => exact NM.kit_no (by decide) (by k_is) (by k_is) (by k_is))
    (case kit_BadName_BadName => exact NM.kit_yes)
    (case kit_BadName_BadPoint => exact NM.kit_no (by decide) (by k_is) (by k_is) (by k_is))
    (case kit_BadName_BadSize => exact NM.kit_no (by decide) (by k_is) (by k_is) (by k_is))
    (case kit_BadName_BadText => exact NM.kit_no (by decide) (by k_is) (by k_is) (by k_is))
    (case kit_BadName_VE => exact NM.kit_VE (by k_is))
    (case kit_BadPoint_BadHeap => exact NM.kit_no (by decide) (by k_is) (by k_is) (by k_is))
    (case kit_BadPoint_BadName => exact NM.kit_no (by decide) (by k_is) (by k_is) (by k_is))
    (case kit_BadPoint_BadPoint => exact NM.kit_yes)
    (case kit_BadPoint_BadSize => exact NM.kit_no (by decide) (by k_is) (by k_is) (by k_is))
    (case kit_BadPoint_BadText => exact NM.kit_no (by decide) (by k_is) (by k_is) (by k_is))
    (case kit_BadPoint_VE => exact NM.kit_VE (by k_is))
    (case kit_BadSize_BadHeap => exact NM.kit_no (by decide) (by k_is) (by k_is) (by k_is))
    (case kit_BadSize_BadName => exact NM.kit_no (by decide) (by k_is) (by k_is) (by k_is))
    (case kit_BadSize_BadPoint => exact NM.kit_no (by decide) (by k_is) (by k_is) (by k_is))
    (case kit_BadSize_BadSize => exact NM.kit_yes)
    (case kit_BadSize_BadText => exact NM.kit_no (by decide) (by k_is) (by k_is) (by k_is))
    (case kit_BadSize_VE => exact NM.kit_VE (by k_is))
    (case kit_BadText_BadHeap => exact NM.kit_no (by decide) (by k_is) (by k_is) (by k_is))
    (case kit_BadText_BadName => exact NM.kit_no (by decide) (by k_is) (by k_is) (by k_is))
    (case kit_BadText_BadPoint => exact NM.kit_no (by decide) (by k_is) (by k_is) (by k_is))
    (case kit_BadText_BadSize => exact NM.kit_no (by decide) (by k_is) (by k_is) (by k_is))
    (case kit_BadText_BadText => exact NM.kit_yes)
    (case kit_BadText_VE => exact NM.kit_VE (by k_is))
    (case g_SMALL => k_is)
    (case g_MOST_WORD => k_is)
    (case g_MOST_SIDE => k_is)
    (case g_MOST_SIZE => k_is)
    (case g_REACHES => k_is)
    (case l_REACHES => k_is)
    (case n_ValueError => k_is)
    (case n_abs => k_is)
    (case n_all => k_is)
    (case n_bool => k_is)
    (case n_int => k_is)
    (case n_isinstance => k_is)
    (case n_len => k_is)
    (case n_max => k_is)
    (case n_min => k_is)
    (case n_range => k_is)
    (case n_sorted => k_is)
    (case n_str => k_is)
    (case n_sum => k_is)
    (case n_tuple => k_is)
    (case a_is_count => k_is)
    (case l_is_count => k_is)
    (case c_is_count => k_is)
    (case k_is_count => k_is)
    (case a_is_name => k_is)
    (case l_is_name => k_is)
    (case c_is_name => k_is)
    (case k_is_name => k_is)
    (case a_need_name => k_is)
    (case l_need_name => k_is)
    (case c_need_name => k_is)
    (case k_need_name => k_is)
    (case a_need_point => k_is)
    (case l_need_point => k_is)
    (case c_need_point => k_is)
    (case k_need_point => k_is)
    (case a_need_size => k_is)
    (case l_need_size => k_is)
    (case c_need_size => k_is)
    (case k_need_size => k_is)
    (case a_reach => k_is)
    (case l_reach => k_is)
    (case c_reach => k_is)
    (case k_reach => k_is)
    (case a_apart => k_is)
    (case l_apart => k_is)
    (case c_apart => k_is)
    (case k_apart => k_is)
    (case a_far => k_is)
    (case l_far => k_is)
    (case c_far => k_is)
    (case k_far => k_is)
    (case a_near_size => k_is)
    (case l_near_size => k_is)
    (case c_near_size => k_is)
    (case k_near_size => k_is)
    (case a_law_cell => k_is)
    (case l_law_cell => k_is)
    (case c_law_cell => k_is)
    (case k_law_cell => k_is)
    (case a_law_drawn => k_is)
    (case l_law_drawn => k_is)
    (case c_law_drawn => k_is)
    (case k_law_drawn => k_is)
    (case a_law_word => k_is)
    (case l_law_word => k_is)
    (case c_law_word => k_is)
    (case k_law_word => k_is)
    (case a_law_told => k_is)
    (case l_law_told => k_is)
    (case c_law_told => k_is)
    (case k_law_told => k_is)
    (case a_law_point => k_is)
    (case l_law_point => k_is)
    (case c_law_point => k_is)
    (case k_law_point => k_is)
    (case a_law_far => k_is)
    (case l_law_far => k_is)
    (case c_law_far => k_is)
    (case k_law_far => k_is)
    (case a_law_near => k_is)
    (case l_law_near => k_is)
    (case c_law_near => k_is)
    (case k_law_near => k_is)
    (case a_law => k_is)
    (case l_law => k_is)
    (case c_law => k_is)
    (case k_law => k_is)
    (case lo_law => k_is)
    (case tv_law => exact rfl)
    (case th_law => exact rfl)
    (case tn_law => exact rfl)
    (case te_law => exact PySem.W.km_tabs_of Y _ (by simp))
