import PyProof.Rows.All
import Wide.All
import OpenK.AllK
import Wide.FinOn
import HandS.ForMost
import HandS.HotCalls
import HandS.Lambda
import HandS.ExcCtx
import HandS.ExcIs
import HandS.IsInst
import HandS.EndTab
import HandS.EndOwn
import HandS.Wide
import HandS.Conv
import HandS.More
import HandS.Flow
import HandS.Style
import HandS.Sort
import HandS.SortKw
import HandS.SortOrd
import HandS.RaiseOp
import HandS.SortRule
import HandS.SortInts
import HandS.TupLe
import HandS.TupAny
import HandS.Deep
import KE.DataMinMax
import KE.SortData
import KE.KRevSl
import HandS.ExcOwn
import HandS.Text
import HandS.TryMany
import KE.IntTextText
import HandS.DictComp
import HandS.NoneIn
import KE.GoesMore
import PySem.Challenge.RW_nearmarks_k71_whole_desks_back
set_option Elab.async false
set_option linter.all false
set_option maxRecDepth 100000
set_option maxHeartbeats 4000000

/-! The layer within an except suite: a list walked, a comprehension, sum; a def that gets the caught exception; lambdas whose exceptions bear no context. -/
namespace NM
open PySem PySem.Spec PyProof.Rows L2 HotX L2H
abbrev St := L2.St
section
variable {prog : Program} {w : World} {A : Around} {E : Value → Shared → Prop} {s : Shared}
theorem list_end_hot {it l x1 : Addr} {i : Nat} {items : Array Value} {Q : Option Value → Shared → Prop} (hot : HotAt A x1 s.heap) (nx : x1 ≠ it)
    (hit : s.heap.IsListIter it l i) (hl : s.heap.IsList l items) (hx : items[i]? = none)
    (hQ : ∀ h', (∀ b o, b ≠ it → s.heap.get? b = some o → h'.get? b = some o) → Q none { s with heap := h' }) : wpAny (model prog w) A (pyNext (.ref it)) Q E s := by
  obtain ⟨hh, o1, vs1, h1, d1, c1⟩ := hot
  obtain ⟨o, ho, hc, hd⟩ := id hit
  obtain ⟨ol, hol, _, nl, hdl⟩ := hl
  unfold pyNext
  refine wpAny_bind (wpAny_attempt (wpAny_callSpecial?_slot (name := Str.ofString "__next__") hit.typeIs slot_listiter_next
    (wpAny_call_entry slot_listiter_next hit.typeIs entry_listiter_next ?_ (args_listiter_next _))))
  show wpAny _ _ (field (.ref it) 0 >>= _) _ _ s
  refine wpAny_bind (wpAny_field ho hd (x := .ref l) rfl ?_)
  show wpAny _ _ (if (Value.ref l == Value.none) = true then _ else _) _ _ s
  rw [if_neg (show ¬ ((Value.ref l == Value.none) = true) from Bool.false_ne_true)]
  show wpAny _ _ (field (.ref it) 1 >>= _) _ _ s
  refine wpAny_bind (wpAny_field ho hd (x := .int i 0) rfl ?_)
  show wpAny _ _ (seqItems? (.ref l) >>= _) _ _ s
  refine wpAny_bind (wpAny_seqItems hol hdl ?_)
  simp only [Int.toNat_natCast, hx]
  refine wpAny_bind (wpAny_rule (wpAny_bind (wpAny_setField ho hd (by simp) ?_)))
  show wpAny _ _ (newExc (.type "StopIteration") [] >>= _) _ _ _
  refine wpAny_bind ?_
  simp only [newExc, newTuple]
  refine wpAny_bind (wpAny_newObj_type ?_ (by size_fits))
  refine wpAny_bind (m := firstArgMember _ _) (wpAny_of_eq (a := Value.none) (by first | rfl | (simp only [firstArgMember]; rfl)) ?_)
  refine wpAny_newObj_type ?_ (by size_fits)
  have sb := Heap.SameBut.update s.heap it (Obj.mapFields (·.setIfInBounds 0 .none))
  have h1' : (s.heap.update it (Obj.mapFields (·.setIfInBounds 0 .none))).get? x1 = some o1 := (sb.2 x1 nx).trans h1
  refine raiseNew_hot ⟨hh, o1, vs1, Heap.get?_push_of_some _ (Heap.get?_push_of_some _ h1'), d1, c1⟩ (Nat.ne_of_lt (Heap.lt_size (Heap.get?_push_of_some _ h1'))) (Heap.get?_push_size _ rfl) rfl (by first | (simp; done) | (simp; omega) | (simp only [Array.size_append]; simp; omega)) ?_
  refine wpAny_bind (wpAny_isInstance (T := "StopIteration") (b := true) ⟨_, Heap.get?_update_self _ (Heap.get?_push_size _ rfl) rfl, rfl⟩ isSubtype_stop ?_)
  refine wpAny_pure (hQ _ fun b o hb e => ?_)
  have e' : (s.heap.update it (Obj.mapFields (·.setIfInBounds 0 .none))).get? b = some o := (sb.2 b hb).trans e
  rw [Heap.get?_update_other _ _ (Nat.ne_of_gt (Heap.lt_size (Heap.get?_push_of_some _ e')))]
  exact Heap.get?_push_of_some _ (Heap.get?_push_of_some _ e')
end

/-! ### a list walked, the handled exception being known -/
section
variable {prog : Program} {w : World} {A : Around} {E : Value → Shared → Prop} {s : Shared}
theorem walks_hot {x1 : Addr} {o1 : Obj} {vs1 : Array Value} (hh : A.handled = some (.ref x1)) (d1 : o1.data = .fields vs1) (c1 : vs1[2]? = some .none) (I ax : Addr) (hne : ax ≠ I) (nx : x1 ≠ I) (items : Array Value) :
    Walks prog w A I [I, ax, x1] [I] items.size (fun i v => items[i]? = some v) (fun i h => h.IsListIter I ax i ∧ h.IsList ax items ∧ h.get? x1 = some o1) where
  sub := fun b hb => by simp at hb; simp [hb]
  frame := fun _ _ _ st hk => ⟨st.1.at fun o e => hk I (by simp) o e, st.2.1.at fun o e => hk ax (by simp) o e, hk x1 (by simp) _ st.2.2⟩
  item := fun i s Q E hi st hQ => by
    refine wpAny_pyNext_list_item st.1 st.2.1 (x := items[i]) (by simp [hi]) fun h' hit' hs' => ?_
    exact hQ _ h' s.toks (by simp [hi]) ⟨hit', st.2.1.extBut hs'.extBut hne, (hs'.2 x1 nx).trans st.2.2⟩ fun b o hb e => hs'.extBut b o (fun h => hb (by simp [h])) e
  done := fun s Q E st hQ => list_end_hot (x1 := x1) ⟨hh, o1, vs1, st.2.2, d1, c1⟩ nx st.1 st.2.1 (by simp) fun h' he' => hQ h' s.toks fun b o hb e => he' b o (fun h => hb (by simp [h])) e
  self := fun _ _ _ _ st hQ => wpAny_pyIter_listiter st.1 hQ
theorem sum_hot {l x1 : Addr} {o1 : Obj} {vs1 : Array Value} {its : List Value} {ns : List Int} {Q : Value → Shared → Prop} (hh : A.handled = some (.ref x1)) (g1 : s.heap.get? x1 = some o1) (d1 : o1.data = .fields vs1) (c1 : vs1[2]? = some .none)
    (hl : s.heap.IsList l its.toArray) (hi : IntsAre its ns)
    (h : ∀ h' tk t', (∀ b o, s.heap.get? b = some o → h'.get? b = some o) → Q (.int ns.sum t') { s with heap := h', toks := tk }) : wpAny (model prog w) A (call (.builtin "sum") [.ref l]) Q E s := by
  obtain ⟨xs, e⟩ := hi.allInts.items
  have hn : numsOf (intItems xs).toList = ns := by rw [← e]; exact hi.numsOf
  rw [nums_intItems] at hn
  rw [e] at hl
  refine call_sum_walkG (iter_intList hl fun s₂ e st hfp hlI => ?_)
  subst e
  have nx : x1 ≠ s.heap.objs.size := Nat.ne_of_lt (Heap.lt_size g1)
  refine ⟨_, _, _, _, _, _, numAt xs, rfl, walks_hot (A := A.in1) hh d1 c1 _ l hlI nx (intItems xs), ⟨st.1, st.2, Heap.get?_push_of_some _ g1⟩, fun b hb => ?_, (fun _ _ => intItems_at), fun h' tk t' hk => ?_⟩
  · rcases List.mem_cons.mp hb with z | hb
    · rw [z]; exact hfp _ (by simp)
    · rcases List.mem_cons.mp hb with z | hb
      · rw [z]; exact hfp _ (by simp)
      · rcases List.mem_cons.mp hb with z | hb
        · rw [z]; exact Heap.lt_size (Heap.get?_push_of_some _ g1)
        · cases hb
  · have q := h h' tk t' (old_kept hk)
    have e2 : preSum (numAt xs) xs.size = ns.sum := by
      rw [preSum_eq, List.take_of_length_le (by simp), hn]
    have q2 := q
    rw [← e2] at q2
    simpa [intItems] using q2
end
section
variable {X : Cx}
/-- sum(xs) within an except suite -/
theorem cr_sumH (hc : HotC X) : CallR X (.builtin "sum") (rSum X.K) := by
  intro pins s σ H vs us Q I r h
  obtain ⟨a, ns, rfl, hs, q⟩ := h
  obtain ⟨its, rv, hl, _⟩ := I.list hs
  rw [Vals.ref1 r]
  obtain ⟨x1, hh, o1, vs1, g1, d1, c1⟩ := hc.at I
  exact sum_hot hh g1 d1 c1 hl.isList rv.ints fun h' tk t' hk => ⟨.int _, H, I.kept hk, ⟨_, rfl⟩, q⟩
end
theorem turn_listH {P : Program} {w : World} {K : PySem.W.Frag} {tg : Expr} (a it : Addr) : TurnH P w K tg (Itl K a) [it] it (fun i h => h.IsListIter it a i) where
  mem := by simp
  obj := fun i h st b hb => by
    have e : b = it := by simpa using hb
    subst e
    obtain ⟨o, e, c, d⟩ := st
    exact ⟨o, e, fun v z => by rw [d] at z; cases z⟩
  keep := fun i h h' st k => st.at fun o e => k it (by simp) o e
  item := by
    intro X hP hw hK hc i pins s σ H E I hf st hg
    subst hP hw hK
    obtain ⟨xs, x, hq, hx⟩ := hg
    obtain ⟨its, rv, p, hz⟩ := I.list hq
    obtain ⟨u, hu, ru⟩ := rv.get hx
    obtain ⟨f0, f1, f2, f3, f4, f5⟩ := hf it (by simp)
    refine wpAny_pyNext_list_item st p.isList (x := u) (by simpa using hu) fun h' st' sb => ?_
    have I1 : Inv X pins σ H { s with heap := h' } := I.turned (t' := s.toks) (fun b o hb e => (sb.2 b hb).trans e) f0 f1 f3 f4 f5
    obtain ⟨o, e, c, d⟩ := id st'
    exact ⟨u, rfl, go_of (s := { s with heap := h' }) e c d (by decide) ⟨x, H, I1, ru, ⟨rfl, fun ys hy => by rw [I.list_inj hy hq]; exact hx⟩, st', fun b hb => (hf b hb).1⟩⟩
  done := by
    intro X hP hw hK hc i pins s σ H E I hf st hg
    subst hP hw hK
    obtain ⟨xs, hq, hx⟩ := hg
    obtain ⟨its, rv, p, hz⟩ := I.list hq
    obtain ⟨f0, f1, f2, f3, f4, f5⟩ := hf it (by simp)
    have hl := rv.length
    obtain ⟨q1, hot1, hm⟩ := hc
    obtain ⟨hh, vs1, d1, c1⟩ := hot1
    have P1 := I.pin q1 (List.mem_append_left _ hm)
    exact list_end_hot (x1 := q1.1) ⟨hh, q1.2, vs1, P1.1, d1, c1⟩ (f5 q1 (List.mem_append_left _ hm)) st p.isList (by simp; omega) fun h' eb => ⟨rfl, I.turned (t' := s.toks) (fun b o hb e => eb b o hb e) f0 f1 f3 f4 f5⟩
  self := fun _ _ _ _ _ st h => wpAny_pyIter_listiter st h
section
variable {X : Cx} {tg : Expr}
theorem pi_listH {l : Expr} {tl : TE} (hl : PE X l tl) : PIH X tg l (iList X.K tl) := by
  refine ⟨fun pins s σ H R I h => ?_⟩
  refine thn (hl.run pins s σ H _ I h) fun v s1 ⟨x, H1, I1, r1, q1⟩ => ?_
  obtain ⟨a, e, ⟨xs, hq⟩, q⟩ := q1
  subst e
  cases r1
  obtain ⟨its, rv, p, hz⟩ := I1.list hq
  refine wpAny_pyIter_list p.isList ?_
  refine ⟨s1.heap.objs.size, [s1.heap.objs.size], _, _, H1, rfl, I1.kept (t' := s1.toks) fun b o e => Heap.get?_push_of_some _ e, turn_listH a _, ⟨_, Heap.get?_push_size _ rfl, rfl, rfl⟩, fun b hb => ?_, q⟩
  have e : b = s1.heap.objs.size := by simpa using hb
  subst e
  exact I1.fpOk (Nat.le_refl _) (I1.hok.fresh (Nat.le_refl _))
end
/-! ### a comprehension within an except suite -/
/-- the block's context, the handled exception pinned -/
abbrev blkH (X : Cx) (p : Addr × Obj) (s : Shared) (H : Hp) (scope : Scope) (cenv : Env) (fp : List Addr) : Cx := { X.blk s H scope cenv fp with pn := [p] }
section
variable {X : Cx}
theorem inv_blkH {p : Addr × Obj} {s s' : Shared} {H H' : Hp} {σ : St} {scope : Scope} {cenv : Env} {fp : List Addr} (I : Inv (X.blk s H scope cenv fp) [] σ H' s') (g : s'.heap.get? p.1 = some p.2) (n : H' p.1 = none) (nl : p.1 ≠ cenv.locals) (nf : p.1 ∉ frs X.stack) (nc : ∀ v, p.2.data ≠ .cell v) :
    Inv (blkH X p s H scope cenv fp) [] σ H' s' :=
  ⟨⟨I.ok.mod, I.ok.kind, I.ok.glob, I.ok.blt, I.ok.above, I.ok.inj, I.ok.has, I.ok.cab, I.ok.hd, I.ok.frames, I.ok.stk, I.ok.exf, I.ok.bs, I.ok.bsz, I.ok.noex, I.ok.exfs, I.ok.funs, I.ok.frf⟩, I.os, I.bare, I.base, I.loc, I.cell, I.free, I.freeC,
    fun q hq => by
      have e : q = p := by simpa using (show q ∈ [p] ++ ([] : List (Addr × Obj)) from hq)
      rw [e]
      exact ⟨g, n, nl, nf, nc⟩, I.hok, I.len⟩
end
section
variable {X : Cx}
/-- [elt for target in iter if ..] where an exception is being handled -/
theorem pe_lcH {p : Addr × Obj} {elt tg iter : Expr} {ifs : List Expr} {scope : Scope} {own : List (Str × Nat)} {pos : Pos} {wi : TI} {g : TG} {tt : TT} {te : TE} (hot : Hot1 X.A p) (hp : p ∈ X.pn) (hN : X.N.Nodup) (hi : PIH X tg iter wi) (ok : BlkOk X.N X.env.scope scope own)
    (hg : ∀ (s : Shared) (H : Hp) (C : Addr) (cl : List (Str × Addr)) (fp : List Addr), PG (blkH X p s H scope (compEnvC scope cl C X.env) fp) tg g)
    (ht : ∀ (s : Shared) (H : Hp) (C : Addr) (cl : List (Str × Addr)) (fp : List Addr), PTs (blkH X p s H scope (compEnvC scope cl C X.env) fp) ifs tt)
    (he : ∀ (s : Shared) (H : Hp) (C : Addr) (cl : List (Str × Addr)) (fp : List Addr), PE (blkH X p s H scope (compEnvC scope cl C X.env) fp) elt te) (hs : ∀ x, foldedSetIterable iter X.env x = pure x := by intro _; rfl) :
    PE X (.ListComp elt [⟨tg, iter, ifs, 0⟩] scope pos) (tLc wi g tt te (own.map (·.2))) := by
  refine ⟨fun pins s σ H Q I h => ?_⟩
  rw [eval_ListComp]
  have hfree : ∀ y ∈ scope.names, y.2 = .free → ∃ c, X.env.cells.lookup y.1 = some c := fun y hy e =>
    (ok.free y hy e).elim (fun k => I.ok.has _ (.inl k)) (fun k => I.ok.has _ (.inr k))
  refine wpAny_comprehension_free rfl hs (closure_ok hfree) ok.kind (fun y hy e => by rw [ok.uniq y hy, e])
    (thn (hi.run pins s σ H _ I h) fun xv s1 hx => thn hx fun itv s2 h2 => ?_)
  obtain ⟨it, fp, tn, J, H2, e, I2, T, st2, f2, q⟩ := h2
  subst e
  refine wpAny_newObj_type (newEnv_comp ?_) (by show 0 ≤ sizeLine; decide)
  generalize hD : s2.heap.objs.size = D
  have hDn : H2 D = none := I2.hok.fresh (Nat.le_of_eq hD)
  obtain ⟨W, ⟨m0, w0⟩, turn⟩ := q D hDn
  generalize hs3 : ({ s2 with heap := s2.heap.push { cls := .type "list", data := .seq ([] : List Value).toArray } } : Shared) = s3
  have I3 : Inv X pins σ (upd H2 D (.lst [])) s3 := by
    rw [← hs3]
    refine I2.laid (t' := s2.toks) (fun b o e => Heap.get?_push_of_some _ e) (Nat.le_of_eq hD) ⟨Nat.zero_le _, [], 0, .nil, ?_⟩
    rw [← hD]
    exact Heap.get?_push_size _ rfl
  have h3 : s3.heap = s2.heap.push { cls := .type "list", data := .seq ([] : List Value).toArray } := by rw [← hs3]
  have sz : ∀ b ∈ fp, b < s2.heap.objs.size := fun b hb => by
    obtain ⟨o, e, _⟩ := T.obj _ _ st2 b hb
    exact Heap.lt_size e
  have f3 : ∀ b ∈ fp, FpOk X pins (upd H2 D (.lst [])) b ∧ b < s3.heap.objs.size := fun b hb => by
    have hlt := sz b hb
    refine ⟨⟨?_, (f2 b hb).2⟩, by rw [h3, Heap.size_push]; exact Nat.lt_succ_of_lt hlt⟩
    rw [upd_ne (by rw [← hD]; exact Nat.ne_of_lt hlt)]
    exact (f2 b hb).1
  have st3 : tn 0 s3.heap := T.keep _ _ _ st2 fun b _ o e => by rw [h3]; exact Heap.get?_push_of_some _ e
  have I4' := block_start I3 ok hN f3
  have P3 := I3.pin p (List.mem_append_left _ hp)
  have nfs : p.1 ∉ frs X.stack := fun hm => (List.mem_cons.mp (I3.stkSub p.1 hm)).elim P3.2.2.1 P3.2.2.2.1
  have I4 := inv_blkH (p := p) I4' (pushCells_keeps _ _ _ _ (Heap.get?_push_of_some _ P3.1)) P3.2.1 (Nat.ne_of_lt (Heap.lt_size P3.1)) nfs P3.2.2.2.2
  have pg := hg s3 (upd H2 D (.lst [])) s3.heap.objs.size (cellsFrom (s3.heap.objs.size + 1) scope.names (cloFrom X.env.cells scope.names [])) fp
  have pt := ht s3 (upd H2 D (.lst [])) s3.heap.objs.size (cellsFrom (s3.heap.objs.size + 1) scope.names (cloFrom X.env.cells scope.names [])) fp
  have pe := he s3 (upd H2 D (.lst [])) s3.heap.objs.size (cellsFrom (s3.heap.objs.size + 1) scope.names (cloFrom X.env.cells scope.names [])) fp
  show codeAny _ _ (.compStart (.ListComp elt [⟨tg, iter, ifs, 0⟩] scope pos) 0 (.ref it) (.ref D) (compEnvC scope (cellsFrom (s3.heap.objs.size + 1) scope.names (cloFrom X.env.cells scope.names [])) s3.heap.objs.size X.env)) (compPost (model X.prog X.w) X.A X.xe none _ (.ref D) s3.heap.objs.size) { s3 with heap := pushCells (s3.heap.push { cls := .type "dict", data := .dict #[] }) scope.names }
  have nfp : ∀ b ∈ fp, (upd H2 D (.lst [])) b = none := fun b hb => (f3 b hb).1.1
  have npf : ∀ b ∈ fp, p.1 ≠ b := fun b hb => (f2 b hb).2.2.2.2.2 p (List.mem_append_left _ hp)
  generalize hce : compEnvC scope (cellsFrom (s3.heap.objs.size + 1) scope.names (cloFrom X.env.cells scope.names [])) s3.heap.objs.size X.env = ce at I4 pg pt pe ⊢
  have cL : ce.locals = s3.heap.objs.size := by subst hce; rfl
  generalize hH3 : upd H2 D (.lst []) = H3 at I3 I4 pg pt pe w0 nfp f3
  generalize hs4 : ({ s3 with heap := pushCells (s3.heap.push { cls := .type "dict", data := .dict #[] }) scope.names } : Shared) = s4 at I4 ⊢
  have st4 : tn 0 s4.heap := T.keep _ _ _ st3 fun b _ o e => by rw [← hs4]; exact pushCells_keeps _ _ _ _ (Heap.get?_push_of_some _ e)
  have hcB : HotC (blkH X p s3 H3 scope ce fp) := ⟨p, hot, List.mem_singleton.mpr rfl⟩
  have stat : ∀ {σ' : St} {H' : Hp} {s' : Shared}, Inv (blkH X p s3 H3 scope ce fp) [] σ' H' s' → (∀ b ∈ fp, H' b = none) → ∀ b ∈ fp, FpOk (blkH X p s3 H3 scope ce fp) [] H' b := fun {σ' H' s'} I' hn b hb =>
    ⟨hn b hb, (I'.ok.exf b hb).1, I'.ok.exfs b hb, .inl hb, fun x c e => (I'.ok.exf b hb).2 x c e, fun q hq => by
      have e : q = p := by simpa using (show q ∈ [p] ++ ([] : List (Addr × Obj)) from hq)
      rw [e]
      exact npf b hb⟩
  have loop : codeAny (model X.prog X.w) X.A (.compLoop (.ListComp elt [⟨tg, iter, ifs, 0⟩] scope pos) 0 (.ref it) (.ref D) ce) (compPost (model X.prog X.w) X.A X.xe none (EP X pins σ Q) (.ref D) s3.heap.objs.size) s4 := by
    refine compLoop_any (fun n s' => ∃ i H', Inv (blkH X p s3 H3 scope ce fp) [] (wipe σ (own.map (·.2))) H' s' ∧ tn i s'.heap ∧ (∀ b ∈ fp, H' b = none) ∧ W i n H') ?_ m0 ⟨0, H3, I4, st4, nfp, w0⟩
    rintro n s5 ⟨i, H5, I5, st5, n5, w5⟩
    rcases turn i n H5 w5 with ⟨stop, qq⟩ | ⟨go, Nx, hNx, step⟩
    · have td := T.done (blkH X p s3 H3 scope ce fp) rfl rfl rfl hcB i [] s5 _ H5 (fun _ _ => False) I5 (stat I5 n5) st5 stop
      refine thnF td fun r s6 ⟨hr, I6⟩ => ?_
      subst hr
      have I7 : Inv X pins σ H5 s6 := I3.call' (ch := fp) I6.os I6.base I6.hok I6.bare fun b hb => ⟨(f3 b hb).1.2.2.2.1, (f3 b hb).1.2.1, (f3 b hb).1.2.2.2.2.1, (f3 b hb).1.2.2.2.2.2⟩
      have nC : H5 s3.heap.objs.size = none := by
        have z : H5 ce.locals = none := I6.free
        rw [cL] at z
        exact z
      obtain ⟨m, hn, _⟩ := I6.loc
      have hn : s6.heap.Ns ce.locals m := hn
      rw [cL] at hn
      obtain ⟨k0, k1, k2, k3, k4, k5⟩ := I3.fpOk (Nat.le_refl _) nC
      refine ⟨m, hn, fun h'' sb => ?_⟩
      exact ⟨.ref D, H5, I7.turned (t' := s6.toks) (fun b o hb e => (sb.2 b hb).trans e) k0 k1 k3 k4 k5, rfl, qq⟩
    · have ti := T.item (blkH X p s3 H3 scope ce fp) rfl rfl rfl hcB i [] s5 _ H5 (fun _ _ => False) I5 (stat I5 n5) st5 go
      refine thnF ti fun r s6 ⟨u, hr, h6⟩ => ?_
      subst hr
      refine thnF h6 fun _ s7 ⟨x, H7, I7, r7, y7, st7, n7⟩ => ?_
      have I7' := I7.pinned (stat I7 n7) (T.obj _ _ st7)
      refine thnF (pg.run _ s7 _ H7 x u _ I7' r7 (step x H7 y7)) fun _ s8 ⟨σ8, H8, I8, hw8, q8⟩ => ?_
      refine thnF (pt.run _ s8 σ8 H8 _ I8 q8) fun b s9 ⟨H9, I9, q9⟩ => ?_
      have fin : ∀ {s' : Shared} {H' : Hp}, Inv (blkH X p s3 H3 scope ce fp) ([] ++ pinsAt fp s7.heap) σ8 H' s' → Nx H' → ∃ m, m < n ∧ ∃ i H', Inv (blkH X p s3 H3 scope ce fp) [] (wipe σ (own.map (·.2))) H' s' ∧ tn i s'.heap ∧ (∀ b ∈ fp, H' b = none) ∧ W i m H' := fun {s' H'} I' nx => by
        obtain ⟨m', hm, w'⟩ := hNx H' nx
        have pin' : ∀ b ∈ fp, ∀ o, s7.heap.get? b = some o → s'.heap.get? b = some o ∧ H' b = none := fun b hb o e =>
          let z := I'.pin (b, o) (List.mem_append_right _ (List.mem_append_right _ (mem_pinsAt hb e)))
          ⟨z.1, z.2.1⟩
        have hl : (wipe σ (own.map (·.2))).length = σ8.length := by rw [← hw8, wipe_length]
        refine ⟨m', hm, i + 1, H', (I'.unpinned (pins := [])).weak hl (fun j v e => ?_), T.keep _ _ _ st7 fun b hb o e => (pin' b hb o e).1, fun b hb => ?_, w'⟩
        · rw [← hw8] at e
          exact (wipe_some e).1
        · obtain ⟨o, e, _⟩ := T.obj _ _ st7 b hb
          exact (pin' b hb o e).2
      cases b with
      | false =>
        simp only [Bool.false_eq_true, if_false] at q9 ⊢
        exact fin I9 q9
      | true =>
        simp only [if_true] at q9 ⊢
        refine thnF (pe.run _ s9 σ8 H9 _ I9 q9) fun z s10 ⟨yv, H10, I10, r10, acc, hD10, hz10, nx⟩ => ?_
        exact app_ok (X := blkH X p s3 H3 scope ce fp) I10 hD10 hz10 r10 fun s11 I11 => fin I11 nx
  exact codeAny_compStart_list loop (T.self X.A 0 _ _ _ st4 loop)
end
/-! ### a def that is called where an exception is handled, its promise told of that exception -/
structure FnA (P : Program) (w : World) (K : PySem.W.Frag) (mg : Str → Option Value) (base : Heap) (CX : CXT) (k : Nat) (f : Addr) (fd : FuncData) (ps : List Str) (sp : Addr × Obj → Sp) : Prop where
  len : ∀ p vs H Q E, sp p vs H Q E → vs.length = ps.length
  run : ∀ (A : Around) (outer : List Env) (s : Shared) (H : Hp) (args : Args) (us : List Value) (vs : List V) (Q : VK) (E : XK) (p : Addr × Obj), RoomH k A → Hot1 A p → PinOk outer H s p → Env0 P w K mg base A outer s H → BindsTo s fd args (ps.zip us) → Vals vs us → sp p vs H Q E →
    codeAny (model P w) A (.call (.ref f) args) (CR CX outer P w H s Q E) s
theorem fnA_of {CX : CXT} {P : Program} {w : World} {K : PySem.W.Frag} {mg : Str → Option Value} {base : Heap} {k : Nat} {x qual : Str} {st : Stmt} {f : Addr} {fd : FuncData} {N ps : List Str} {sp : Addr × Obj → Sp} (F : Fun K x qual st f fd) (S : FnScope N ps (defScope st))
    (len : ∀ p vs H Q E, sp p vs H Q E → vs.length = ps.length)
    (hbody : ∀ (cdv : Value) (A : Around) (outer : List Env) (s : Shared) (H : Hp) (vs : List V) (Q : VK) (E : XK) (p : Addr × Obj), Hot1 A p → RoomH k (A.deeper (envOfC qual (defScope st) s.heap.objs.size f cdv)) → sp p vs H Q E →
      ∃ t, PSs (cxH CX P w K mg base N qual (defScope st) f cdv A outer s H E p) (defBody st) t ∧ t { nx := fun _ H' => Q .non H', rt := Q } (L2.start N vs) H) :
    FnA P w K mg base CX (k + 1) f fd ps sp := by
  obtain ⟨oc, od, kV, doc, pm, an, cdv, ct, osl, efd, lk, hcd⟩ := F.ex
  subst efd
  refine ⟨len, fun A outer s H args us vs Q E p hr hot hpin e0 hb r hsp => ?_⟩
  have hl := len _ _ _ _ _ hsp
  have KX : K.In s.heap := e0.mod.kin.keeps fun b o e => (e0.bs b o e).1
  have lim : s.heap.NoLimit := e0.mod.nolimit.keeps fun b o e => (e0.bs b o e).1
  have hkind : ∀ y ∈ ps.zip us, (defScope st).names.lookup y.1 = some .local ∨ ((defScope st).names.lookup y.1 = some .cell ∧ ((cellsFrom (s.heap.objs.size + 1) (defScope st).names []).lookup y.1).isSome = true) := fun ⟨n, v⟩ hy => by
    rcases S.par n (List.of_mem_zip hy).1 with q | q
    · exact .inl q
    · exact .inr ⟨q, PySem.W.cellsFrom_some _ _ _ (.inl q)⟩
  refine codeAny_call_function hr.depth (KX _ _ lk) rfl S.co S.gen rfl (PySem.W.codeRec_of KX hcd) (hb _ _ _ _ ?_)
  refine wpAny_newFunctionEnv_cells S.kind hkind fun env he s1 x => ?_
  subst he
  refine ⟨lim.keeps x.toInCall.keep, codeAny_func ?_⟩
  obtain ⟨t, ht, hq⟩ := hbody cdv A outer s H vs Q E p hot (hr.deeper _) hsp
  have I : Inv (cxH CX P w K mg base N qual (defScope st) f cdv A outer s H E p) [] (L2.start N vs) H s1 := inv_startH S hpin e0 hl r x
  refine wpAny_mono (ht.run [] s1 (L2.start N vs) H _ I hq) (fun fl s' hs => ?_) fun e s' hs => hs
  have fin : ∀ {σ' : St} {H' : Hp} {v : V} {u : Value}, Inv (cxH CX P w K mg base N qual (defScope st) f cdv A outer s H E p) [] σ' H' s' → RelV v u → Q v H' → CE outer P w H s Q u s' :=
    fun {σ' H' v u} J rv q => ⟨v, H', J.os, J.bare, J.base, J.hok, rv, q⟩
  cases fl with
  | ret u =>
    obtain ⟨v, σ', H', J, rv, q⟩ := hs
    exact fin J rv q
  | next =>
    obtain ⟨σ', H', J, q⟩ := hs
    exact fin (v := V.non) (u := Value.none) J rfl q
  | brk => exact hs.elim fun _ h => h.elim fun _ h => False.elim h.2
  | cont => exact hs.elim fun _ h => h.elim fun _ h => False.elim h.2
section
variable {X : Cx} {CX : CXT} {k : Nat} {f : Addr} {fd : FuncData} {ps : List Str} {sp : Addr × Obj → Sp} {E : St → XK} {x : Str} {q pos : Pos} {e : Expr} {es : List Expr} {t : TA}
/-- f(e, ..) there -/
theorem pe_callA {p : Addr × Obj} (F : FnA X.prog X.w X.K X.mg X.base CX k f fd ps sp) (hr : RoomH k X.A) (hot : Hot1 X.A p) (hp : p ∈ X.pn) (hg : Gl X x) (hm : X.mg x = some (.ref f)) (hk : PySem.W.keepIn X.K (.ref f) = true) (hb : Binds X.K fd ps []) (hx : ∀ σ, PassesAt CX X σ (E σ))
    (ha : PA X (e :: es) t) (hdb : (x == ("__debug__" : Str)) = false := by decide) (he : starEach (e :: es) X.env = (false, eval e X.env) :: starEach es X.env := by rfl) (hpl : (backTo pos (starEach es X.env)).any (·.1) = false := by rfl) :
    PE X (.Call (.Name x q) (e :: es) [] pos) (tCallS (sp p) E t) := by
  refine ⟨fun pins s σ H Q I h => ?_⟩
  refine wpAny_Call_Name_kw (ld_glob I hg hm ?_ hdb)
  refine PySem.W.callWith_K (h₀ := X.base) I.ok.mod.kin hk (thn (ha.run pos pins s σ H _ I h) fun us s1 ⟨vs, H1, I1, r, q⟩ => ⟨I1.kIn, ?_⟩) he hpl
  have hl : us.length = ps.length := by rw [← r.length]; exact F.len _ _ _ _ _ q
  have b := hb s1 us I1.kIn (by rw [List.append_nil]; exact hl)
  rw [List.append_nil] at b
  have P1 := I1.pin p (List.mem_append_left _ hp)
  have hpin : PinOk X.stack H1 s1 p := ⟨P1.1, P1.2.1, fun hm => (List.mem_cons.mp (I1.stkSub p.1 hm)).elim P1.2.2.1 P1.2.2.2.1, P1.2.2.2.2⟩
  refine wpAny_call (codeAny_mono (F.run X.A X.stack s1 H1 ⟨us, []⟩ us vs Q (E σ) p hr hot hpin I1.env0 b r q) fun r s' hq => ?_)
  cases r with
  | error e => exact hx σ pins H1 s1 e s' I1 hq
  | ok fl =>
    cases fl with
    | ret u => exact I1.after hq
    | next => exact False.elim hq
    | brk => exact False.elim hq
    | cont => exact False.elim hq
end
/-- isinstance(e, c), e an exception that is pinned -/
theorem call_isP {X : Cx} {a D : Addr} {oe : Obj} (hm : (a, oe) ∈ X.pn) (C : ExcC X.K D) (hz : Zc (.ref D) none oe) (hf : ∃ vs, oe.data = .fields vs) : CallR X (.builtin "isinstance") (rIsE X.K D a) := by
  intro pins s σ H xs us Q I r h
  obtain ⟨c, cv, b, rfl, hcv, e, q⟩ := h
  cases r with
  | cons rx rr =>
    cases rr with
    | cons rt rr =>
      cases rr
      cases rx
      have ec := hcv _ rt
      subst ec
      obtain ⟨hget, _⟩ := I.pin (a, oe) (List.mem_append.mpr (.inl hm))
      obtain ⟨vs, hv⟩ := hf
      have J : PySem.W.InstAt s.heap a oe D none := by
        obtain ⟨oc, od, oda, osl⟩ := oe
        obtain ⟨h1, h2⟩ := hz
        dsimp only at h1 h2 hv
        subst h1 h2 hv
        exact ⟨hget, rfl, rfl, trivial⟩
      exact PySem.W.kia_one (PySem.W.handS_kitx_exc C.hg C.hk C.hs C.hd C.ha C.hn C.ht C.hm) I.kIn J e (fun z => nomatch z) fun tk => ⟨.bl b, H, I.kept (t' := tk) fun _ _ z => z, rfl, q⟩
/-! ### a lambda without parameters handed to a def: what it raises bears no context -/
/-- the lambda's body's context -/
def lamN (X : Cx) (A : Around) (outer : List Env) (s : Shared) (H : Hp) (E : XK) (scope : Scope) (f c' : Addr) : Cx :=
  (LamX.lamCx X A outer s H E scope f c').tr [] fun e s' => wpAny (model X.prog X.w) (A.deeper (LamX.lamEnv X scope s.heap.objs.size f c')) (leaving (LamX.lamEnv X scope s.heap.objs.size f c') e) (fun _ s'' => L2N.CX X.prog X.w outer H s E e s'') (fun e' s'' => L2N.CX X.prog X.w outer H s E e' s'') s'
section
variable {X : Cx} {pins : List (Addr × Obj)} {σ : St} {H HZ : Hp} {s s1 : Shared}
/-- x(), in the def that got the lambda -/
theorem pe_actN {CXg : CXT} {Eg : XK} {Ng : List Str} {qg : Str} {sg : Scope} {g f c' : Addr} {cdg pm ctv : Value} {params : Arguments} {body : Expr} {scope : Scope} {k i : Nat} {a : Str} {pn : List (Addr × Obj)} {xe : Value → Shared → Prop} {W : WX} {E : XK} {tb : TE} {p1 p2 : Pos}
    (I : Inv X pins σ H s) (L : LamX.LamS X.env.scope scope) (hf : s.heap.get? f = some (PySem.W.kla_obj "<lambda>" (X.env.qual ++ "<lambda>") params body scope (cloFrom X.env.cells scope.names []) pm c' ctv)) (hfn : H f = none) (hfr : f ∉ frs X.stack)
    (hbind : bindArgs (PySem.W.kla_fn "<lambda>" (X.env.qual ++ "<lambda>") params body scope (cloFrom X.env.cells scope.names []) pm (.ref c') ctv) ⟨[], []⟩ = pure [])
    (tk : L2N.Takes ((cxOf CXg X.prog X.w X.K X.mg X.base Ng qg sg g cdg X.A X.stack s H Eg).tr pn xe) W) (hW : ∀ cls d σ' H', σ'.length = Ng.length → E cls d H' → W cls d σ' H') (hr : Room (k + 1) (X.A.deeper (envOfC qg sg s.heap.objs.size g cdg)))
    (hbody : ∀ (A : Around) (outer : List Env) (s : Shared) (H : Hp), Room k (A.deeper (LamX.lamEnv X scope s.heap.objs.size f c')) → PE (lamN X A outer s H E scope f c') body tb)
    (hN : Ng[i]? = some a) (hv : Vis sg a) (hd : (a == ("__debug__" : Str)) = false := by decide) (hcd : (a == ("__classdict__" : Str)) = false := by decide) :
    PE ((cxOf CXg X.prog X.w X.K X.mg X.base Ng qg sg g cdg X.A X.stack s H Eg).tr pn xe) (.Call (.Name a p1) [] [] p2)
      (fun σZ HZ Q => σZ[i]? = some (some (.ref f)) ∧ HZ c' = some (LamX.CodeO c' (X.env.qual ++ "<lambda>")) ∧ tb σ HZ Q) := by
  refine ⟨fun pinsZ sZ σZ HZ Q IZ h => ?_⟩
  obtain ⟨hs, hc, ht⟩ := h
  refine wpAny_Call_Name_kw (thn ((pe_var (pos := p1) (i := i) hN hv hd hcd).run pinsZ sZ σZ HZ (fun v H1 => v = .ref f ∧ H1 = HZ) IZ ⟨.ref f, hs, rfl, rfl⟩) fun u s1 ⟨v, H1, I1, r1, q1⟩ => ?_)
  obtain ⟨ev, eH⟩ := q1
  subst ev
  rw [eH] at I1
  obtain rfl : u = Value.ref f := r1
  have of1 : s1.heap.get? f = some (PySem.W.kla_obj "<lambda>" (X.env.qual ++ "<lambda>") params body scope (cloFrom X.env.cells scope.names []) pm c' ctv) := I1.base.keep f _ hf hfn hfr (fun z => nomatch (show f ∈ ([] : List Addr) from z))
  refine PySem.W.callWith_F0 ⟨_, _, _, _, of1⟩ ?_
  have un : Un (frs X.stack) [] H HZ s.heap s1.heap := I1.base
  obtain ⟨⟨oc, vs, t, hoc, hdc, hvc⟩, _, _⟩ := I1.hok c' _ hc
  have rc : codeAny (model X.prog X.w) (X.A.deeper (envOfC qg sg s.heap.objs.size g cdg)) (.call (.ref f) ⟨[], []⟩) (CR (L2N.CX X.prog X.w) (envOfC qg sg s.heap.objs.size g cdg :: X.stack) X.prog X.w HZ s1 Q E) s1 := by
    refine PySem.W.kla_callFunE hr.depth of1 rfl L.co L.gen rfl ⟨c', oc, vs, t, rfl, hoc, hdc, hvc⟩ ?_
    rw [hbind]
    refine wpAny_pure (wpAny_newFunctionEnv (fun y hy => (L.own y hy).2) (fun y hy => absurd hy (by simp)) (fun h₁ hns hsb => ⟨I1.nolimit.fresh _ hsb, ?_⟩) L.kind)
    show codeAny _ _ (.expr body (LamX.lamEnv X scope s1.heap.objs.size f c')) _ _
    have kp : ∀ b o, s1.heap.get? b = some o → h₁.get? b = some o := fun b o e => hsb.extBut b o (Nat.ne_of_lt (Heap.lt_size e)) (Heap.get?_push_of_some _ e)
    have J0 : Inv (LamX.lamCx X (X.A.deeper (envOfC qg sg s.heap.objs.size g cdg)) (envOfC qg sg s.heap.objs.size g cdg :: X.stack) s1 HZ E scope f c') [] σ HZ { s1 with heap := h₁, toks := s1.toks + ([] : List (Str × Value)).length } :=
      LamX.lam_start2 I L I1.env0 hr.hd un hns kp
    have J : Inv (lamN X (X.A.deeper (envOfC qg sg s.heap.objs.size g cdg)) (envOfC qg sg s.heap.objs.size g cdg :: X.stack) s1 HZ E scope f c') [] σ HZ { s1 with heap := h₁, toks := s1.toks + ([] : List (Str × Value)).length } :=
      J0.toTry _
    refine PySem.W.kla_codeExpr (wpAny_mono ((hbody _ _ s1 HZ (hr.deeper _)).run [] _ _ HZ Q J ht) (fun v s' hq => ?_) fun e s' hq => hq)
    obtain ⟨w', H', J', rv, q⟩ := hq
    exact ⟨w', H', J'.os, J'.bare, J'.base, J'.hok, rv, q⟩
  refine wpAny_call (codeAny_mono rc fun r s' hq => ?_)
  cases r with
  | error e => exact tk e s' (L2N.XE.of_call I1 (fun cls d H' z => hW cls d σZ H' I1.len z) hq)
  | ok fl =>
    cases fl with
    | ret u => exact I1.after hq
    | next => exact False.elim hq
    | brk => exact False.elim hq
    | cont => exact False.elim hq
end
/-- the def that calls what it got: a calls it; TT: what it makes of the lambda's reading -/
def Gives (X : Cx) (Ng : List Str) (x : Str) (sg : Scope) (g : Addr) (cdg : Value) (bg : List Stmt) (a : Str) (q : Str) (k : Nat) (TT : (XK → Hp → VK → Prop) → Hp → VK → Prop) : Prop :=
  ∀ (f c' : Addr) (s : Shared) (H : Hp) (Q : VK) (tl : XK → Hp → VK → Prop), Room k (X.A.deeper (envOfC x sg s.heap.objs.size g cdg)) →
    (∀ (W : WX) (pn : List (Addr × Obj)) (xe : Value → Shared → Prop) (E : XK) (p1 p2 : Pos), L2N.Takes ((cxOf CX0 X.prog X.w X.K X.mg X.base Ng x sg g cdg X.A X.stack s H E0).tr pn xe) W → (∀ cls d σ' H', σ'.length = Ng.length → E cls d H' → W cls d σ' H') →
      PE ((cxOf CX0 X.prog X.w X.K X.mg X.base Ng x sg g cdg X.A X.stack s H E0).tr pn xe) (.Call (.Name a p1) [] [] p2) (fun σZ HZ Q => σZ[0]? = some (some (.ref f)) ∧ HZ c' = some (LamX.CodeO c' q) ∧ tl E HZ Q)) →
    H c' = some (LamX.CodeO c' q) → TT tl H Q →
    ∃ t, PSs (cxOf CX0 X.prog X.w X.K X.mg X.base Ng x sg g cdg X.A X.stack s H E0).nox bg t ∧ t { nx := fun _ H' => Q .non H', rt := Q } (L2.start Ng [.ref f]) H
section
variable {X : Cx}
/-- x(lambda: body) -/
theorem pe_lamN {T : List (Addr × Str)} {TT : (XK → Hp → VK → Prop) → Hp → VK → Prop} {x a : Str} {g c P : Addr} {k : Nat} {st : Stmt} {fd : FuncData} {Ng : List Str}
    {params : Arguments} {body : Expr} {scope : Scope} {t : XK → TE} {p lpos pos : Pos} (F : Fun X.K x x st g fd) (hg : Gl X x) (hm : X.mg x = some (.ref g)) (hb : L2.Binds X.K fd [a] []) (Sg : FnScope Ng [a] (defScope st)) (hNg : Ng[0]? = some a) (hva : Vis (defScope st) a)
    (hG : ∀ cdv, Gives X Ng x (defScope st) g cdv (defBody st) a (X.env.qual ++ "<lambda>") (k + 1) TT)
    (TB : LamX.TabB X.base X.mg c P) (hcode : X.env.code = .ref c) (hmT : (P, X.env.qual ++ "<lambda>") ∈ T) (hu : ∀ p ∈ T, p.1 = P → p.2 = X.env.qual ++ "<lambda>") (hr : Room (k + 2) X.A) (L : LamX.LamS X.env.scope scope) (hdef : defaultsOf params X.env = ([], []))
    (hbind : ∀ (q : Str) (cl : List (Str × Addr)) (pm cv ctv : Value), bindArgs (PySem.W.kla_fn "<lambda>" q params body scope cl pm cv ctv) ⟨[], []⟩ = pure [])
    (hbody : ∀ (A : Around) (outer : List Env) (s : Shared) (H : Hp) (E : XK) (f c' : Addr), Room k (A.deeper (LamX.lamEnv X scope s.heap.objs.size f c')) → PE (lamN X A outer s H E scope f c') body (t E))
    (hdb : (x == ("__debug__" : Str)) = false := by decide) (hd : (a == ("__debug__" : Str)) = false := by decide) (hcd : (a == ("__classdict__" : Str)) = false := by decide) :
    PE X (.Call (.Name x p) [.Lambda params body scope lpos] [] pos) (LamX.tLam T TT t) := by
  obtain ⟨oc, od, kV, doc, pm, an, cdv, ct, osl, efd, lk, hcg⟩ := F.ex
  subst efd
  refine ⟨fun pins s σ H Q I h => ?_⟩
  obtain ⟨hT, h⟩ := h
  refine wpAny_Call_Name_kw (ld_glob I hg hm ?_ hdb)
  refine PySem.W.callWith_K (h₀ := X.base) I.ok.mod.kin F.kp ?_ (by rfl) (by rfl)
  show wpAny _ _ (spliced ((false, eval (.Lambda params body scope lpos) X.env) :: backTo pos (starEach [] X.env))) _ _ s
  refine Calls.spliced_cons (LamX.lam_make2 I TB hcode hmT hu hT hdef (L.has I.ok) fun f c' pm' ctv H1 s' I1 eN T1 hf hfn hfr hco => ?_)
  refine Calls.spliced_nil ⟨I1.kIn, ?_⟩
  have rc : codeAny (model X.prog X.w) X.A (.call (.ref g) ⟨[.ref f], []⟩) (CR CX0 X.stack X.prog X.w H1 s' Q E0) s' := by
    refine LamX.run_ofS (N := Ng) (ps := [a]) (us := [.ref f]) (vs := [.ref f]) lk hcg Sg hr I1.env0 (hb s' [.ref f] I1.kIn rfl) (.cons rfl .nil) rfl fun hr' => ?_
    obtain ⟨t', ht', hq'⟩ := hG cdv f c' s' H1 Q (fun E H' Q' => t E σ H' Q') hr' (fun W pn xe E p1 p2 tk hW => pe_actN (i := 0) I1 L hf hfn hfr (hbind _ _ _ _ _) tk hW hr' (fun A outer s H hr2 => hbody A outer s H E f c' hr2) hNg hva hd hcd) hco (h H1 eN T1)
    exact ⟨t', ht'.nox, hq'⟩
  refine wpAny_call (codeAny_mono rc fun r s2 hq => ?_)
  cases r with
  | error e => exact (show False from hq).elim
  | ok fl =>
    cases fl with
    | ret u => exact I1.after hq
    | next => exact False.elim hq
    | brk => exact False.elim hq
    | cont => exact False.elim hq
theorem takesN0 {X : Cx} : L2N.Takes X (fun _ _ _ _ => False) := fun _ _ x => by
  obtain ⟨_, _, _, _, _, _, _, _, _, _, _, _, _, _, _, _, z⟩ := x
  exact z.elim
/-- told: try: return a() / except e as n: return y(n) -/
def TTold (K : PySem.W.Frag) (CS : Addr) (sp : Addr × Obj → Sp) : (XK → Hp → VK → Prop) → Hp → VK → Prop := fun tl H Q =>
  tl (fun cls d H' => ∃ b, PySem.W.exmOne K cls (.ref CS) = some b ∧ (b = true → ∀ (a : Addr) (oe : Obj), L2N.Zn cls d oe → (∃ vs, oe.data = .fields vs) → H' a = none → sp (a, oe) [.ref a] H' Q E0) ∧ (b = false → False)) H Q
theorem told_gives {x a e n y q : Str} {sg : Scope} {g CS fy : Addr} {cdg : Value} {fdy : FuncData} {py : Str} {sp : Addr × Obj → Sp} {j k : Nat} {p1 p2 p3 p4 p5 p6 p7 p8 p9 p10 : Pos}
    (hN : ([a, n] : List Str).Nodup) (hge : sg.names.lookup e = some .globalImplicit) (hme : X.mg e = some (.ref CS)) (hde : (e == ("__debug__" : Str)) = false) (hln : sg.names.lookup n = some .local)
    (hgy : sg.names.lookup y = some .globalImplicit) (hmy : X.mg y = some (.ref fy)) (hdy : (y == ("__debug__" : Str)) = false) (hdn : (n == ("__debug__" : Str)) = false) (hdc : (n == ("__classdict__" : Str)) = false)
    (hjk : j ≤ k) (Fy : ∀ base, FnA X.prog X.w X.K X.mg base CX0 j fy fdy [py] sp) (ky : PySem.W.keepIn X.K (.ref fy) = true) (by_ : Binds X.K fdy [py] []) :
    Gives X [a, n] x sg g cdg [.Try [.Return (some (.Call (.Name a p1) [] [] p2)) p3] [.ExceptHandler (some (.Name e p4)) (some n) [.Return (some (.Call (.Name y p9) [.Name n p5] [] p10)) p6] p7] [] [] p8] a q k (TTold X.K CS sp) := by
  intro f c' s H Q tl hr act hc h
  have hgl : Gl (cxOf CX0 X.prog X.w X.K X.mg X.base [a, n] x sg g cdg X.A X.stack s H E0).nox e := hge
  refine ⟨_, pss_one (L2N.ps_try_as (i := 1) (X := (cxOf CX0 X.prog X.w X.K X.mg X.base [a, n] x sg g cdg X.A X.stack s H E0).nox) (c := .ref CS)
      (tb := fun W D σ H => ∃ Ech : XK, (∀ cls d σ' H', σ'.length = 2 → Ech cls d H' → W cls d σ' H') ∧ σ[0]? = some (some (.ref f)) ∧ H c' = some (LamX.CodeO c' q) ∧ tl Ech H D.rt)
      (ts := fun a cls d D σ H => σ[1]? = some (some (.ref a)) ∧ ∀ oe, L2N.Zn cls d oe → (∃ vs, oe.data = .fields vs) → sp (a, oe) [.ref a] H D.rt E0)
      rfl rfl hN rfl hln ⟨hgl, hde, .inl hme⟩ takesN0 (fun W pn xe tk _ => ?_) (fun ax oe cls d pn hz hf => ?_)), ?_⟩
  · refine ⟨fun pins s' σ H' D I h' => ?_⟩
    obtain ⟨Ech, hW, h1, h2, h3⟩ := h'
    have hp := act W pn xe Ech p1 p2 tk hW
    have hq := pss_one (ps_ret (pos := p3) hp)
    exact hq.run pins s' σ H' D I ⟨h1, h2, h3⟩
  · refine ⟨fun pins s' σ H' D I h' => ?_⟩
    obtain ⟨h1, h2⟩ := h'
    obtain ⟨vs, hv⟩ := id hf
    have hot : Hot1 ((cxOf CX0 X.prog X.w X.K X.mg X.base [a, n] x sg g cdg X.A X.stack s H E0).nox.suite ax ((ax, oe) :: pn)).A (ax, oe) := ⟨rfl, vs, hv, hz.2.2 vs hv⟩
    have hp := pe_callA (X := (cxOf CX0 X.prog X.w X.K X.mg X.base [a, n] x sg g cdg X.A X.stack s H E0).nox.suite ax ((ax, oe) :: pn)) (E := fun _ => E0) (pos := p10) (q := p9) (Fy X.base) (RoomH.mono (k := k) ⟨hr.dp, hr.un⟩ hjk) hot List.mem_cons_self hgy hmy ky by_ (fun σ _ _ _ _ _ _ z => z.elim) (pa_cons (pe_var (i := 1) (pos := p5) rfl (.inl hln) hdn hdc) pa_nil) hdy
    have hq := pss_one (ps_ret (pos := p6) hp)
    refine hq.run pins s' σ H' D I ⟨_, h1, h2 oe hz hf⟩
  · refine ⟨fun cls d H' => ∃ b, PySem.W.exmOne X.K cls (.ref CS) = some b ∧ (b = true → ∀ (a : Addr) (oe : Obj), L2N.Zn cls d oe → (∃ vs, oe.data = .fields vs) → H' a = none → sp (a, oe) [.ref a] H' Q E0) ∧ (b = false → False), fun cls d σ' H' hl hh => ?_, rfl, hc, h⟩
    obtain ⟨b, e1, e2, e3⟩ := hh
    refine ⟨b, e1, fun hb a ha => ⟨?_, fun oe z1 z2 => e2 hb a oe z1 z2 ha⟩, fun hb => e3 hb⟩
    rw [List.getElem?_set_self (by omega)]
end
end NM

namespace NM
open PySem PySem.Spec PyProof.Rows L2 HotX L2H
/-! ### defs of the text -/
section
variable {P : Program} {w : World} {K : PySem.W.Frag} {mg : Str → Option Value} {base : Heap}
/-- a def that may raise; what it raises bears no context -/
theorem okN {x qual : Str} {st : Stmt} {f : Addr} {fd : FuncData} {N ps : List Str} {k : Nat} {sp : Sp} (F : Fun K x qual st f fd) (S : FnScope N ps (defScope st)) (len : ∀ vs H Q E, sp vs H Q E → vs.length = ps.length)
    (hbody : ∀ (cdv : Value) (A : Around) (outer : List Env) (s : Shared) (H : Hp) (vs : List V) (Q : VK) (E : XK), Room k (A.deeper (envOfC qual (defScope st) s.heap.objs.size f cdv)) → sp vs H Q E →
      ∃ t, PSs (cxOf (L2N.CX P w) P w K mg base N qual (defScope st) f cdv A outer s H E) (defBody st) t ∧ t { nx := fun _ H' => Q .non H', rt := Q } (L2.start N vs) H) : FnOk P w K mg base (L2N.CX P w) (k + 1) f fd ps sp := by
  obtain ⟨oc, od, kV, doc, pm, an, cdv, ct, osl, rfl, lk, hcd⟩ := F.ex
  exact fn_of lk hcd S len fun A outer s H vs Q E hr hsp => hbody cdv A outer s H vs Q E hr hsp
/-- a def whose code object stands at c -/
structure FunC (K : PySem.W.Frag) (x qual : Str) (st : Stmt) (f : Addr) (fd : FuncData) (c : Addr) : Prop where
  ex : ∃ (oc : Value) (od : Option Addr) (kV doc pm : Value) (an : Option Addr) (ct : Value) (osl : Array (Option Value)),
    fd = PySem.W.fnOf x qual (defArgs st) (defBody st) (defScope st) .none kV doc pm an (.ref c) ct ∧ K.lookup f = some ⟨oc, od, .func fd, osl⟩ ∧ PySem.W.codeIn K (.ref c) qual = true
theorem FunC.ok {x qual : Str} {st : Stmt} {f c : Addr} {fd : FuncData} {N ps : List Str} {k : Nat} {sp : Sp} (F : FunC K x qual st f fd c) (S : FnScope N ps (defScope st)) (len : ∀ vs H Q E, sp vs H Q E → vs.length = ps.length)
    (hbody : ∀ (A : Around) (outer : List Env) (s : Shared) (H : Hp) (vs : List V) (Q : VK) (E : XK), Room k (A.deeper (envOfC qual (defScope st) s.heap.objs.size f (.ref c))) → sp vs H Q E →
      ∃ t, PSs (cxOf CX0 P w K mg base N qual (defScope st) f (.ref c) A outer s H E).nox (defBody st) t ∧ t { nx := fun _ H' => Q .non H', rt := Q } (L2.start N vs) H) : FnOk P w K mg base CX0 (k + 1) f fd ps sp := by
  obtain ⟨oc, od, kV, doc, pm, an, ct, osl, rfl, lk, hcd⟩ := F.ex
  exact fn_of lk hcd S len fun A outer s H vs Q E hr hsp => by
    obtain ⟨t, h1, h2⟩ := hbody A outer s H vs Q E hr hsp
    exact ⟨t, h1.nox, h2⟩
theorem passN0 {X : Cx} : Passes (L2N.CX X.prog X.w) X E0 := fun _ _ _ _ _ _ _ h => by
  obtain ⟨_, _, _, _, _, _, _, _, _, _, _, _, z⟩ := h
  exact z.elim
theorem same_upd {H : Hp} {p : Addr} {o : HO} (h : H p = none) : Same H (upd H p o) := fun b x e => by
  rw [upd_ne (ne_of_none e h)]
  exact e
theorem Same.at {H H' : Hp} (s : Same H H') {a : Addr} {o : HO} (h : H a = some o) : H' a = some o := s a o h
theorem sameT {K : PySem.W.Frag} {H H' : Hp} {a : Addr} {xs : List V} (e : Same H H') (h : SqT K H a xs) : SqT K H' a xs := by
  rcases h with (h | ⟨o, h⟩) | h
  · exact .inl (.inl (e _ _ h))
  · exact .inl (.inr ⟨o, e _ _ h⟩)
  · exact .inr h
theorem sqT {K : PySem.W.Frag} {H : Hp} {a : Addr} {xs : List V} (h : H a = some (.tup xs)) : SqT K H a xs := .inl (.inl h)
theorem sqL {K : PySem.W.Frag} {H : Hp} {a : Addr} {xs : List V} (h : H a = some (.lst xs)) : SqL K H a xs := .inl (.inl h)
end
/-! ### values that a def may look at: flat ones, and tuples and lists that are tracked -/
def Dat (H : Hp) : V → Prop
  | .non => True
  | .bl _ => True
  | .int _ => True
  | .str _ => True
  | .ref a => (∃ xs, H a = some (.tup xs)) ∨ ∃ xs, H a = some (.lst xs)
  | _ => False
theorem Dat.same {H H' : Hp} {v : V} (d : Dat H v) (s : Same H H') : Dat H' v := by
  cases v with
  | ref a => exact d.elim (fun ⟨xs, e⟩ => .inl ⟨xs, s _ _ e⟩) (fun ⟨xs, e⟩ => .inr ⟨xs, s _ _ e⟩)
  | non => trivial
  | bl _ => trivial
  | int _ => trivial
  | str _ => trivial
  | byt _ => exact d.elim
  | flt _ => exact d.elim
  | ty _ => exact d.elim
/-- its type's name -/
def tyN (H : Hp) : V → String
  | .non => "NoneType"
  | .bl _ => "bool"
  | .int _ => "int"
  | .str _ => "str"
  | .ref a => match H a with
    | some (.tup _) => "tuple"
    | _ => "list"
  | _ => "?"
theorem Dat.ty {K : PySem.W.Frag} {H : Hp} {v : V} (d : Dat H v) : TyX K H v (.type (tyN H v)) := by
  cases v with
  | ref a =>
    rcases d with ⟨xs, e⟩ | ⟨xs, e⟩
    · have : tyN H (.ref a) = "tuple" := by simp [tyN, e]
      rw [this]; exact .base (.tup e)
    · have : tyN H (.ref a) = "list" := by simp [tyN, e]
      rw [this]; exact .base (.lst e)
  | non => exact .base .non
  | bl b => exact .base (.bl b)
  | int i => exact .base (.int i)
  | str x => exact .base (.str x)
  | byt _ => exact d.elim
  | flt _ => exact d.elim
  | ty _ => exact d.elim
theorem tyN_cases {H : Hp} {v : V} (d : Dat H v) : (v = .non ∧ tyN H v = "NoneType") ∨ (∃ b, v = .bl b ∧ tyN H v = "bool") ∨ (∃ i, v = .int i ∧ tyN H v = "int") ∨ (∃ x, v = .str x ∧ tyN H v = "str") ∨ (∃ a xs, v = .ref a ∧ H a = some (.tup xs) ∧ tyN H v = "tuple") ∨ (∃ a xs, v = .ref a ∧ H a = some (.lst xs) ∧ tyN H v = "list") := by
  cases v with
  | ref a =>
    rcases d with ⟨xs, e⟩ | ⟨xs, e⟩
    · exact .inr (.inr (.inr (.inr (.inl ⟨a, xs, rfl, e, by simp [tyN, e]⟩))))
    · exact .inr (.inr (.inr (.inr (.inr ⟨a, xs, rfl, e, by simp [tyN, e]⟩))))
  | non => exact .inl ⟨rfl, rfl⟩
  | bl b => exact .inr (.inl ⟨b, rfl, rfl⟩)
  | int i => exact .inr (.inr (.inl ⟨i, rfl, rfl⟩))
  | str x => exact .inr (.inr (.inr (.inl ⟨x, rfl, rfl⟩)))
  | byt _ => exact d.elim
  | flt _ => exact d.elim
  | ty _ => exact d.elim
end NM
namespace NM
open PySem PySem.Spec PyProof.Rows L2 HotX L2H
/-! ### facts of the written part that are put together -/
theorem kit_yes {K : PySem.W.Frag} {D : Addr} : PySem.W.kitOne K (.ref D) (.ref D) = some true := by
  unfold PySem.W.kitOne
  rw [if_pos (beq_self_eq_true _)]
theorem kit_no {K : PySem.W.Frag} {D C : Addr} (hn : D ≠ C) (h1 : PySem.W.isClsIn K C = true) (h2 : PySem.W.typeIn K (.ref C) = some (.type "type")) (h3 : PySem.W.subIn K (.ref D) (.ref C) = some false) : PySem.W.kitOne K (.ref D) (.ref C) = some false := by
  unfold PySem.W.kitOne
  rw [if_neg (by intro e; exact hn (Value.ref.inj (beq_iff_eq.mp e)))]
  show (if ((PySem.W.clsIn K C).isSome && PySem.W.typeIn K (.ref C) == some (.type "type")) = true then PySem.W.subIn K (.ref D) (.ref C) else none) = some false
  have h1' : (PySem.W.clsIn K C).isSome = true := h1
  rw [h1', h2, if_pos (by rfl)]
  exact h3
theorem kit_VE {K : PySem.W.Frag} {D : Addr} (h : PySem.W.subIn K (.ref D) (.type "ValueError") = some true) : PySem.W.kitOne K (.ref D) (.type "ValueError") = some true := by
  unfold PySem.W.kitOne
  rw [if_neg (by intro e; cases (beq_iff_eq.mp e))]
  show (if PySem.W.kitMeta "ValueError" = true then PySem.W.subIn K (.ref D) (.type "ValueError") else none) = some true
  rw [if_pos (by decide +kernel)]
  exact h
/-- what a code object's fields tell of its table -/
def codeHdV (vs : Array Value) (c P : Addr) : Bool := (match (vs[11]? : Option Value) with | some (.ref P') => P' == P | _ => false) &&
      (match vs.getD 18 .none with | .str _ _ => true | _ => false) && (match vs.getD 7 .none with | .int _ _ => true | _ => false) &&
      (match vs.getD 9 .none with | .bool _ => true | _ => false) && (match vs.getD 10 .none with | .int _ _ => true | _ => false) && c != P
theorem hd_of {K : PySem.W.Frag} {c P : Addr} {od : Option Addr} {vs : Array Value} {sl : Array (Option Value)} (l : K.lookup c = some ⟨.type "code", od, .fields vs, sl⟩) (h : codeHdV vs c P = true) : PySem.W.codeHdIn K c P = true := by
  unfold PySem.W.codeHdIn
  rw [l]
  exact h
end NM

namespace NM
open PySem PySem.Spec PyProof.Rows L2 HotX L2H
/-! ### what is walked, as a list of values: it stands wherever ok does -/
structure Enum (J : It) (ok : Hp → Prop) (xs : List V) : Prop where
  go : ∀ i H, ok H → i < xs.length → J.go i H
  yld : ∀ i H x H', ok H → i < xs.length → J.yld i H x H' → H' = H ∧ xs[i]? = some x
  stop : ∀ i H, ok H → xs.length ≤ i → J.stop i H
theorem enum_list {K : PySem.W.Frag} {a : Addr} {xs : List V} : Enum (Itl K a) (fun H => SqL K H a xs) xs where
  go := fun i H ok hi => ⟨xs, xs[i], ok, by simp [hi]⟩
  yld := fun i H x H' ok _ y => ⟨y.1, y.2 xs ok⟩
  stop := fun i H ok hi => ⟨xs, ok, hi⟩
theorem enum_tup {K : PySem.W.Frag} {a : Addr} {xs : List V} : Enum (Itt K a) (fun H => SqT K H a xs) xs where
  go := fun i H ok hi => ⟨xs, xs[i], ok, by simp [hi]⟩
  yld := fun i H x H' ok _ y => ⟨y.1, y.2 xs ok⟩
  stop := fun i H ok hi => ⟨xs, ok, hi⟩
def rangeV (lo : Int) (n : Nat) : List V := (List.range n).map fun i => V.int (lo + (i : Nat))
theorem rangeV_len (lo : Int) (n : Nat) : (rangeV lo n).length = n := by simp [rangeV]
theorem rangeV_get {lo : Int} {n i : Nat} (h : i < n) : (rangeV lo n)[i]? = some (.int (lo + (i : Nat))) := by simp [rangeV, h]
theorem rangeV_some {lo : Int} {n i : Nat} {x : V} (h : (rangeV lo n)[i]? = some x) : i < n ∧ x = .int (lo + (i : Nat)) := by
  have hi : i < n := by
    have := (List.getElem?_eq_some_iff.mp h).1
    rw [rangeV_len] at this
    exact this
  rw [rangeV_get hi] at h
  exact ⟨hi, (Option.some.inj h).symm⟩
theorem enum_range {lo : Int} {n : Nat} : Enum (Itr lo n) (fun _ => True) (rangeV lo n) where
  go := fun i H _ hi => by rw [rangeV_len] at hi; exact hi
  yld := fun i H x H' _ hi y => ⟨y.1, by
    obtain ⟨_, rfl⟩ := y
    rw [rangeV_len] at hi
    exact rangeV_get hi⟩
  stop := fun i H _ hi => by rw [rangeV_len] at hi; exact hi
def signsV (x : Str) : List V := x.cps.toList.map fun c => V.str ⟨#[c]⟩
theorem signsV_len (x : Str) : (signsV x).length = x.cps.size := by simp [signsV]
theorem enum_str {x : Str} : Enum (Its x) (fun _ => True) (signsV x) where
  go := fun i H _ hi => by rw [signsV_len] at hi; exact hi
  yld := fun i H v H' _ hi y => ⟨y.1, by
    obtain ⟨_, c, e, rfl⟩ := y
    simp only [signsV, List.getElem?_map, Array.getElem?_toList, e, Option.map_some]⟩
  stop := fun i H _ hi => by rw [signsV_len] at hi; exact hi
theorem enum_keys {d : Addr} {o : Obj} {kvs : List (Key × V)} : Enum (Itk d o kvs) (fun H => H d = some (.frz o (.dK kvs))) (kvs.map fun kv => kV kv.1) where
  go := fun i H ok hi => ⟨ok, by simpa using hi⟩
  yld := fun i H v H' _ hi y => ⟨y.1, by
    obtain ⟨_, k, w, e, rfl⟩ := y
    simp only [List.getElem?_map, e, Option.map_some]⟩
  stop := fun i H ok hi => ⟨ok, by simpa using hi⟩
/-- a for over what is walked -/
theorem for_enum {J : It} {ok : Hp → Prop} {xs : List V} (en : Enum J ok xs) {g : TG} {tb : TS} {D : Ends} {σ : St} {H : Hp} (Pv : Nat → St → Hp → Prop) (h0 : Pv 0 σ H) (hl : ∀ i σ H, i ≤ xs.length → Pv i σ H → ok H)
    (hs : ∀ i x σ H, xs[i]? = some x → Pv i σ H → g x σ H fun σ2 H2 => tb { D with nx := Pv (i + 1), ct := Pv (i + 1), bk := D.nx } σ2 H2) (hd : ∀ σ H, Pv xs.length σ H → D.nx σ H) :
    ∃ W : Nat → Nat → St → Hp → Prop, (∃ m, W 0 m σ H) ∧ ∀ i m σ H, W i m σ H →
      (J.stop i H ∧ D.nx σ H) ∨ (J.go i H ∧ ∃ N : St → Hp → Prop, (∀ σ' H', N σ' H' → ∃ m', m' < m ∧ W (i + 1) m' σ' H') ∧ ∀ x H', J.yld i H x H' → g x σ H' fun σ2 H2 => tb { D with nx := N, ct := N, bk := D.nx } σ2 H2) := by
  refine ⟨fun i m σ H => m = xs.length - i ∧ i ≤ xs.length ∧ Pv i σ H, ⟨xs.length, by simp, Nat.zero_le _, h0⟩, ?_⟩
  rintro i m σ H ⟨rfl, hi, p⟩
  have q := hl i σ H hi p
  by_cases hlt : i < xs.length
  · refine .inr ⟨en.go i H q hlt, Pv (i + 1), fun σ' H' p' => ⟨xs.length - (i + 1), by omega, rfl, hlt, p'⟩, fun x H' y => ?_⟩
    obtain ⟨e, ex⟩ := en.yld i H x H' q hlt y
    subst e
    exact hs i x σ _ ex p
  · have e : i = xs.length := by omega
    subst e
    exact .inl ⟨en.stop _ H q (Nat.le_refl _), hd σ H p⟩
/-- what stands but for one thing stands -/
def SameX (D : Addr) (H H' : Hp) : Prop := ∀ b o, b ≠ D → H b = some o → H' b = some o
theorem wipe_set {σ : St} {j : Nat} {v : Option V} : wipe ((wipe σ [j]).set j v) [j] = wipe σ [j] := by
  simp [wipe, List.set_set]
theorem paired_snoc {α β : Type} {F : α → β → Prop} {a : α} {b : β} : ∀ {l : List α} {m : List β}, Paired F l m → F a b → Paired F (l ++ [a]) (m ++ [b])
  | _, _, .nil, h => .cons h .nil
  | _, _, .cons r t, h => .cons r (paired_snoc t h)
/-- a comprehension over what is walked, its elements told by a relation that lasts -/
theorem lc_rel {J : It} {ok : Hp → Prop} {xs : List V} (en : Enum J ok xs) {j : Nat} {tt : TT} {te : TE} {σ : St} {H1 : Hp} {Q : Addr → Hp → Prop} (p : V → Bool) (R : V → V → Hp → Prop)
    (hok : ∀ D H, H1 D = none → SameX D H1 H → ok H) (hlen : xs.length < sizeLine)
    (hR : ∀ x y H H' D, H1 D = none → R x y H → (∀ b o, H b = some o → b ≠ D → H' b = some o) → (∃ l, H D = some (.lst l)) → R x y H')
    (turn : ∀ (i : Nat) (x : V) (H : Hp) (Cy : VK) (Cn : Hp → Prop), xs[i]? = some x → Same H1 H → (∀ y H', Same H H' → p x = true → R x y H' → Cy y H') → (∀ H', Same H H' → p x = false → Cn H') →
      tt ((wipe σ [j]).set j (some x)) H fun b H3 => if b = true then te ((wipe σ [j]).set j (some x)) H3 Cy else Cn H3)
    (done : ∀ D H ys, H1 D = none → Same H1 H → H D = some (.lst ys) → Paired (fun x y => R x y H) (xs.filter p) ys → Q D H) :
    ∀ D, H1 D = none → ∃ W : Nat → Nat → Hp → Prop, (∃ m, W 0 m (upd H1 D (.lst []))) ∧ ∀ i m H, W i m H →
      (J.stop i H ∧ Q D H) ∨ (J.go i H ∧ ∃ Nx : Hp → Prop, (∀ H', Nx H' → ∃ m', m' < m ∧ W (i + 1) m' H') ∧ ∀ x H', J.yld i H x H' → gName j x (wipe σ [j]) H' fun σ2 H2 => wipe σ2 [j] = wipe σ [j] ∧ tt σ2 H2 fun b H3 =>
        if b = true then te σ2 H3 fun y H4 => ∃ acc, H4 D = some (.lst acc) ∧ acc.length < sizeLine ∧ Nx (upd H4 D (.lst (acc ++ [y]))) else Nx H3) := by
  intro D nD
  let Pv : Nat → Hp → Prop := fun i H => Same H1 H ∧ ∃ ys, H D = some (.lst ys) ∧ ys.length ≤ i ∧ Paired (fun x y => R x y H) ((xs.take i).filter p) ys
  have sm0 : Same H1 (upd H1 D (.lst [])) := fun b o e => by rw [upd_ne (ne_of_none e nD)]; exact e
  refine ⟨fun i m H => m = xs.length - i ∧ i ≤ xs.length ∧ Pv i H, ⟨xs.length, by simp, Nat.zero_le _, sm0, [], upd_same, Nat.le_refl _, by simp; exact .nil⟩, ?_⟩
  rintro i m H ⟨rfl, hi, sm, ys, hD, hy, pr⟩
  have okH : ok H := hok D H nD fun b o _ e => sm b o e
  by_cases hlt : i < xs.length
  · refine .inr ⟨en.go i H okH hlt, Pv (i + 1), fun H' p' => ⟨xs.length - (i + 1), by omega, rfl, hlt, p'⟩, fun x H' y => ?_⟩
    obtain ⟨e, ex⟩ := en.yld i H x H' okH hlt y
    subst e
    have et : xs.take (i + 1) = xs.take i ++ [x] := by rw [List.take_add_one, ex]; rfl
    refine ⟨wipe_set, ?_⟩
    refine turn i x H' _ _ ex sm (fun y H4 s4 hp ry => ?_) fun H3 s3 hp => ?_
    · have hD4 := s4 _ _ hD
      refine ⟨ys, hD4, by omega, fun b o e => ?_, ys ++ [y], upd_same, by rw [List.length_append]; simp; omega, ?_⟩
      · rw [upd_ne (ne_of_none e nD)]
        exact s4 _ _ (sm _ _ e)
      · rw [et, List.filter_append]
        have e1 : [x].filter p = [x] := by simp [hp]
        rw [e1]
        have k4 : ∀ b o, H4 b = some o → b ≠ D → (upd H4 D (.lst (ys ++ [y]))) b = some o := fun b o e n => by rw [upd_ne n]; exact e
        have kH : ∀ b o, H' b = some o → b ≠ D → (upd H4 D (.lst (ys ++ [y]))) b = some o := fun b o e n => k4 b o (s4 _ _ e) n
        exact paired_snoc (Paired.mapP pr fun a b r => hR a b _ _ D nD r kH ⟨_, hD⟩) (hR x y _ _ D nD ry k4 ⟨_, hD4⟩)
    · refine ⟨fun b o e => s3 _ _ (sm _ _ e), ys, s3 _ _ hD, by omega, ?_⟩
      rw [et, List.filter_append]
      have e1 : [x].filter p = [] := by simp [hp]
      rw [e1, List.append_nil]
      exact Paired.mapP pr fun a b r => hR a b _ _ D nD r (fun b o e n => s3 _ _ e) ⟨_, hD⟩
  · have e : i = xs.length := by omega
    subst e
    rw [List.take_length] at pr
    exact .inl ⟨en.stop _ H okH (Nat.le_refl _), done D H ys nD sm hD pr⟩
theorem paired_map {α β : Type} {f : α → β} : ∀ {l : List α} {m : List β}, Paired (fun x y => y = f x) l m → m = l.map f
  | _, _, .nil => rfl
  | _, _, .cons r t => by rw [List.map_cons, ← r, ← paired_map t]
theorem paired_len {α β : Type} {F : α → β → Prop} : ∀ {l : List α} {m : List β}, Paired F l m → l.length = m.length
  | _, _, .nil => rfl
  | _, _, .cons _ t => by rw [List.length_cons, List.length_cons, paired_len t]
/-- .. its elements values that lean on no heap -/
theorem lc_fun {J : It} {ok : Hp → Prop} {xs : List V} (en : Enum J ok xs) {j : Nat} {tt : TT} {te : TE} {σ : St} {H1 : Hp} {Q : Addr → Hp → Prop} (p : V → Bool) (f : V → V)
    (hok : ∀ D H, H1 D = none → SameX D H1 H → ok H) (hlen : xs.length < sizeLine)
    (turn : ∀ (i : Nat) (x : V) (H : Hp) (Cy : VK) (Cn : Hp → Prop), xs[i]? = some x → Same H1 H → (∀ H', Same H H' → p x = true → Cy (f x) H') → (∀ H', Same H H' → p x = false → Cn H') →
      tt ((wipe σ [j]).set j (some x)) H fun b H3 => if b = true then te ((wipe σ [j]).set j (some x)) H3 Cy else Cn H3)
    (done : ∀ D H, H1 D = none → Same H1 H → H D = some (.lst ((xs.filter p).map f)) → Q D H) :
    ∀ D, H1 D = none → ∃ W : Nat → Nat → Hp → Prop, (∃ m, W 0 m (upd H1 D (.lst []))) ∧ ∀ i m H, W i m H →
      (J.stop i H ∧ Q D H) ∨ (J.go i H ∧ ∃ Nx : Hp → Prop, (∀ H', Nx H' → ∃ m', m' < m ∧ W (i + 1) m' H') ∧ ∀ x H', J.yld i H x H' → gName j x (wipe σ [j]) H' fun σ2 H2 => wipe σ2 [j] = wipe σ [j] ∧ tt σ2 H2 fun b H3 =>
        if b = true then te σ2 H3 fun y H4 => ∃ acc, H4 D = some (.lst acc) ∧ acc.length < sizeLine ∧ Nx (upd H4 D (.lst (acc ++ [y]))) else Nx H3) :=
  lc_rel en p (fun x y _ => y = f x) hok hlen (fun _ _ _ _ _ _ h _ _ => h) (fun i x H Cy Cn ex sm h1 h2 => turn i x H Cy Cn ex sm (fun H' s hp => h1 _ H' s hp rfl) h2) fun D H ys nD sm hD pr => by
    have e : ys = (xs.filter p).map f := paired_map pr
    rw [e] at hD
    exact done D H nD sm hD
/-- .. without a test -/
theorem lc_mapR {J : It} {ok : Hp → Prop} {xs : List V} (en : Enum J ok xs) {j : Nat} {te : TE} {σ : St} {H1 : Hp} {Q : Addr → Hp → Prop} (R : V → V → Hp → Prop)
    (hok : ∀ D H, H1 D = none → SameX D H1 H → ok H) (hlen : xs.length < sizeLine)
    (hR : ∀ x y H H' D, H1 D = none → R x y H → (∀ b o, H b = some o → b ≠ D → H' b = some o) → (∃ l, H D = some (.lst l)) → R x y H')
    (turn : ∀ (i : Nat) (x : V) (H : Hp) (Cy : VK), xs[i]? = some x → Same H1 H → (∀ y H', Same H H' → R x y H' → Cy y H') → te ((wipe σ [j]).set j (some x)) H Cy)
    (done : ∀ D H ys, H1 D = none → Same H1 H → H D = some (.lst ys) → Paired (fun x y => R x y H) xs ys → Q D H) :
    ∀ D, H1 D = none → ∃ W : Nat → Nat → Hp → Prop, (∃ m, W 0 m (upd H1 D (.lst []))) ∧ ∀ i m H, W i m H →
      (J.stop i H ∧ Q D H) ∨ (J.go i H ∧ ∃ Nx : Hp → Prop, (∀ H', Nx H' → ∃ m', m' < m ∧ W (i + 1) m' H') ∧ ∀ x H', J.yld i H x H' → gName j x (wipe σ [j]) H' fun σ2 H2 => wipe σ2 [j] = wipe σ [j] ∧ tYes σ2 H2 fun b H3 =>
        if b = true then te σ2 H3 fun y H4 => ∃ acc, H4 D = some (.lst acc) ∧ acc.length < sizeLine ∧ Nx (upd H4 D (.lst (acc ++ [y]))) else Nx H3) :=
  lc_rel en (fun _ => true) R hok hlen hR (fun i x H Cy Cn ex sm h1 _ => by
      show if true = true then te ((wipe σ [j]).set j (some x)) H Cy else Cn H
      rw [if_pos rfl]
      exact turn i x H Cy ex sm fun y H' s r => h1 y H' s rfl r) fun D H ys nD sm hD pr => done D H ys nD sm hD (by
    rw [List.filter_eq_self.mpr (fun _ _ => rfl)] at pr
    exact pr)
theorem lc_map {J : It} {ok : Hp → Prop} {xs : List V} (en : Enum J ok xs) {j : Nat} {te : TE} {σ : St} {H1 : Hp} {Q : Addr → Hp → Prop} (f : V → V)
    (hok : ∀ D H, H1 D = none → SameX D H1 H → ok H) (hlen : xs.length < sizeLine)
    (turn : ∀ (i : Nat) (x : V) (H : Hp) (Cy : VK), xs[i]? = some x → Same H1 H → (∀ H', Same H H' → Cy (f x) H') → te ((wipe σ [j]).set j (some x)) H Cy)
    (done : ∀ D H, H1 D = none → Same H1 H → H D = some (.lst (xs.map f)) → Q D H) :
    ∀ D, H1 D = none → ∃ W : Nat → Nat → Hp → Prop, (∃ m, W 0 m (upd H1 D (.lst []))) ∧ ∀ i m H, W i m H →
      (J.stop i H ∧ Q D H) ∨ (J.go i H ∧ ∃ Nx : Hp → Prop, (∀ H', Nx H' → ∃ m', m' < m ∧ W (i + 1) m' H') ∧ ∀ x H', J.yld i H x H' → gName j x (wipe σ [j]) H' fun σ2 H2 => wipe σ2 [j] = wipe σ [j] ∧ tYes σ2 H2 fun b H3 =>
        if b = true then te σ2 H3 fun y H4 => ∃ acc, H4 D = some (.lst acc) ∧ acc.length < sizeLine ∧ Nx (upd H4 D (.lst (acc ++ [y]))) else Nx H3) :=
  lc_mapR en (fun x y _ => y = f x) hok hlen (fun _ _ _ _ _ _ h _ _ => h) (fun i x H Cy ex sm h1 => turn i x H Cy ex sm fun H' s => h1 _ H' s rfl) fun D H ys nD sm hD pr => by
    have e : ys = xs.map f := paired_map pr
    rw [e] at hD
    exact done D H nD sm hD
/-! ### a thing is read, not written, while a loop walks it; it may stand locked already -/
def LkO (o u : HO) : Prop := o = u ∨ ∃ od, o = .frz od u
def tLockR (t : TS) : TS := fun D σ H => ∃ d u o, H d = some o ∧ LkO o u ∧ Mut (some u) ∧ ∀ od, t ⟨fun σ' H' => H' d = some (.frz od u) ∧ D.nx σ' (upd H' d o), fun v H' => H' d = some (.frz od u) ∧ D.rt v (upd H' d o), fun σ' H' => H' d = some (.frz od u) ∧ D.bk σ' (upd H' d o), fun σ' H' => H' d = some (.frz od u) ∧ D.ct σ' (upd H' d o)⟩ σ (upd H d (.frz od u))
def tLockER (t : TE) : TE := fun σ H Q => ∃ d u o, H d = some o ∧ LkO o u ∧ Mut (some u) ∧ ∀ od, t σ (upd H d (.frz od u)) fun v H' => H' d = some (.frz od u) ∧ Q v (upd H' d o)
theorem upd_id {H : Hp} {d : Addr} {o : HO} (h : H d = some o) : upd H d o = H := by
  funext b
  unfold upd
  split
  · rename_i e
    rw [e, h]
  · rfl
section
variable {X : Cx}
theorem ps_lockR {st : Stmt} {t : TS} (h : PS X st t) : PS X st (tLockR t) := by
  refine ⟨fun pins s σ H D I hw => ?_⟩
  obtain ⟨d, u, o, hd, lk, mu, hw⟩ := hw
  rcases lk with rfl | ⟨od, rfl⟩
  · obtain ⟨od, I1⟩ := I.lock hd mu
    refine thn (h.run pins s σ _ _ I1 (hw od)) fun f s1 q => ?_
    cases f with
    | next => obtain ⟨σ', H', I2, e, q⟩ := q; exact ⟨σ', _, I2.unlock e (I.nofrz hd mu), q⟩
    | brk => obtain ⟨σ', H', I2, e, q⟩ := q; exact ⟨σ', _, I2.unlock e (I.nofrz hd mu), q⟩
    | cont => obtain ⟨σ', H', I2, e, q⟩ := q; exact ⟨σ', _, I2.unlock e (I.nofrz hd mu), q⟩
    | ret v => obtain ⟨x, σ', H', I2, r, e, q⟩ := q; exact ⟨x, σ', _, I2.unlock e (I.nofrz hd mu), r, q⟩
  · have z := hw od
    rw [upd_id hd] at z
    refine thn (h.run pins s σ _ _ I z) fun f s1 q => ?_
    cases f with
    | next => obtain ⟨σ', H', I2, e, q⟩ := q; rw [upd_id e] at q; exact ⟨σ', _, I2, q⟩
    | brk => obtain ⟨σ', H', I2, e, q⟩ := q; rw [upd_id e] at q; exact ⟨σ', _, I2, q⟩
    | cont => obtain ⟨σ', H', I2, e, q⟩ := q; rw [upd_id e] at q; exact ⟨σ', _, I2, q⟩
    | ret v => obtain ⟨x, σ', H', I2, r, e, q⟩ := q; rw [upd_id e] at q; exact ⟨x, σ', _, I2, r, q⟩
theorem pe_lockR {e : Expr} {t : TE} (h : PE X e t) : PE X e (tLockER t) := by
  refine ⟨fun pins s σ H Q I hw => ?_⟩
  obtain ⟨d, u, o, hd, lk, mu, hw⟩ := hw
  rcases lk with rfl | ⟨od, rfl⟩
  · obtain ⟨od, I1⟩ := I.lock hd mu
    refine thn (h.run pins s σ _ _ I1 (hw od)) fun v s1 ⟨x, H1, I2, r, e2, q⟩ => ?_
    exact ⟨x, _, I2.unlock e2 (I.nofrz hd mu), r, q⟩
  · have z := hw od
    rw [upd_id hd] at z
    refine thn (h.run pins s σ _ _ I z) fun v s1 ⟨x, H1, I2, r, e2, q⟩ => ?_
    rw [upd_id e2] at q
    exact ⟨x, _, I2, r, q⟩
end
end NM

namespace NM
open PySem PySem.Spec PyProof.Rows L2 HotX L2H
/-! ### what the defs of stage 1 reckon -/
def isCount (lo hi : Int) : V → Bool
  | .int i => decide (lo ≤ i) && decide (i ≤ hi)
  | _ => false
def smallS : Str := "abcdefghijklmnopqrstuvwxyz"
def isSmall (c : Nat) : Bool := decide (97 ≤ c) && decide (c ≤ 122)
/-- a name: 1 to 6 small letters -/
def nameS (x : Str) : Bool := decide (1 ≤ x.cps.size) && decide (x.cps.size ≤ 6) && x.cps.toList.all fun c => decide (c ∈ smallS.cps.toList)
def isName : V → Bool
  | .str x => nameS x
  | _ => false
def inSide (i : Int) : Bool := decide (0 ≤ i) && decide (i ≤ 4095)
/-- the items of a tuple, if it is one -/
def tupOf (H : Hp) : V → Option (List V)
  | .ref a => match H a with
    | some (.tup xs) => some xs
    | _ => none
  | _ => none
def isPoint (H : Hp) (v : V) : Bool := match tupOf H v with
  | some xs => decide (xs.length = 2) && xs.all (isCount 0 4095)
  | none => false
abbrev Pt := Int × Int
/-- v is the point p, in H -/
def PtAt (H : Hp) (v : V) (p : Pt) : Prop := ∃ a, v = .ref a ∧ H a = some (.tup [.int p.1, .int p.2])
def PtOk (p : Pt) : Prop := 0 ≤ p.1 ∧ p.1 ≤ 4095 ∧ 0 ≤ p.2 ∧ p.2 ≤ 4095
def iabs (i : Int) : Int := if i < 0 then -i else i
def imax (i j : Int) : Int := if j > i then j else i
def dist (p q : Pt) : Int := imax (iabs (p.1 - q.1)) (iabs (p.2 - q.2))
def reachs : List Int := [0, 1, 2, 4, 8, 16, 32, 64, 128, 256, 512, 1024, 2048, 4096]
def reachI (s : Int) : Int := reachs.getD s.toNat 0
theorem PtAt.same {H H' : Hp} {v : V} {p : Pt} (h : PtAt H v p) (s : Same H H') : PtAt H' v p := by
  obtain ⟨a, e, h⟩ := h
  exact ⟨a, e, s _ _ h⟩
theorem PtAt.dat {H : Hp} {v : V} {p : Pt} (h : PtAt H v p) : Dat H v := by
  obtain ⟨a, rfl, h⟩ := h
  exact .inl ⟨_, h⟩
theorem tupOf_ref {H : Hp} {a : Addr} {xs : List V} (h : H a = some (.tup xs)) : tupOf H (.ref a) = some xs := by simp [tupOf, h]
theorem isPoint_of {H : Hp} {v : V} {p : Pt} (h : PtAt H v p) (o : PtOk p) : isPoint H v = true := by
  obtain ⟨a, rfl, h⟩ := h
  obtain ⟨h1, h2, h3, h4⟩ := o
  unfold isPoint
  rw [tupOf_ref h]
  simp [isCount, h1, h2, h3, h4]
end NM
namespace NM
open PySem PySem.Spec PyProof.Rows L2 HotX L2H
/-- what may be asked whether it is a point -/
def PD (H : Hp) (v : V) : Prop := Dat H v ∧ ∀ xs, tupOf H v = some xs → xs.length ≤ 1000 ∧ ∀ x ∈ xs, Dat H x
theorem tupOf_same {H H' : Hp} {v : V} (d : Dat H v) (s : Same H H') : tupOf H' v = tupOf H v := by
  cases v with
  | ref a =>
    rcases d with ⟨xs, e⟩ | ⟨xs, e⟩
    · rw [tupOf_ref e, tupOf_ref (s _ _ e)]
    · have h1 : tupOf H (.ref a) = none := by simp [tupOf, e]
      have h2 : tupOf H' (.ref a) = none := by simp [tupOf, s _ _ e]
      rw [h1, h2]
  | non => rfl
  | bl _ => rfl
  | int _ => rfl
  | str _ => rfl
  | byt _ => rfl
  | flt _ => rfl
  | ty _ => rfl
theorem PD.same {H H' : Hp} {v : V} (d : PD H v) (s : Same H H') : PD H' v := ⟨d.1.same s, fun xs e => by
  rw [tupOf_same d.1 s] at e
  exact ⟨(d.2 xs e).1, fun x hx => ((d.2 xs e).2 x hx).same s⟩⟩
theorem isPoint_same {H H' : Hp} {v : V} (d : PD H v) (s : Same H H') : isPoint H' v = isPoint H v := by
  unfold isPoint
  rw [tupOf_same d.1 s]
theorem PtAt.pd {H : Hp} {v : V} {p : Pt} (h : PtAt H v p) : PD H v := ⟨h.dat, fun xs e => by
  obtain ⟨a, rfl, h⟩ := h
  rw [tupOf_ref h] at e
  cases e
  refine ⟨by show 2 ≤ 1000; decide, fun x hx => ?_⟩
  rcases List.mem_cons.mp hx with rfl | hx
  · trivial
  · rcases List.mem_cons.mp hx with rfl | hx
    · trivial
    · cases hx⟩
theorem tupOf_some {H : Hp} {v : V} {xs : List V} (h : tupOf H v = some xs) : ∃ a, v = .ref a ∧ H a = some (.tup xs) := by
  cases v with
  | ref a =>
    refine ⟨a, rfl, ?_⟩
    have h : (match H a with | some (.tup xs) => some xs | _ => none) = some xs := h
    split at h
    · rename_i ys e
      cases h
      exact e
    · cases h
  | _ => cases h
theorem count_int {lo hi : Int} {v : V} (h : isCount lo hi v = true) : ∃ i, v = .int i ∧ lo ≤ i ∧ i ≤ hi := by
  cases v with
  | int i =>
    simp only [isCount, Bool.and_eq_true, decide_eq_true_eq] at h
    exact ⟨i, rfl, h⟩
  | _ => cases h
theorem isPoint_pt {H : Hp} {v : V} (h : isPoint H v = true) : ∃ p, PtAt H v p ∧ PtOk p := by
  unfold isPoint at h
  cases e : tupOf H v with
  | none => rw [e] at h; cases h
  | some xs =>
    rw [e] at h
    simp only [Bool.and_eq_true, decide_eq_true_eq, List.all_eq_true] at h
    obtain ⟨h1, h2⟩ := h
    obtain ⟨a, rfl, ha⟩ := tupOf_some e
    match xs, h1, h2, ha with
    | [x, y], _, h2, ha =>
      obtain ⟨i, rfl, i1, i2⟩ := count_int (h2 x (by simp))
      obtain ⟨j, rfl, j1, j2⟩ := count_int (h2 y (by simp))
      exact ⟨(i, j), ⟨a, rfl, ha⟩, i1, i2, j1, j2⟩
theorem PtAt.inj {H : Hp} {v : V} {p q : Pt} (h : PtAt H v p) (h' : PtAt H v q) : p = q := by
  obtain ⟨a, rfl, e⟩ := h
  obtain ⟨b, z, e'⟩ := h'
  cases z
  rw [e] at e'
  obtain ⟨p1, p2⟩ := p
  obtain ⟨q1, q2⟩ := q
  cases e'
  rfl
/-- the least size at which d is near -/
def nearSize (d : Int) : Nat := ((List.range 14).find? fun s => decide (d ≤ reachI (s : Nat))).getD 0
def nearB (d : Int) : V → Bool
  | .int s => decide (d ≤ reachI s)
  | _ => false
theorem dist_nonneg (p q : Pt) : 0 ≤ dist p q := by
  unfold dist imax iabs
  split <;> split <;> split <;> omega
theorem dist_le {p q : Pt} (hp : PtOk p) (hq : PtOk q) : dist p q ≤ 4095 := by
  obtain ⟨a1, a2, a3, a4⟩ := hp
  obtain ⟨b1, b2, b3, b4⟩ := hq
  unfold dist imax iabs
  split <;> split <;> split <;> omega
theorem find_head {α : Type} (p : α → Bool) : ∀ l : List α, (l.filter p)[0]? = l.find? p
  | [] => rfl
  | x :: r => by
    cases h : p x with
    | true => simp [List.filter_cons, List.find?_cons, h]
    | false => simp only [List.filter_cons, List.find?_cons, h]; exact find_head p r
theorem nearSize_found {d : Int} (h : d ≤ 4096) : (List.range 14).find? (fun s => decide (d ≤ reachI (s : Nat))) = some (nearSize d) := by
  have hs : ((List.range 14).find? fun s => decide (d ≤ reachI (s : Nat))).isSome = true := by
    rw [List.find?_isSome]
    exact ⟨13, by simp, by simpa [reachI, reachs] using h⟩
  unfold nearSize
  cases e : (List.range 14).find? fun s => decide (d ≤ reachI (s : Nat)) with
  | none => rw [e] at hs; cases hs
  | some s => rfl
theorem nearSize_head {d : Int} (h : d ≤ 4096) : ((rangeV 0 14).filter (nearB d))[0]? = some (.int (nearSize d)) := by
  rw [find_head, rangeV, List.find?_map]
  have e : (nearB d ∘ fun i : Nat => V.int (0 + (i : Int))) = fun s : Nat => decide (d ≤ reachI (s : Nat)) := by
    funext s
    simp [nearB]
  rw [e, nearSize_found h]
  simp
theorem nearSize_lt {d : Int} (h : d ≤ 4096) : nearSize d < 14 := by
  have := List.mem_of_find?_eq_some (nearSize_found h)
  simpa using this
theorem nearSize_near {d : Int} (h : d ≤ 4096) : d ≤ reachI (nearSize d) := by
  have := List.find?_some (nearSize_found h)
  simpa using this
theorem nearSize_least {d : Int} {s : Nat} (h : d ≤ 4096) (hs : s < nearSize d) : ¬ d ≤ reachI (s : Nat) := by
  obtain ⟨h1, l, r, e, hl⟩ := List.find?_eq_some_iff_append.mp (nearSize_found h)
  have hlen : (List.range 14).length = (l ++ nearSize d :: r).length := by rw [e]
  have hn : (List.range 14)[l.length]? = some (nearSize d) := by rw [e]; simp
  have : l.length = nearSize d := by
    rw [List.getElem?_range (by simp at hlen; omega)] at hn
    exact Option.some.inj hn
  have hm : s ∈ l := by
    have h2 : (List.range 14)[s]? = some s := List.getElem?_range (by have := nearSize_lt h; omega)
    rw [e, List.getElem?_append_left (by omega)] at h2
    exact List.mem_of_getElem? h2
  have := hl s hm
  simpa using this
end NM
namespace NM
open PySem PySem.Spec PyProof.Rows L2 HotX L2H
theorem not_both {H : Hp} {v u : V} {p q : Pt} (hp : PtAt H v p) (hq : PtAt H u q) (op : PtOk p) (oq : PtOk q) (h : isPoint H v = false ∨ isPoint H u = false) : False := by
  rw [isPoint_of hp op, isPoint_of hq oq] at h
  rcases h with h | h <;> cases h
theorem iabs_neg (i : Int) : iabs (-i) = iabs i := by
  unfold iabs
  split <;> split <;> omega
theorem dist_comm (p q : Pt) : dist p q = dist q p := by
  unfold dist
  rw [show p.1 - q.1 = -(q.1 - p.1) by omega, show p.2 - q.2 = -(q.2 - p.2) by omega, iabs_neg, iabs_neg]
end NM

namespace NM
open PySem PySem.Spec PyProof.Rows L2 HotX L2H
/-! ### data at some depth, as == asks it -/
structure Lay (n : Nat) (d : PyData) : Prop where
  can : d.canLay0 = true
  dep : d.depth ≤ n
theorem Lay.mono {n m : Nat} {d : PyData} (h : Lay n d) (hm : n ≤ m) : Lay m d := ⟨h.can, Nat.le_trans h.dep hm⟩
theorem Lay.shaped {n : Nat} {d : PyData} (h : Lay n d) (hn : n ≤ 64) : SeqAt.shaped d = true := by
  unfold SeqAt.shaped
  rw [h.can, Bool.true_and]
  exact decide_eq_true (Nat.le_trans h.dep hn)
theorem Lay.eqv {n : Nat} {d : PyData} (h : Lay n d) : PyData.eqv d d = true := SeqAt.eqv_refl d h.can
theorem lay_none : Lay 0 .none := ⟨rfl, Nat.le_refl _⟩
theorem lay_bool (b : Bool) : Lay 0 (.bool b) := ⟨rfl, Nat.le_refl _⟩
theorem lay_int (i : Int) : Lay 0 (.int i) := ⟨rfl, Nat.le_refl _⟩
theorem lay_str {x : Str} (h : PyData.strOk x = true) : Lay 0 (.str x) := ⟨h, Nat.le_refl _⟩
theorem layAll {n : Nat} : ∀ {ds : List PyData}, (∀ d ∈ ds, Lay n d) → PyData.canLayAll0 ds = true ∧ PyData.depthAll ds ≤ n
  | [], _ => ⟨rfl, Nat.zero_le _⟩
  | d :: ds, h => by
    obtain ⟨h1, h2⟩ := layAll (ds := ds) fun x hx => h x (List.mem_cons_of_mem _ hx)
    have h0 := h d List.mem_cons_self
    refine ⟨?_, ?_⟩
    · show (d.canLay0 && PyData.canLayAll0 ds) = true
      rw [h0.can, h1]; rfl
    · show max d.depth (PyData.depthAll ds) ≤ n
      exact Nat.max_le.mpr ⟨h0.dep, h2⟩
theorem lay_list {n : Nat} {ds : List PyData} (h : ∀ d ∈ ds, Lay n d) : Lay (n + 1) (.list ds) := ⟨(layAll h).1, Nat.succ_le_succ (layAll h).2⟩
theorem lay_tuple {n : Nat} {ds : List PyData} (h : ∀ d ∈ ds, Lay n d) : Lay (n + 1) (.tuple ds) := ⟨(layAll h).1, Nat.succ_le_succ (layAll h).2⟩
theorem lay_map {α : Type} {n : Nat} {f : α → PyData} {l : List α} (h : ∀ x ∈ l, Lay n (f x)) : ∀ d ∈ l.map f, Lay n d := fun d hd => by
  obtain ⟨x, hx, rfl⟩ := List.mem_map.mp hd
  exact h x hx
theorem lay_nil {n : Nat} : ∀ d ∈ ([] : List PyData), Lay n d := fun d hd => nomatch hd
theorem lay_cons {n : Nat} {d : PyData} {ds : List PyData} (h : Lay n d) (t : ∀ x ∈ ds, Lay n x) : ∀ x ∈ d :: ds, Lay n x := fun x hx => (List.mem_cons.mp hx).elim (fun e => e ▸ h) (t x)
theorem dpAll_map {α : Type} {K : PySem.W.Frag} {H : Hp} {f : α → V} {g : α → PyData} : ∀ {l : List α}, (∀ x ∈ l, Dp K H (f x) (g x)) → DpAll K H (l.map f) (l.map g)
  | [], _ => .nil
  | x :: l, h => .cons (h x List.mem_cons_self) (dpAll_map fun y hy => h y (List.mem_cons_of_mem _ hy))
theorem dpAll_ints {K : PySem.W.Frag} {H : Hp} (ns : List Int) : DpAll K H (ns.map V.int) (ns.map PyData.int) := dpAll_map fun x _ => .int x
theorem dpAll_strs {K : PySem.W.Frag} {H : Hp} (xs : List Str) : DpAll K H (xs.map V.str) (xs.map PyData.str) := dpAll_map fun x _ => .str x
theorem eqv_nil {ns : List PyData} : PyData.eqv (.list ns) (.list []) = ns.isEmpty := by
  cases ns <;> rfl
theorem bits_lt {c : Int} {n : Nat} (h : Builtin.Int.intBits c ≤ n) : c.natAbs < 2 ^ n := by
  unfold Builtin.Int.intBits at h
  split at h
  · rename_i e
    have : c = 0 := by simpa using e
    subst this
    exact Nat.two_pow_pos n
  · rename_i e
    have h0 : c.natAbs ≠ 0 := fun z => e (by simp; omega)
    exact (Nat.log2_lt h0).mp (by omega)
end NM
namespace NM
open PySem PySem.Spec PyProof.Rows L2 HotX L2H
open LamX (ExtN Tabs)
/-! ### all but the tables of code objects stays -/
theorem ext_seq {K : PySem.W.Frag} {H H' : Hp} {a : Addr} {xs : List V} (e : ExtN H H') (h : SqL K H a xs) : SqL K H' a xs := by
  rcases h with (h | ⟨o, h⟩) | h
  · exact .inl (.inl (e _ _ h fun _ z => by cases z))
  · exact .inl (.inr ⟨o, e _ _ h fun _ z => by cases z⟩)
  · exact .inr h
theorem PtAt.ext {H H' : Hp} {v : V} {p : Pt} (h : PtAt H v p) (e : ExtN H H') : PtAt H' v p := by
  obtain ⟨a, r, h⟩ := h
  exact ⟨a, r, e _ _ h fun _ z => by cases z⟩
theorem Dat.ext {H H' : Hp} {v : V} (d : Dat H v) (s : ExtN H H') : Dat H' v := by
  cases v with
  | ref a => exact d.elim (fun ⟨xs, e⟩ => .inl ⟨xs, s _ _ e fun _ z => by cases z⟩) (fun ⟨xs, e⟩ => .inr ⟨xs, s _ _ e fun _ z => by cases z⟩)
  | non => trivial
  | bl _ => trivial
  | int _ => trivial
  | str _ => trivial
  | byt _ => exact d.elim
  | flt _ => exact d.elim
  | ty _ => exact d.elim
theorem tupOf_ext {H H' : Hp} {v : V} (d : Dat H v) (s : ExtN H H') : tupOf H' v = tupOf H v := by
  cases v with
  | ref a =>
    rcases d with ⟨xs, e⟩ | ⟨xs, e⟩
    · rw [tupOf_ref e, tupOf_ref (s _ _ e fun _ z => by cases z)]
    · have h1 : tupOf H (.ref a) = none := by simp [tupOf, e]
      have h2 : tupOf H' (.ref a) = none := by simp [tupOf, s _ _ e fun _ z => by cases z]
      rw [h1, h2]
  | non => rfl
  | bl _ => rfl
  | int _ => rfl
  | str _ => rfl
  | byt _ => rfl
  | flt _ => rfl
  | ty _ => rfl
theorem PD.ext {H H' : Hp} {v : V} (d : PD H v) (s : ExtN H H') : PD H' v := ⟨d.1.ext s, fun xs e => by
  rw [tupOf_ext d.1 s] at e
  exact ⟨(d.2 xs e).1, fun x hx => ((d.2 xs e).2 x hx).ext s⟩⟩
theorem isPoint_ext {H H' : Hp} {v : V} (d : PD H v) (s : ExtN H H') : isPoint H' v = isPoint H v := by
  unfold isPoint
  rw [tupOf_ext d.1 s]
theorem _root_.L2.Same.ext {H H' : Hp} (s : Same H H') : ExtN H H' := ExtN.of s
/-- a pair of texts, as == asks it -/
theorem dp_word {K : PySem.W.Frag} {H : Hp} {r : Addr} {x y : Str} (h : H r = some (.tup [.str x, .str y])) : Dp K H (.ref r) (.tuple [.str x, .str y]) := .tup (sqT h) (.cons (.str x) (.cons (.str y) .nil))
end NM
namespace NM
open PySem PySem.Spec PyProof.Rows L2 HotX L2H
open LamX (ExtN Tabs TabS CodeO)
theorem ext_upd {Hb H : Hp} {l : Addr} {o : HO} (e : ExtN Hb H) (n : Hb l = none) : ExtN Hb (upd H l o) := fun b x h k => by
  rw [upd_ne (ne_of_none h n)]
  exact e b x h k
theorem ext_upd' {H H3 H' : Hp} {l : Addr} {o : HO} (f3 : ExtN H H3) (nl : H3 l = none) (f : ExtN H H') : ExtN H (upd H' l o) := fun b x h k => by
  rw [upd_ne (ne_of_none (f3 b x h k) nl)]
  exact f b x h k
theorem codeO_lst {c : Addr} {q : Str} (xs : List V) : CodeO c q ≠ .lst xs := fun z => by
  unfold CodeO at z
  cases z
theorem tabs_upd {T : List (Addr × Str)} {H : Hp} {l : Addr} {xs : List V} {o : HO} (t : Tabs T H) (h : H l = some (.lst xs)) : Tabs T (upd H l o) := fun p hp => by
  obtain ⟨ps, h1, h2, h3⟩ := t p hp
  refine ⟨ps, ?_, h2, fun pos cv hc => ?_⟩
  · rw [upd_ne (ne_of h1 h (by intro z; cases z))]
    exact h1
  · obtain ⟨c, e1, e2⟩ := h3 pos cv hc
    refine ⟨c, e1, ?_⟩
    rw [upd_ne (ne_of e2 h (codeO_lst _))]
    exact e2
theorem ext_none {H H' : Hp} (e : ExtN H H') {l : Addr} (h : H' l = none) (ht : ∀ ps, H l ≠ some (.tbl ps)) : H l = none := by
  cases q : H l with
  | none => rfl
  | some o =>
    cases o with
    | tbl ps => exact absurd q (ht ps)
    | _ => rw [e l _ q (fun _ z => by cases z)] at h; cases h
theorem tup_ext {H H' : Hp} {r : Addr} {xs : List V} (e : ExtN H H') (h : H r = some (.tup xs)) : H' r = some (.tup xs) := e _ _ h fun _ z => by cases z
theorem lst_ext {H H' : Hp} {r : Addr} {xs : List V} (e : ExtN H H') (h : H r = some (.lst xs)) : H' r = some (.lst xs) := e _ _ h fun _ z => by cases z
theorem tup_upd {H : Hp} {r l : Addr} {xs ys : List V} {o : HO} (h : H r = some (.tup xs)) (hl : H l = some (.lst ys)) : (upd H l o) r = some (.tup xs) := by
  rw [upd_ne (ne_of h hl (by intro z; cases z))]
  exact h
theorem tup_new {H : Hp} {r l : Addr} {xs : List V} {o : HO} (h : H r = some (.tup xs)) (hl : H l = none) : (upd H l o) r = some (.tup xs) := by
  rw [upd_ne (ne_of_none h hl)]
  exact h
end NM
namespace NM
open PySem PySem.Spec PyProof.Rows L2 HotX L2H
/-! ### what is no point -/
theorem dat_flat {H : Hp} {v : V} (h : flatV v = true) : Dat H v := by
  cases v <;> first | trivial | cases h
theorem pd_flat {H : Hp} {v : V} (h : flatV v = true) : PD H v ∧ isPoint H v = false := by
  cases v <;> first | exact ⟨⟨trivial, fun xs e => nomatch e⟩, rfl⟩ | cases h
theorem pd_tup {H : Hp} {a : Addr} {xs : List V} (h : H a = some (.tup xs)) (hl : xs.length ≤ 1000) (hf : xs.all flatV = true) (hn : (decide (xs.length = 2) && xs.all (isCount 0 4095)) = false) : PD H (.ref a) ∧ isPoint H (.ref a) = false := by
  refine ⟨⟨.inl ⟨xs, h⟩, fun ys e => ?_⟩, ?_⟩
  · rw [tupOf_ref h] at e
    cases e
    exact ⟨hl, fun x hx => dat_flat (List.all_eq_true.mp hf x hx)⟩
  · unfold isPoint
    rw [tupOf_ref h]
    exact hn
theorem pd_lst {H : Hp} {a : Addr} {xs : List V} (h : H a = some (.lst xs)) : PD H (.ref a) ∧ isPoint H (.ref a) = false := by
  have e0 : tupOf H (.ref a) = none := by simp [tupOf, h]
  refine ⟨⟨.inr ⟨xs, h⟩, fun ys e => ?_⟩, ?_⟩
  · rw [e0] at e
    cases e
  · unfold isPoint
    rw [e0]
def AllBad (H : Hp) (xs : List V) : Prop := ∀ x ∈ xs, PD H x ∧ isPoint H x = false
theorem AllBad.nil {H : Hp} : AllBad H [] := fun _ h => nomatch h
theorem AllBad.cons {H : Hp} {x : V} {xs : List V} (h : PD H x ∧ isPoint H x = false) (t : AllBad H xs) : AllBad H (x :: xs) := fun y hy => (List.mem_cons.mp hy).elim (fun e => e ▸ h) (t y)
theorem AllBad.ext {H H' : Hp} {xs : List V} (h : AllBad H xs) (e : LamX.ExtN H H') : AllBad H' xs := fun x hx => ⟨(h x hx).1.ext e, (isPoint_ext (h x hx).1 e).trans (h x hx).2⟩
end NM
namespace NM
open PySem PySem.Spec PyProof.Rows L2 HotX L2H
/-- a word of a refusal, as data -/
def wordD (nm : Str) : PyData := .tuple [.str "refused", .str nm]
theorem lay_word {nm : Str} (h : PyData.strOk nm = true) : Lay 1 (wordD nm) := lay_tuple (lay_cons (lay_str (by decide +kernel)) (lay_cons (lay_str h) lay_nil))
theorem dp_words {K : PySem.W.Frag} {H : Hp} {nm : Str} : ∀ {rs : List Addr}, (∀ r ∈ rs, H r = some (.tup [.str "refused", .str nm])) → DpAll K H (rs.map V.ref) (List.replicate rs.length (wordD nm))
  | [], _ => .nil
  | r :: rs, h => .cons (dp_word (h r List.mem_cons_self)) (dp_words fun x hx => h x (List.mem_cons_of_mem _ hx))
theorem lay_words {nm : Str} (h : PyData.strOk nm = true) (n : Nat) : Lay 2 (.list (List.replicate n (wordD nm))) := lay_list fun d hd => by
  rw [List.eq_of_mem_replicate hd]
  exact lay_word h
theorem iteNB {b : Bool} {A B : Prop} (hb : b = true) (h : B) : if (!b) = true then A else B := by
  rw [hb]
  exact h
theorem iteT' {b : Bool} {A B : Prop} (hb : b = true) (h : A) : if b = true then A else B := by
  rw [hb]
  exact h
theorem iteF' {b : Bool} {A B : Prop} (hb : b = false) (h : B) : if b = true then A else B := by
  rw [hb]
  exact h
end NM

namespace NM
open PySem PySem.Spec PyProof.Rows L2 HotX L2H
/-! ### the order of texts -/
def ltS (a b : Str) : Bool := decide (a.cps.toList < b.cps.toList)
theorem ltS_irrefl (a : Str) : ltS a a = false := decide_eq_false (List.lt_irrefl _)
theorem ltS_trans {a b c : Str} (h1 : ltS a b = true) (h2 : ltS b c = true) : ltS a c = true := decide_eq_true (List.lt_trans (of_decide_eq_true h1) (of_decide_eq_true h2))
theorem str_ext {a b : Str} (h : a.cps.toList = b.cps.toList) : a = b := by
  cases a with
  | mk x =>
    cases b with
    | mk y =>
      have : x = y := by
        have h : x.toList = y.toList := h
        calc x = x.toList.toArray := by simp
          _ = y.toList.toArray := by rw [h]
          _ = y := by simp
      rw [this]
theorem ltS_tri (a b : Str) : a = b ∨ ltS a b = true ∨ ltS b a = true := by
  by_cases h1 : a.cps.toList < b.cps.toList
  · exact .inr (.inl (decide_eq_true h1))
  · by_cases h2 : b.cps.toList < a.cps.toList
    · exact .inr (.inr (decide_eq_true h2))
    · exact .inl (str_ext (List.le_antisymm (List.not_lt.mp h2) (List.not_lt.mp h1)))
theorem ltS_asym {a b : Str} (h : ltS a b = true) : ltS b a = false := by
  cases e : ltS b a with
  | false => rfl
  | true => exact absurd (ltS_trans h e) (by rw [ltS_irrefl]; decide)
/-! ### the order of ints and texts, and of lists of them -/
def ltKey : Key → Key → Bool
  | .inl i, .inl j => decide (i < j)
  | .inr x, .inr y => ltS x y
  | .inl _, .inr _ => true
  | .inr _, .inl _ => false
theorem ltKey_irrefl (a : Key) : ltKey a a = false := by
  cases a with
  | inl i => exact decide_eq_false (Int.lt_irrefl i)
  | inr x => exact ltS_irrefl x
theorem ltKey_trans {a b c : Key} (h1 : ltKey a b = true) (h2 : ltKey b c = true) : ltKey a c = true := by
  cases a <;> cases b <;> cases c <;> simp only [ltKey, decide_eq_true_eq] at * <;> first | omega | exact ltS_trans h1 h2 | contradiction
theorem ltKey_tri (a b : Key) : a = b ∨ ltKey a b = true ∨ ltKey b a = true := by
  cases a with
  | inl i =>
    cases b with
    | inl j =>
      simp only [ltKey, decide_eq_true_eq]
      rcases Int.lt_trichotomy i j with h | h | h
      · exact .inr (.inl h)
      · exact .inl (by rw [h])
      · exact .inr (.inr h)
    | inr y => exact .inr (.inl rfl)
  | inr x =>
    cases b with
    | inl j => exact .inr (.inr rfl)
    | inr y =>
      rcases ltS_tri x y with h | h | h
      · exact .inl (by rw [h])
      · exact .inr (.inl h)
      · exact .inr (.inr h)
def ltKs : List Key → List Key → Bool
  | [], [] => false
  | [], _ :: _ => true
  | _ :: _, [] => false
  | a :: r, b :: t => if a = b then ltKs r t else ltKey a b
theorem ltKs_irrefl : ∀ l : List Key, ltKs l l = false
  | [] => rfl
  | a :: r => by simp only [ltKs, if_true]; exact ltKs_irrefl r
theorem ltKs_trans : ∀ {a b c : List Key}, ltKs a b = true → ltKs b c = true → ltKs a c = true
  | [], [], _, h, _ => by cases h
  | [], _ :: _, [], _, h => by cases h
  | [], _ :: _, _ :: _, _, _ => rfl
  | _ :: _, [], _, h, _ => by cases h
  | _ :: _, _ :: _, [], _, h => by cases h
  | x :: a, y :: b, z :: c, h1, h2 => by
    simp only [ltKs] at h1 h2 ⊢
    by_cases e1 : x = y
    · rw [if_pos e1] at h1
      by_cases e2 : y = z
      · rw [if_pos e2] at h2
        rw [if_pos (e1.trans e2)]
        exact ltKs_trans h1 h2
      · rw [if_neg e2] at h2
        rw [if_neg (by rw [e1]; exact e2), e1]
        exact h2
    · rw [if_neg e1] at h1
      by_cases e2 : y = z
      · rw [if_neg (by rw [← e2]; exact e1), ← e2]
        exact h1
      · rw [if_neg e2] at h2
        have h3 := ltKey_trans h1 h2
        have e3 : x ≠ z := fun e => by
          rw [e, ltKey_irrefl] at h3
          cases h3
        rw [if_neg e3]
        exact h3
theorem ltKs_tri : ∀ a b : List Key, a = b ∨ ltKs a b = true ∨ ltKs b a = true
  | [], [] => .inl rfl
  | [], _ :: _ => .inr (.inl rfl)
  | _ :: _, [] => .inr (.inr rfl)
  | x :: a, y :: b => by
    simp only [ltKs]
    by_cases e : x = y
    · subst e
      simp only [if_true]
      rcases ltKs_tri a b with h | h | h
      · exact .inl (by rw [h])
      · exact .inr (.inl h)
      · exact .inr (.inr h)
    · rw [if_neg e, if_neg (fun z => e z.symm)]
      rcases ltKey_tri x y with h | h | h
      · exact absurd h e
      · exact .inr (.inl h)
      · exact .inr (.inr h)
/-- a strict total order is one that sorts take -/
theorem swo_of {α β : Type} {lt : β → β → Bool} (k : α → β) (ir : ∀ a, lt a a = false) (tr : ∀ {a b c}, lt a b = true → lt b c = true → lt a c = true) (tri : ∀ a b, a = b ∨ lt a b = true ∨ lt b a = true) : SrtO.Swo fun x y => lt (k x) (k y) := by
  have asym : ∀ a b, lt a b = true → lt b a = false := fun a b h => by
    cases e : lt b a with
    | false => rfl
    | true => have := tr h e; rw [ir] at this; cases this
  refine ⟨fun x y h => asym _ _ h, fun x y z h1 h2 => ?_⟩
  cases e : lt (k z) (k x) with
  | false => rfl
  | true =>
    rcases tri (k y) (k z) with h | h | h
    · rw [h, e] at h1; cases h1
    · rw [tr h e] at h1; cases h1
    · rw [h] at h2; cases h2
theorem swo_ks {α : Type} (k : α → List Key) : SrtO.Swo fun x y => ltKs (k x) (k y) := swo_of k ltKs_irrefl ltKs_trans ltKs_tri
theorem swo_str {α : Type} (k : α → Str) : SrtO.Swo fun x y => ltS (k x) (k y) := swo_of k ltS_irrefl ltS_trans ltS_tri
/-! ### two lists of keys that Python compares: at each place of one kind -/
def Alike : List Key → List Key → Prop
  | a :: r, b :: t => a.isLeft = b.isLeft ∧ Alike r t
  | _, _ => True
section
variable {prog : Program} {w : World} {A : Around} {E : Value → Shared → Prop} {s : Shared}
theorem oneLt_key (c : Bool) {a b : Key} {u v : Value} {Q : Bool → Shared → Prop} (hu : keyIs a u = true) (hv : keyIs b v = true) (al : a.isLeft = b.isLeft) (h : Q (ltKey a b) s) : wpAny (model prog w) A (oneLt' c u v) Q E s := by
  rcases keyIs_shape hu with ⟨i, t, rfl, rfl⟩ | ⟨x, t, rfl, rfl⟩
  · rcases keyIs_shape hv with ⟨j, t', rfl, rfl⟩ | ⟨y, t', rfl, rfl⟩
    · cases c with
      | true => exact oneLt_int h
      | false => exact PySem.W.kat_one _ _ (PyProof.Rows.lt_int (Q := PySem.W.BoolBack Q) h)
    · cases al
  · rcases keyIs_shape hv with ⟨j, t', rfl, rfl⟩ | ⟨y, t', rfl, rfl⟩
    · cases al
    · cases c with
      | true => exact oneLt_str h
      | false => exact PySem.W.kat_one _ _ (lt_str (Q := PySem.W.BoolBack Q) h)
theorem eq_key {a b : Key} {u v : Value} {Q : Bool → Shared → Prop} (hu : keyIs a u = true) (hv : keyIs b v = true) (h : Q (decide (a = b)) s) : wpAny (model prog w) A (eqBool u v) Q E s :=
  (mixKind prog w).eqBool hu hv h
theorem lex_keys {b : Bool} {Q : Bool → Shared → Prop} : ∀ {xs ys : List Value} {ks ms : List Key} (i : Nat), Paired (fun k u => keyIs k u = true) ks xs → Paired (fun k u => keyIs k u = true) ms ys → Alike ks ms → Q (ltKs ks ms) s →
    PySem.W.KatLex prog w A b (decide (xs.length < ys.length)) Q (xs.zip ys) i s
  | _, _, _, _, _, .nil, .nil, _, h => PySem.W.kat_nil h
  | _, _, _, _, _, .nil, .cons _ _, _, h => PySem.W.kat_nil h
  | _, _, _, _, _, .cons _ _, .nil, _, h => PySem.W.kat_nil h
  | _, _, _, _, i, .cons (a := k) (b := u) hk t, .cons (a := m) (b := v) hm t', al, h => by
    refine PySem.W.kat_cons (eq_key hk hm ?_)
    refine PySem.W.kat_go (fun e => ?_) (fun e => ?_)
    · have e : k = m := of_decide_eq_true e
      refine PySem.W.kat_yes ?_
      simp only [ltKs, if_pos e] at h
      have z := lex_keys (b := b) (i + 1) t t' al.2 h
      have e2 : ∀ {x y : Value} {l m : List Value}, decide ((x :: l).length < (y :: m).length) = decide (l.length < m.length) := fun {x y l m} => by simp
      rw [e2]
      exact z
    · have e : ¬ k = m := of_decide_eq_false e
      refine PySem.W.kat_no (oneLt_key _ hk hm al.1 ?_)
      simp only [ltKs, if_neg e] at h
      exact h
/-- v is a tuple of the keys ks -/
def IsKs (h : Heap) (v : Value) (ks : List Key) : Prop := ∃ a o xs n, v = .ref a ∧ h.get? a = some o ∧ o.cls = .type "tuple" ∧ o.data = .seq xs n ∧ Paired (fun k u => keyIs k u = true) ks xs.toList
theorem IsKs.keeps {h h' : Heap} {v : Value} {ks : List Key} (x : IsKs h v ks) (k : ∀ b o, h.get? b = some o → o.cls = .type "tuple" → h'.get? b = some o) : IsKs h' v ks := by
  obtain ⟨a, o, xs, n, e, ho, hc, hd, p⟩ := x
  exact ⟨a, o, xs, n, e, k a o ho hc, hc, hd, p⟩
theorem ks_cmp {vs : List Value} {k : Value → List Key} (hp : ∀ v ∈ vs, IsKs s.heap v (k v)) (al : ∀ v ∈ vs, ∀ u ∈ vs, Alike (k v) (k u)) : SrtO.Cmp prog w A s (tuples' true) (fun p => p.1 ∈ vs) (SrtO.lt2 fun v u => ltKs (k v) (k u)) := by
  intro p q hm hm'
  have h1 := hp _ hm
  have h2 := hp _ hm'
  have ha := al _ hm _ hm'
  show wpAny (model prog w) A (keyLt' (tuples' true) p.1 q.1) (fun r s' => s' = s ∧ r = ltKs (k p.1) (k q.1)) (fun _ _ => False) s
  obtain ⟨a, o, xs, n, e, ho, hc, hd, pr⟩ := h1
  obtain ⟨a', o', xs', n', e', ho', hc', hd', pr'⟩ := h2
  generalize k p.1 = ks at pr ha ⊢
  generalize k q.1 = ms at pr' ha ⊢
  rw [e, e']
  refine PySem.W.kat_lt ho hd ho' hd' ?_
  have := lex_keys (prog := prog) (w := w) (A := A) (b := true) (Q := fun r s' => s' = s ∧ r = ltKs ks ms) 0 pr pr' ha ⟨rfl, rfl⟩
  simpa using this
theorem ks_firsts {h : Heap} {k : Value → List Key} {L : Bool} : ∀ {vs : List Value}, (∀ v ∈ vs, IsKs h v (k v) ∧ ∃ x r, k v = x :: r ∧ x.isLeft = L) → ∃ fs, PySem.W.KatTups h vs fs ∧ fs.length = vs.length ∧ ∀ f ∈ fs, ∃ x, keyIs x f = true ∧ x.isLeft = L
  | [], _ => ⟨[], .nil, rfl, fun _ h => nomatch h⟩
  | v :: vs, hp => by
    obtain ⟨fs, h1, h2, h3⟩ := ks_firsts (vs := vs) fun u hu => hp u (List.mem_cons_of_mem _ hu)
    obtain ⟨⟨a, o, xs, n, e, ho, hc, hd, pr⟩, x, r, ek, hx⟩ := hp v List.mem_cons_self
    rw [ek] at pr
    cases hxs : xs.toList with
    | nil => rw [hxs] at pr; cases pr
    | cons u us =>
      rw [hxs] at pr
      cases pr with
      | cons hk t =>
        refine ⟨u :: fs, ?_, by simp [h2], fun f hf => (List.mem_cons.mp hf).elim (fun z => by rw [z]; exact ⟨x, hk, hx⟩) (h3 f)⟩
        rw [e]
        refine PySem.W.KatTups.cons ho hc hd ?_ h1
        rw [← Array.getElem?_toList, hxs]
        rfl
theorem ks_sortable {a : Addr} {vs : List Value} {k : Value → List Key} {L : Bool} (h0 : 0 < vs.length) (hp : ∀ v ∈ vs, IsKs s.heap v (k v) ∧ ∃ x r, k v = x :: r ∧ x.isLeft = L) (al : ∀ v ∈ vs, ∀ u ∈ vs, Alike (k v) (k u)) (ha : ∀ o, s.heap.get? a = some o → o.cls ≠ .type "tuple") :
    SrtO.SortableO prog w A s a vs fun v u => ltKs (k v) (k u) := by
  intro h' keep
  have hp' : ∀ v ∈ vs, IsKs h' v (k v) := fun v hm => (hp v hm).1.keeps fun b o e c => keep b o (fun z => by subst z; exact ha o e c) e
  obtain ⟨fs, h1, h2, h3⟩ := ks_firsts (h := h') (L := L) fun v hm => ⟨hp' v hm, (hp v hm).2⟩
  refine ⟨tuples' true, fun Q E hq => ?_, ks_cmp hp' al⟩
  cases L with
  | true =>
    refine PySem.W.kat_kind (T := .type "int") h1 (by omega) (fun f hm => ?_) (by rfl) ?_
    · obtain ⟨x, hx, hl⟩ := h3 f hm
      rcases keyIs_shape hx with ⟨i, t, rfl, rfl⟩ | ⟨y, t, rfl, rfl⟩
      · exact PySem.W.Looks.now
      · cases hl
    · have e : (Value.type "int" != Value.type "tuple") = true := by first | decide +kernel | rfl | decide
      rw [e]
      exact hq
  | false =>
    refine PySem.W.kat_kind (T := .type "str") h1 (by omega) (fun f hm => ?_) (by rfl) ?_
    · obtain ⟨x, hx, hl⟩ := h3 f hm
      rcases keyIs_shape hx with ⟨i, t, rfl, rfl⟩ | ⟨y, t, rfl, rfl⟩
      · cases hl
      · exact PySem.W.Looks.now
    · have e : (Value.type "str" != Value.type "tuple") = true := by first | decide +kernel | rfl | decide
      rw [e]
      exact hq
end
/-- sorted(xs), xs a list of tuples of ints and texts, at each place of one kind, none empty (k says which) -/
def rSortedK (K : PySem.W.Frag) : List V → Hp → VK → Prop := fun vs H Q => ∃ (a : Addr) (xs : List V) (k : V → List Key) (L : Bool), vs = [V.ref a] ∧ SqL K H a xs ∧ (∀ x ∈ xs, (∃ t, x = V.ref t ∧ H t = some (.tup ((k x).map kV))) ∧ ∃ y r, k x = y :: r ∧ y.isLeft = L) ∧ (∀ x ∈ xs, ∀ y ∈ xs, Alike (k x) (k y)) ∧
  ∀ ys p, ys.Perm xs → ys.Pairwise (fun x y => ltKs (k y) (k x) = false) → H p = none → Q (.ref p) (upd H p (.lst ys))
theorem vals_keys : ∀ {ks : List Key} {us : List Value}, Vals (ks.map kV) us → Paired (fun k u => keyIs k u = true) ks us
  | [], _, .nil => .nil
  | .inl i :: ks, _, .cons r t => .cons (by obtain ⟨t, rfl⟩ := r; exact keyIs_int i t) (vals_keys t)
  | .inr x :: ks, _, .cons r t => .cons (by obtain ⟨t, rfl⟩ := r; exact keyIs_str x t) (vals_keys t)
theorem cr_sortedK {X : Cx} : CallR X (.builtin "sorted") (rSortedK X.K) := by
  intro pins s σ H vs us Q I r h
  obtain ⟨a, xs, k, L, rfl, hs, hx, al, q⟩ := h
  obtain ⟨its, rv, hl, hz⟩ := I.list hs
  obtain ⟨u, rfl, ru⟩ := vals1 r
  obtain rfl : u = Value.ref a := ru
  obtain ⟨e1, e2⟩ := refs_back rv fun x m => by
    obtain ⟨⟨t, e, _⟩, _⟩ := hx x m
    exact ⟨t, e⟩
  have hb : ∀ v ∈ its, backV v ∈ xs := fun v hv => by rw [e1]; exact List.mem_map.mpr ⟨_, hv, rfl⟩
  have hk : ∀ v ∈ its, IsKs s.heap v (k (backV v)) ∧ ∃ y r, k (backV v) = y :: r ∧ y.isLeft = L := fun v hv => by
    obtain ⟨t, rfl⟩ := e2 v hv
    obtain ⟨⟨t', e, ht⟩, hf⟩ := hx _ (hb _ hv)
    refine ⟨?_, hf⟩
    obtain rfl : t = t' := by
      have e : V.ref t = V.ref t' := e
      injection e
    obtain ⟨_, its2, r2, o, ho, hc, n, hd⟩ := I.hok _ _ ht
    exact ⟨t, o, _, n, rfl, ho, hc, hd, by simpa using vals_keys r2⟩
  refine SrtO.sorted_ord (swo_ks fun u => k (backV u)) hl.isList (by rw [← rv.length]; exact hz) (fun h2 h₁ d ha kk => ?_) fun out hs hb2 => ?_
  · refine ks_sortable (s := { s with heap := h₁ }) (L := L) (by omega) (fun v hm => ⟨(hk v hm).1.keeps fun b o e _ => (kk b o e).2, (hk v hm).2⟩) (fun v hv u hu => al _ (hb v hv) _ (hb u hu)) fun o e => ?_
    have e' : some o = some (seqObj "list" its.toArray 0) := e.symm.trans ha
    cases e'
    intro c
    exact absurd (Value.type.inj c) (by decide)
  · have h3 : ∀ u ∈ out, ∃ a, u = Value.ref a := fun u hu => e2 u (hb2.perm.mem_iff.mp hu)
    obtain ⟨n, hn⟩ := PyProof.Rows.sortedAll_at s.heap its out.toArray
    have pm : (out.map backV).Perm xs := by rw [e1]; exact hb2.perm.map _
    have sr : (out.map backV).Pairwise (fun x y => ltKs (k y) (k x) = false) := List.pairwise_map.mpr hs
    have hd : s.heap.objs.size ≤ s.heap.objs.size + 1 := Nat.le_succ _
    refine ⟨.ref (s.heap.objs.size + 1), upd H (s.heap.objs.size + 1) (.lst (out.map backV)), I.laid (t' := s.toks) (fun b o e => PyProof.Rows.sortedAll_old e) hd ⟨?_, out, n, vals_back h3, hn⟩, rfl, q _ _ pm sr (I.hok.fresh hd)⟩
    rw [pm.length_eq]
    exact hz
end NM

namespace NM
open PySem L2
/-! ### names, sorted -/
def leS (a b : Str) : Bool := !ltS b a
theorem leS_total (a b : Str) : (leS a b || leS b a) = true := by
  unfold leS
  rcases ltS_tri a b with h | h | h
  · subst h; rw [ltS_irrefl]; rfl
  · rw [ltS_asym h]; rfl
  · rw [ltS_asym h, Bool.or_true']
where Bool.or_true' : ∀ {b : Bool}, (b || !false) = true := fun {b} => by cases b <;> rfl
theorem leS_trans (a b c : Str) (h1 : leS a b = true) (h2 : leS b c = true) : leS a c = true := by
  unfold leS at *
  have h1 : ltS b a = false := by simpa using h1
  have h2 : ltS c b = false := by simpa using h2
  rcases ltS_tri a b with h | h | h
  · subst h; rw [h2]; rfl
  · rcases ltS_tri b c with h' | h' | h'
    · subst h'; rw [h1]; rfl
    · rw [ltS_asym (ltS_trans h h')]; rfl
    · rw [h'] at h2; cases h2
  · rw [h] at h1; cases h1
theorem leS_antisymm {a b : Str} (h1 : leS a b = true) (h2 : leS b a = true) : a = b := by
  unfold leS at *
  rcases ltS_tri a b with h | h | h
  · exact h
  · rw [h] at h2; cases h2
  · rw [h] at h1; cases h1
theorem leS_of_lt {a b : Str} (h : ltS a b = true) : leS a b = true := by unfold leS; rw [ltS_asym h]; rfl
theorem leS_refl (a : Str) : leS a a = true := by unfold leS; rw [ltS_irrefl]; rfl
def sortS (l : List Str) : List Str := l.mergeSort leS
theorem sortS_perm (l : List Str) : (sortS l).Perm l := List.mergeSort_perm l leS
theorem sortS_sorted (l : List Str) : (sortS l).Pairwise (fun a b => leS a b = true) := List.pairwise_mergeSort leS_trans leS_total l
theorem mem_sortS {l : List Str} {x : Str} : x ∈ sortS l ↔ x ∈ l := (sortS_perm l).mem_iff
theorem sortS_len (l : List Str) : (sortS l).length = l.length := (sortS_perm l).length_eq
theorem sorted_uniq {l m : List Str} (h : l.Perm m) (hl : l.Pairwise (fun a b => leS a b = true)) (hm : m.Pairwise (fun a b => leS a b = true)) : l = m :=
  List.Perm.eq_of_pairwise (fun a b _ _ h1 h2 => leS_antisymm h1 h2) hl hm h
theorem sortS_of {l m : List Str} (h : l.Perm m) (hl : l.Pairwise (fun a b => leS a b = true)) : l = sortS m := sorted_uniq (h.trans (sortS_perm m).symm) hl (sortS_sorted m)
theorem sortS_nodup {l : List Str} (h : l.Nodup) : (sortS l).Nodup := (sortS_perm l).nodup_iff.mpr h
theorem sorted_lt {l : List Str} (hl : l.Pairwise (fun a b => leS a b = true)) (hn : l.Nodup) : l.Pairwise (fun a b => ltS a b = true) := by
  refine List.Pairwise.imp₂ (fun a b h1 h2 => ?_) hl hn
  unfold leS at h1
  rcases ltS_tri a b with h | h | h
  · exact absurd h h2
  · exact h
  · rw [h] at h1; cases h1
theorem sorted_filter {l : List Str} (hl : l.Pairwise (fun a b => leS a b = true)) (p : Str → Bool) : (l.filter p).Pairwise (fun a b => leS a b = true) := hl.filter p
/-- the first of a sorted list is the least -/
theorem head_le {x : Str} {l : List Str} (h : (x :: l).Pairwise (fun a b => leS a b = true)) : ∀ y ∈ x :: l, leS x y = true := fun y hy => by
  rcases List.mem_cons.mp hy with e | hy
  · rw [e]; exact leS_refl x
  · exact (List.pairwise_cons.mp h).1 y hy
/-! ### who is reached: R near, L all names -/
inductive Rch (R : Str → Str → Bool) (L : List Str) : Str → Str → Prop
  | refl {a : Str} : a ∈ L → Rch R L a a
  | step {a b c : Str} : Rch R L a b → c ∈ L → R b c = true → Rch R L a c
section
variable {R : Str → Str → Bool} {L : List Str}
theorem Rch.left {a b : Str} (h : Rch R L a b) : a ∈ L := by
  induction h with
  | refl m => exact m
  | step _ _ _ ih => exact ih
theorem Rch.right {a b : Str} (h : Rch R L a b) : b ∈ L := by
  cases h with
  | refl m => exact m
  | step _ m _ => exact m
theorem Rch.trans {a b c : Str} (h1 : Rch R L a b) (h2 : Rch R L b c) : Rch R L a c := by
  induction h2 with
  | refl _ => exact h1
  | step _ m r ih => exact .step ih m r
theorem Rch.one {a b : Str} (ha : a ∈ L) (hb : b ∈ L) (r : R a b = true) : Rch R L a b := .step (.refl ha) hb r
theorem Rch.symm (hR : ∀ a b, R a b = R b a) {a b : Str} (h : Rch R L a b) : Rch R L b a := by
  induction h with
  | refl m => exact .refl m
  | step h m r ih => exact (Rch.one m h.right (by rw [hR]; exact r)).trans ih
/-- a way stays within what is closed -/
theorem Rch.stay {C : Str → Prop} (hC : ∀ a b, C a → a ∈ L → b ∈ L → R a b = true → C b) {a b : Str} (h : Rch R L a b) (ha : C a) : C b := by
  induction h with
  | refl _ => exact ha
  | step h m r ih => exact hC _ _ ih h.right m r
/-- the same names, near alike -/
theorem Rch.mono {R' : Str → Str → Bool} {L' : List Str} (hL : ∀ x ∈ L, x ∈ L') (hR : ∀ a ∈ L, ∀ b ∈ L, R a b = true → R' a b = true) {a b : Str} (h : Rch R L a b) : Rch R' L' a b := by
  induction h with
  | refl m => exact .refl (hL _ m)
  | step h m r ih => exact .step ih (hL _ m) (hR _ h.right _ m r)
/-! ### the least name of a heap -/
open Classical in
noncomputable def hd (R : Str → Str → Bool) (L : List Str) (n : Str) : Str := ((sortS L).find? fun m => decide (Rch R L n m)).getD n
theorem hd_spec {n : Str} (hn : n ∈ L) : Rch R L n (hd R L n) ∧ ∀ m, Rch R L n m → leS (hd R L n) m = true := by
  classical
  unfold hd
  cases e : (sortS L).find? fun m => decide (Rch R L n m) with
  | none =>
    have := List.find?_eq_none.mp e n (mem_sortS.mpr hn)
    exact absurd (decide_eq_true (Rch.refl hn)) this
  | some x =>
    refine ⟨by simpa using List.find?_some e, fun m hm => ?_⟩
    obtain ⟨_, l, r, es, hl⟩ := List.find?_eq_some_iff_append.mp e
    have hs := sortS_sorted L
    rw [es] at hs
    have hm2 : m ∈ l ++ x :: r := by rw [← es]; exact mem_sortS.mpr hm.right
    rcases List.mem_append.mp hm2 with h | h
    · have := hl m h
      simp [hm] at this
    · exact head_le (List.pairwise_append.mp hs).2.1 m h
theorem hd_rch {n : Str} (hn : n ∈ L) : Rch R L n (hd R L n) := (hd_spec hn).1
theorem hd_mem {n : Str} (hn : n ∈ L) : hd R L n ∈ L := (hd_rch hn).right
theorem hd_le {n m : Str} (h : Rch R L n m) : leS (hd R L n) m = true := (hd_spec h.left).2 m h
theorem hd_eq (hR : ∀ a b, R a b = R b a) {n m : Str} (h : Rch R L n m) : hd R L n = hd R L m :=
  leS_antisymm (hd_le (h.trans (hd_rch h.right))) (hd_le ((h.symm hR).trans (hd_rch h.left)))
theorem hd_iff (hR : ∀ a b, R a b = R b a) {n m : Str} (hn : n ∈ L) (hm : m ∈ L) : hd R L n = hd R L m ↔ Rch R L n m := by
  refine ⟨fun e => ?_, hd_eq hR⟩
  have h1 := hd_rch (R := R) hn
  rw [e] at h1
  exact h1.trans ((hd_rch hm).symm hR)
theorem hd_hd (hR : ∀ a b, R a b = R b a) {n : Str} (hn : n ∈ L) : hd R L (hd R L n) = hd R L n := (hd_eq hR (hd_rch hn)).symm
/-- whatever is constant where things are near, is reached, and is never above, is the head -/
theorem hd_char {f : Str → Str} (hR : ∀ a b, R a b = R b a) (h1 : ∀ n ∈ L, Rch R L n (f n)) (h2 : ∀ a ∈ L, ∀ b ∈ L, R a b = true → f a = f b) (h3 : ∀ n ∈ L, leS (f n) n = true) : ∀ n ∈ L, f n = hd R L n := fun n hn => by
  have key : ∀ {a b}, Rch R L a b → f a = f b := fun {a b} h => by
    induction h with
    | refl _ => rfl
    | step h m r ih => exact ih.trans (h2 _ h.right _ m r)
  have e := key (hd_rch (R := R) hn)
  have m := hd_mem (R := R) hn
  have le1 := h3 _ m
  rw [← e] at le1
  exact leS_antisymm le1 (hd_le (h1 n hn))
/-! ### the heaps: their heads, their rows -/
noncomputable def headsOf (R : Str → Str → Bool) (L : List Str) : List Str := (sortS L).filter fun n => decide (hd R L n = n)
noncomputable def rowOf (R : Str → Str → Bool) (L : List Str) (h : Str) : List Str := (sortS L).filter fun n => decide (hd R L n = h)
noncomputable def rowsOf (R : Str → Str → Bool) (L : List Str) : List (List Str) := (headsOf R L).map (rowOf R L)
theorem mem_rowOf {h n : Str} : n ∈ rowOf R L h ↔ n ∈ L ∧ hd R L n = h := by
  unfold rowOf
  rw [List.mem_filter, mem_sortS]
  simp
theorem mem_headsOf {h : Str} : h ∈ headsOf R L ↔ h ∈ L ∧ hd R L h = h := by
  unfold headsOf
  rw [List.mem_filter, mem_sortS]
  simp
theorem heads_sorted : (headsOf R L).Pairwise (fun a b => leS a b = true) := (sortS_sorted L).filter _
theorem heads_nodup (hL : L.Nodup) : (headsOf R L).Nodup := (sortS_nodup hL).filter _
theorem row_sorted (h : Str) : (rowOf R L h).Pairwise (fun a b => leS a b = true) := (sortS_sorted L).filter _
theorem row_nodup (hL : L.Nodup) (h : Str) : (rowOf R L h).Nodup := (sortS_nodup hL).filter _
/-- the head is the row's first -/
theorem row_head (hL : L.Nodup) {h : Str} (hh : h ∈ headsOf R L) : ∃ r, rowOf R L h = h :: r := by
  obtain ⟨m, e⟩ := mem_headsOf.mp hh
  have hm : h ∈ rowOf R L h := mem_rowOf.mpr ⟨m, e⟩
  have hs := row_sorted (R := R) (L := L) h
  cases er : rowOf R L h with
  | nil => rw [er] at hm; cases hm
  | cons x r =>
    rw [er] at hs hm
    have hx : x ∈ rowOf R L h := by rw [er]; exact List.mem_cons_self
    obtain ⟨xm, xe⟩ := mem_rowOf.mp hx
    have l1 := head_le hs h hm
    have l2 : leS h x = true := by
      rw [← xe]
      exact hd_le (.refl xm)
    exact ⟨r, by rw [leS_antisymm l2 l1]⟩
end
/-! ### gathered one after another -/
section
variable {R : Str → Str → Bool} {L : List Str}
noncomputable def compsOf (R : Str → Str → Bool) (L : List Str) (l : List Str) : List (List Str) := (l.filter fun y => decide (hd R L y = y)).map fun h => l.filter fun y => decide (hd R L y = h)
theorem comps_all : compsOf R L (sortS L) = rowsOf R L := rfl
theorem comps_nil : compsOf R L [] = [] := rfl
/-- l: sorted, none twice, closed -/
structure Clsd (R : Str → Str → Bool) (L : List Str) (l : List Str) : Prop where
  sorted : l.Pairwise (fun a b => leS a b = true)
  nodup : l.Nodup
  sub : ∀ x ∈ l, x ∈ L
  closed : ∀ x ∈ l, ∀ y ∈ L, R x y = true → y ∈ l
theorem clsd_all (hL : L.Nodup) : Clsd R L (sortS L) := ⟨sortS_sorted L, sortS_nodup hL, fun _ h => mem_sortS.mp h, fun _ _ y hy _ => mem_sortS.mpr hy⟩
theorem Clsd.rch {l : List Str} (c : Clsd R L l) {x y : Str} (h : Rch R L x y) (hx : x ∈ l) : y ∈ l := h.stay (C := fun z => z ∈ l) (fun a b ha _ hb r => c.closed a ha b hb r) hx
theorem Clsd.first (hR : ∀ a b, R a b = R b a) {x : Str} {l : List Str} (c : Clsd R L (x :: l)) : hd R L x = x := by
  have hx := c.sub x List.mem_cons_self
  have m := c.rch (hd_rch (R := R) hx) List.mem_cons_self
  exact leS_antisymm (hd_le (.refl hx)) (head_le c.sorted _ m)
theorem filter_congr' {α : Type} {p q : α → Bool} : ∀ {l : List α}, (∀ x ∈ l, p x = q x) → l.filter p = l.filter q
  | [], _ => rfl
  | x :: l, h => by
    have h1 := h x List.mem_cons_self
    have h2 := filter_congr' (l := l) fun y hy => h y (List.mem_cons_of_mem _ hy)
    simp only [List.filter_cons, h1, h2]
theorem comps_cons (hR : ∀ a b, R a b = R b a) {x : Str} {l : List Str} (c : Clsd R L (x :: l)) :
    compsOf R L (x :: l) = ((x :: l).filter fun y => decide (hd R L y = x)) :: compsOf R L (l.filter fun y => !decide (hd R L y = x)) := by
  have hx := c.first hR
  have nx : x ∉ l := (List.nodup_cons.mp c.nodup).1
  unfold compsOf
  rw [List.filter_cons, if_pos (by simpa using hx), List.map_cons]
  have e1 : (l.filter fun y => !decide (hd R L y = x)).filter (fun y => decide (hd R L y = y)) = l.filter fun y => decide (hd R L y = y) := by
    rw [List.filter_filter]
    refine filter_congr' fun y hy => ?_
    by_cases h : hd R L y = y
    · have : ¬ hd R L y = x := fun e => nx (by rw [← e, h]; exact hy)
      simp [h, this]
      intro e
      exact this (h.trans e)
    · simp [h]
  rw [e1]
  congr 1
  refine List.map_congr_left fun h hh => ?_
  obtain ⟨hh1, hh2⟩ := List.mem_filter.mp hh
  have hh2 : hd R L h = h := by simpa using hh2
  have hne : h ≠ x := fun e => nx (e ▸ hh1)
  rw [List.filter_cons, if_neg (by simp [hx]; exact fun e => hne e.symm), List.filter_filter]
  refine filter_congr' fun y hy => ?_
  by_cases e : hd R L y = h
  · simp [e, hne]
  · simp [e]
theorem Clsd.rest (hR : ∀ a b, R a b = R b a) {x : Str} {l : List Str} (c : Clsd R L (x :: l)) : Clsd R L (l.filter fun y => !decide (hd R L y = x)) := by
  have cl := List.pairwise_cons.mp c.sorted
  refine ⟨cl.2.filter _, (List.nodup_cons.mp c.nodup).2.filter _, fun y hy => c.sub y (List.mem_cons_of_mem _ (List.mem_filter.mp hy).1), fun y hy z hz r => ?_⟩
  obtain ⟨h1, h2⟩ := List.mem_filter.mp hy
  have h2 : ¬ hd R L y = x := by simpa using h2
  have hyL := c.sub y (List.mem_cons_of_mem _ h1)
  have e := hd_eq hR (Rch.one hyL hz r)
  have m := c.closed y (List.mem_cons_of_mem _ h1) z hz r
  refine List.mem_filter.mpr ⟨?_, by simpa [← e] using h2⟩
  rcases List.mem_cons.mp m with q | q
  · exact absurd (e.trans (by rw [q]; exact c.first hR)) h2
  · exact q
/-- in the midst of gathering the heap of x out of x :: l -/
structure Gath (R : Str → Str → Bool) (L : List Str) (x : Str) (l row fresh left : List Str) : Prop where
  perm : (row ++ fresh ++ left).Perm (x :: l)
  reach : ∀ y ∈ row ++ fresh, Rch R L x y
  far : ∀ y ∈ row, ∀ z ∈ left, R y z = false
  sorted : left.Pairwise (fun a b => leS a b = true)
  has : x ∈ row ++ fresh
theorem gath_start {x : Str} {l : List Str} (c : Clsd R L (x :: l)) : Gath R L x l [] [x] l where
  perm := List.Perm.refl _
  reach := fun y hy => by
    have e : y = x := by simpa using hy
    rw [e]
    exact .refl (c.sub x List.mem_cons_self)
  far := fun _ h => nomatch h
  sorted := (List.pairwise_cons.mp c.sorted).2
  has := by simp
theorem perm_part {α : Type} (p : α → Bool) : ∀ l : List α, (l.filter p ++ l.filter fun x => !p x).Perm l
  | [] => .refl _
  | x :: l => by
    cases h : p x with
    | true =>
      simp only [List.filter_cons, h, if_true, Bool.not_true, List.cons_append, Bool.false_eq_true, if_false]
      exact (perm_part p l).cons x
    | false =>
      simp only [List.filter_cons, h, Bool.false_eq_true, if_false, Bool.not_false, if_true]
      exact List.perm_middle.trans ((perm_part p l).cons x)
theorem Gath.next {x n : Str} {l row fr left : List Str} (c : Clsd R L (x :: l)) (g : Gath R L x l row (fr ++ [n]) left) : Gath R L x l (row ++ [n]) (fr ++ left.filter (R n)) (left.filter fun z => !R n z) := by
  have hsub : ∀ z ∈ left, z ∈ L := fun z hz => c.sub z (g.perm.mem_iff.mp (List.mem_append_right _ hz))
  refine ⟨?_, fun y hy => ?_, fun y hy z hz => ?_, g.sorted.filter _, ?_⟩
  · refine List.Perm.trans ?_ g.perm
    have h1 : (row ++ [n] ++ (fr ++ left.filter (R n)) ++ left.filter fun z => !R n z) = row ++ ([n] ++ fr) ++ (left.filter (R n) ++ left.filter fun z => !R n z) := by simp
    rw [h1]
    exact (List.Perm.append_left row List.perm_append_comm).append (perm_part (R n) left)
  · simp only [List.mem_append, List.mem_singleton, List.mem_filter] at hy
    rcases hy with (h | h) | (h | ⟨h, h'⟩)
    · exact g.reach y (by simp [h])
    · exact g.reach y (by simp [h])
    · exact g.reach y (by simp [h])
    · exact .step (g.reach n (by simp)) (hsub y h) h'
  · obtain ⟨h1, h2⟩ := List.mem_filter.mp hz
    rcases List.mem_append.mp hy with h | h
    · exact g.far y h z h1
    · have e : y = n := by simpa using h
      rw [e]
      simpa using h2
  · have := g.has
    simp only [List.mem_append, List.mem_singleton] at this ⊢
    rcases this with h | h | h
    · exact .inl (.inl h)
    · exact .inr (.inl h)
    · exact .inl (.inr h)
theorem Gath.done (hR : ∀ a b, R a b = R b a) {x : Str} {l row left : List Str} (c : Clsd R L (x :: l)) (g : Gath R L x l row [] left) :
    row.Perm ((x :: l).filter fun y => decide (hd R L y = x)) ∧ left = l.filter fun y => !decide (hd R L y = x) := by
  have hx := c.first hR
  have pm : (row ++ left).Perm (x :: l) := by simpa using g.perm
  have nd : (row ++ left).Nodup := pm.nodup_iff.mpr c.nodup
  have inr : ∀ y ∈ x :: l, y ∈ row ↔ hd R L y = x := fun y hy => by
    have hyL := c.sub y hy
    refine ⟨fun h => ?_, fun e => ?_⟩
    · rw [← hx]
      exact (hd_eq hR (g.reach y (by simp [h]))).symm
    · have rx : Rch R L x y := by
        have h1 := (hd_rch (R := R) hyL).symm hR
        rw [e] at h1
        exact h1
      refine rx.stay (C := fun z => z ∈ row) (fun a b ha haL hb r => ?_) (by simpa using g.has)
      have ma : a ∈ x :: l := pm.mem_iff.mp (List.mem_append_left _ ha)
      have mb := c.closed a ma b hb r
      rcases List.mem_append.mp (pm.mem_iff.mpr mb) with h | h
      · exact h
      · have := g.far a ha b h
        rw [r] at this
        cases this
  have p1 : row.Perm ((x :: l).filter fun y => decide (hd R L y = x)) := by
    rw [List.perm_ext_iff_of_nodup (List.nodup_append.mp nd).1 (c.nodup.filter _)]
    intro y
    rw [List.mem_filter, decide_eq_true_eq]
    refine ⟨fun h => ?_, fun h => (inr y h.1).mpr h.2⟩
    have m := pm.mem_iff.mp (List.mem_append_left _ h)
    exact ⟨m, (inr y m).mp h⟩
  have p2 : left.Perm (l.filter fun y => !decide (hd R L y = x)) := by
    have cl := List.nodup_cons.mp c.nodup
    rw [List.perm_ext_iff_of_nodup (List.nodup_append.mp nd).2.1 (cl.2.filter _)]
    intro y
    rw [List.mem_filter]
    refine ⟨fun h => ?_, fun h => ?_⟩
    · have m := pm.mem_iff.mp (List.mem_append_right _ h)
      have ny : ¬ hd R L y = x := fun e => (List.nodup_append.mp nd).2.2 y ((inr y m).mpr e) y h rfl
      refine ⟨?_, by simpa using ny⟩
      rcases List.mem_cons.mp m with q | q
      · exact absurd (by rw [q]; exact hx) ny
      · exact q
    · obtain ⟨h1, h2⟩ := h
      have h2 : ¬ hd R L y = x := by simpa using h2
      rcases List.mem_append.mp (pm.mem_iff.mpr (List.mem_cons_of_mem _ h1)) with q | q
      · exact absurd ((inr y (List.mem_cons_of_mem _ h1)).mp q) h2
      · exact q
  exact ⟨p1, sorted_uniq p2 g.sorted ((List.pairwise_cons.mp c.sorted).2.filter _)⟩
end
end NM

namespace NM
open PySem PySem.Spec PyProof.Rows L2 HotX L2H
/-! ### points by names -/
abbrev PM := List (Str × Pt)
def namesOf (P : PM) : List Str := P.map (·.1)
def ptOf (P : PM) (n : Str) : Pt := ((P.find? fun p => decide (p.1 = n)).map (·.2)).getD (0, 0)
def nearR (P : PM) (s : Int) (a b : Str) : Bool := decide (dist (ptOf P a) (ptOf P b) ≤ reachI s)
theorem nearR_symm (P : PM) (s : Int) : ∀ a b, nearR P s a b = nearR P s b a := fun a b => by
  unfold nearR
  rw [dist_comm]
structure PMOk (P : PM) : Prop where
  nodup : (namesOf P).Nodup
  len : P.length ≤ 60
  ok : ∀ p ∈ P, PtOk p.2 ∧ nameS p.1 = true
theorem ptOf_mem {P : PM} {n : Str} {q : Pt} (hn : (namesOf P).Nodup) (h : (n, q) ∈ P) : ptOf P n = q := by
  unfold ptOf
  induction P with
  | nil => cases h
  | cons p P ih =>
    have hn' := List.nodup_cons.mp hn
    rw [List.find?_cons]
    by_cases e : p.1 = n
    · simp only [e, decide_true]
      rcases List.mem_cons.mp h with h | h
      · rw [← h]; rfl
      · exact absurd (List.mem_map.mpr ⟨_, h, rfl⟩) (by rw [← e]; exact hn'.1)
    · simp only [e, decide_false]
      rcases List.mem_cons.mp h with h | h
      · rw [← h] at e; exact absurd rfl e
      · exact ih hn'.2 h
theorem mem_ptOf {P : PM} {n : Str} (hn : (namesOf P).Nodup) (h : n ∈ namesOf P) : (n, ptOf P n) ∈ P := by
  obtain ⟨p, hp, e⟩ := List.mem_map.mp h
  have h2 : (n, p.2) ∈ P := by rw [← e]; exact hp
  rw [ptOf_mem hn h2]
  exact h2
theorem PMOk.pt {P : PM} (o : PMOk P) {n : Str} (h : n ∈ namesOf P) : PtOk (ptOf P n) := (o.ok _ (mem_ptOf o.nodup h)).1
theorem PMOk.name {P : PM} (o : PMOk P) {n : Str} (h : n ∈ namesOf P) : nameS n = true := (o.ok _ (mem_ptOf o.nodup h)).2
theorem PMOk.lenN {P : PM} (o : PMOk P) : (namesOf P).length ≤ 60 := by unfold namesOf; rw [List.length_map]; exact o.len
/-! ### names as texts -/
theorem nameS_len {x : Str} (h : nameS x = true) : x.cps.size ≤ 6 := by
  simp only [nameS, Bool.and_eq_true, decide_eq_true_eq] at h
  exact h.1.2
theorem small_lt : ∀ c ∈ smallS.cps.toList, c < 1114112 := by decide +kernel
theorem nameS_ok {x : Str} (h : nameS x = true) : PyData.strOk x = true := by
  simp only [nameS, Bool.and_eq_true, decide_eq_true_eq] at h
  unfold PyData.strOk
  rw [← Array.all_toList]
  refine List.all_eq_true.mpr fun c hc => ?_
  have := List.all_eq_true.mp h.2 c hc
  exact decide_eq_true (small_lt c (of_decide_eq_true this))
theorem risingS_head {p x : Str} {r : List Str} (h : risingS p (x :: r) = true) : leS p x = true ∧ risingS x r = true := by
  simp only [risingS, Bool.and_eq_true] at h
  refine ⟨?_, h.2⟩
  have h1 := h.1
  unfold leS ltS
  rw [← ltCps_eq]
  exact h1
theorem rising_pw : ∀ (l : List Str) (p : Str), risingS p l = true → (p :: l).Pairwise (fun a b => leS a b = true)
  | [], p, _ => List.pairwise_singleton _ _
  | x :: r, p, h => by
    obtain ⟨h1, h2⟩ := risingS_head h
    have ih := rising_pw r x h2
    refine List.pairwise_cons.mpr ⟨fun y hy => leS_trans p x y h1 (head_le ih y hy), ih⟩
theorem sortedS_pw {l : List Str} (h : sortedS l = true) : l.Pairwise (fun a b => leS a b = true) := by
  cases l with
  | nil => exact List.Pairwise.nil
  | cons x r => exact rising_pw r x h
theorem sortedS_eq {l m : List Str} (h : sortedS l = true) (p : l.Perm m) : l = sortS m := sortS_of p (sortedS_pw h)
theorem inV_str (x : Str) : ∀ xs : List Str, inV (.str x) (xs.map V.str) = decide (x ∈ xs)
  | [] => rfl
  | y :: xs => by
    have ih := inV_str x xs
    unfold inV at ih ⊢
    rw [List.map_cons, List.any_cons, ih]
    by_cases e : y = x
    · simp [eqV, e]
    · have e2 : x ≠ y := fun z => e z.symm
      simp [eqV, e, e2]
theorem flat_strs (xs : List Str) : (xs.map V.str).all flatV = true := by
  rw [List.all_map]
  exact List.all_eq_true.mpr fun _ _ => rfl
/-! ### a dict of points, perhaps locked -/
def KvAt (H : Hp) (kvs : List (Key × V)) (P : PM) : Prop := Paired (fun kv p => kv.1 = Sum.inr p.1 ∧ PtAt H kv.2 p.2) kvs P
def PtsAt (H : Hp) (d : Addr) (o : HO) (P : PM) : Prop := H d = some o ∧ ∃ kvs, LkO o (.dK kvs) ∧ KvAt H kvs P
theorem LkO.rd {H : Hp} {d : Addr} {o u : HO} (h : H d = some o) (l : LkO o u) : Rd H d u := by
  rcases l with rfl | ⟨od, rfl⟩
  · exact .inl h
  · exact .inr ⟨od, h⟩
def KeepT (H H' : Hp) : Prop := ∀ b xs, H b = some (.tup xs) → H' b = some (.tup xs)
theorem PtAt.keepT {H H' : Hp} {v : V} {p : Pt} (h : PtAt H v p) (k : KeepT H H') : PtAt H' v p := by
  obtain ⟨a, e, h⟩ := h
  exact ⟨a, e, k _ _ h⟩
theorem KvAt.keepT {H H' : Hp} {kvs : List (Key × V)} {P : PM} (h : KvAt H kvs P) (k : KeepT H H') : KvAt H' kvs P := Paired.mapP h fun _ _ z => ⟨z.1, z.2.keepT k⟩
theorem _root_.L2.Same.keepT {H H' : Hp} (s : Same H H') : KeepT H H' := fun b xs h => s b _ h
theorem keepT_refl (H : Hp) : KeepT H H := fun _ _ h => h
theorem KeepT.trans {H H1 H2 : Hp} (a : KeepT H H1) (b : KeepT H1 H2) : KeepT H H2 := fun c xs h => b c xs (a c xs h)
theorem keepT_upd {H : Hp} {l : Addr} {o o' : HO} (h : H l = some o) (hn : ∀ xs, o ≠ .tup xs) : KeepT H (upd H l o') := fun b xs e => by
  rw [upd_ne (ne_of e h (fun z => hn xs z.symm))]
  exact e
theorem keepT_new {H : Hp} {l : Addr} {o' : HO} (h : H l = none) : KeepT H (upd H l o') := fun b xs e => by
  rw [upd_ne (ne_of_none e h)]
  exact e
theorem PtsAt.same {H H' : Hp} {d : Addr} {o : HO} {P : PM} (h : PtsAt H d o P) (s : Same H H') : PtsAt H' d o P := by
  obtain ⟨h1, kvs, l, k⟩ := h
  exact ⟨s _ _ h1, kvs, l, k.keepT s.keepT⟩
theorem ptOf_pos {p : Str × Pt} {P : PM} {n : Str} (e : p.1 = n) : ptOf (p :: P) n = p.2 := by
  unfold ptOf
  rw [List.find?_cons]
  simp [e]
theorem ptOf_neg {p : Str × Pt} {P : PM} {n : Str} (e : ¬ p.1 = n) : ptOf (p :: P) n = ptOf P n := by
  unfold ptOf
  rw [List.find?_cons]
  simp [e]
theorem KvAt.get {H : Hp} : ∀ {kvs : List (Key × V)} {P : PM} {n : Str}, KvAt H kvs P → n ∈ namesOf P → ∃ v, valV kvs (Sum.inr n) = some v ∧ PtAt H v (ptOf P n)
  | _, _, n, .nil, h => nomatch h
  | _, _, n, .cons (a := kv) (b := p) r t, h => by
    by_cases e : p.1 = n
    · refine ⟨kv.2, valV_pos (by rw [r.1, e]), ?_⟩
      rw [ptOf_pos e]
      exact r.2
    · obtain ⟨v, h1, h2⟩ := KvAt.get (n := n) t ((List.mem_cons.mp h).elim (fun z => absurd z.symm e) id)
      refine ⟨v, ?_, ?_⟩
      · rw [valV_neg (by rw [r.1]; exact fun z => e (Sum.inr.inj z))]
        exact h1
      · rw [ptOf_neg e]
        exact h2
theorem KvAt.keys {H : Hp} : ∀ {kvs : List (Key × V)} {P : PM}, KvAt H kvs P → kvs.map (·.1) = (namesOf P).map Sum.inr
  | _, _, .nil => rfl
  | _, _, .cons r t => by
    rw [List.map_cons, r.1, KvAt.keys t]
    rfl
theorem KvAt.len {H : Hp} {kvs : List (Key × V)} {P : PM} (h : KvAt H kvs P) : kvs.length = P.length := paired_len h
theorem PtsAt.get {H : Hp} {d : Addr} {o : HO} {P : PM} {n : Str} (h : PtsAt H d o P) (hn : n ∈ namesOf P) : ∃ v, DGet H d (.str n) (some v) ∧ PtAt H v (ptOf P n) := by
  obtain ⟨h1, kvs, l, k⟩ := h
  obtain ⟨v, e, p⟩ := k.get hn
  exact ⟨v, .inl ⟨kvs, .inr n, l.rd h1, rfl, e.symm⟩, p⟩
/-! ### rows of names, in a list of tuples -/
def RowsAt (H : Hp) (ts : List Addr) (rows : List (List Str)) : Prop := Paired (fun t r => H t = some (.tup (r.map V.str))) ts rows
theorem RowsAt.keepT {H H' : Hp} {ts : List Addr} {rows : List (List Str)} (h : RowsAt H ts rows) (k : KeepT H H') : RowsAt H' ts rows := Paired.mapP h fun _ _ z => k _ _ z
theorem rows_dp {K : PySem.W.Frag} {H : Hp} : ∀ {ts : List Addr} {rows : List (List Str)}, RowsAt H ts rows → DpAll K H (ts.map V.ref) (rows.map fun r => PyData.tuple (r.map PyData.str))
  | _, _, .nil => .nil
  | _, _, .cons h t => .cons (.tup (sqT h) (dpAll_strs _)) (rows_dp t)
theorem lay_rows {rows : List (List Str)} (h : ∀ r ∈ rows, ∀ n ∈ r, nameS n = true) : Lay 2 (.list (rows.map fun r => PyData.tuple (r.map PyData.str))) := lay_list (lay_map fun r hr => lay_tuple (lay_map fun n hn => lay_str (nameS_ok (h r hr n hn))))
end NM
namespace NM
open PySem PySem.Spec PyProof.Rows L2 HotX L2H
def strP (p : Str → Bool) : V → Bool
  | .str x => p x
  | _ => false
theorem strP_filter (p : Str → Bool) : ∀ xs : List Str, (xs.map V.str).filter (strP p) = (xs.filter p).map V.str
  | [] => rfl
  | x :: xs => by
    simp only [List.map_cons, List.filter_cons, strP_filter p xs]
    show (if p x = true then _ else _) = _
    split <;> rfl
theorem str_at {xs : List Str} {i : Nat} {v : V} (h : (xs.map V.str)[i]? = some v) : ∃ x, v = .str x ∧ x ∈ xs ∧ xs[i]? = some x := by
  rw [List.getElem?_map] at h
  cases e : xs[i]? with
  | none => rw [e] at h; cases h
  | some x => rw [e] at h; exact ⟨x, (Option.some.inj h).symm, List.mem_of_getElem? e, rfl⟩
theorem map_idV (xs : List V) : xs.map (fun v => v) = xs := List.map_id' xs
theorem lay_names {n : Nat} {xs : List Str} (h : ∀ x ∈ xs, nameS x = true) : Lay 1 (.list (xs.map PyData.str)) := lay_list (lay_map fun x hx => lay_str (nameS_ok (h x hx)))
theorem eqv_nilS {xs : List Str} : PyData.eqv (.list (xs.map PyData.str)) (.list []) = xs.isEmpty := by
  cases xs <;> rfl
/-- an object that is new to H0 changes: what H0 had stays -/
theorem same_at {H0 H : Hp} {a : Addr} {o : HO} (s : Same H0 H) (n : H0 a = none) : Same H0 (upd H a o) := fun b x e => by
  rw [upd_ne (ne_of_none e n)]
  exact s b x e
theorem rowsAt_snoc {H : Hp} {ts : List Addr} {rows : List (List Str)} {t : Addr} {r : List Str} (h : RowsAt H ts rows) (ht : H t = some (.tup (r.map V.str))) : RowsAt H (ts ++ [t]) (rows ++ [r]) := paired_snoc h ht
end NM
namespace NM
open PySem PySem.Spec PyProof.Rows L2 HotX L2H
/-! ### tuples of texts and ints as keys -/
def backK : V → Key
  | .str x => .inr x
  | .int i => .inl i
  | _ => .inl 0
def keysAt (H : Hp) : V → List Key
  | .ref t => match H t with
    | some (.tup xs) => xs.map backK
    | _ => []
  | _ => []
theorem keysAt_tup {H : Hp} {t : Addr} {ks : List Key} (h : H t = some (.tup (ks.map kV))) : keysAt H (.ref t) = ks := by
  simp only [keysAt, h, List.map_map]
  have : (backK ∘ kV) = id := by
    funext k
    cases k <;> rfl
  rw [this, List.map_id]
theorem strs_kV (r : List Str) : r.map V.str = (r.map Sum.inr : List Key).map kV := by
  rw [List.map_map]
  rfl
theorem keysAt_row {H : Hp} {t : Addr} {r : List Str} (h : H t = some (.tup (r.map V.str))) : keysAt H (.ref t) = r.map Sum.inr := keysAt_tup (by rw [h, strs_kV])
theorem alike_strs : ∀ (a b : List Str), Alike (a.map Sum.inr) (b.map Sum.inr)
  | [], _ => trivial
  | _ :: _, [] => trivial
  | _ :: a, _ :: b => ⟨rfl, alike_strs a b⟩
theorem sorted_keys_uniq {k : V → List Key} {xs ys : List V} (hx : xs.Pairwise (fun x y => ltKs (k x) (k y) = true)) (pm : ys.Perm xs) (hy : ys.Pairwise (fun x y => ltKs (k y) (k x) = false)) : ys = xs := by
  have asym : ∀ a b, ltKs a b = true → ltKs b a = false := fun a b h => by
    cases e : ltKs b a with
    | false => rfl
    | true => have := ltKs_trans h e; rw [ltKs_irrefl] at this; cases this
  refine List.Perm.eq_of_pairwise (le := fun x y => ltKs (k y) (k x) = false) (fun a b ha hb h1 h2 => ?_) hy (hx.imp fun {a b} h => asym _ _ h) pm
  have ha := pm.mem_iff.mp ha
  obtain ⟨i, hi, ei⟩ := List.getElem_of_mem ha
  obtain ⟨j, hj, ej⟩ := List.getElem_of_mem hb
  rcases Nat.lt_trichotomy i j with h | h | h
  · have := List.pairwise_iff_getElem.mp hx i j hi hj h
    rw [ei, ej, h2] at this
    cases this
  · subst h
    rw [← ei, ← ej]
  · have := List.pairwise_iff_getElem.mp hx j i hj hi h
    rw [ei, ej, h1] at this
    cases this
theorem rows_strict {R : Str → Str → Bool} {L : List Str} (hL : L.Nodup) : (rowsOf R L).Pairwise (fun a b => ltKs (a.map Sum.inr) (b.map Sum.inr) = true) := by
  unfold rowsOf
  rw [List.pairwise_map]
  refine List.Pairwise.imp_of_mem (fun {a b} ha hb h => ?_) (sorted_lt heads_sorted (heads_nodup (R := R) hL))
  obtain ⟨r, er⟩ := row_head hL ha
  obtain ⟨r', er'⟩ := row_head hL hb
  rw [er, er']
  simp only [List.map_cons, ltKs]
  have ne : (Sum.inr a : Key) ≠ Sum.inr b := fun e => by
    have e : a = b := Sum.inr.inj e
    subst e
    rw [ltS_irrefl] at h
    cases h
  rw [if_neg ne]
  exact h
theorem rows_nonempty {R : Str → Str → Bool} {L : List Str} (hL : L.Nodup) {r : List Str} (h : r ∈ rowsOf R L) : ∃ x t, r = x :: t := by
  obtain ⟨a, ha, e⟩ := List.mem_map.mp h
  obtain ⟨t, er⟩ := row_head hL ha
  exact ⟨a, t, by rw [← e, er]⟩
theorem rowsAt_mem {H : Hp} : ∀ {ts : List Addr} {rows : List (List Str)} {t : Addr}, RowsAt H ts rows → t ∈ ts → ∃ r ∈ rows, H t = some (.tup (r.map V.str))
  | _, _, _, .nil, h => nomatch h
  | _, _, t, .cons (b := r) e p, h => by
    rcases List.mem_cons.mp h with z | z
    · exact ⟨r, List.mem_cons_self, by rw [z]; exact e⟩
    · obtain ⟨r', h1, h2⟩ := rowsAt_mem p z
      exact ⟨r', List.mem_cons_of_mem _ h1, h2⟩
theorem rowsAt_pw {H : Hp} : ∀ {ts : List Addr} {rows : List (List Str)}, RowsAt H ts rows → rows.Pairwise (fun a b => ltKs (a.map Sum.inr) (b.map Sum.inr) = true) → (ts.map V.ref).Pairwise (fun x y => ltKs (keysAt H x) (keysAt H y) = true)
  | _, _, .nil, _ => List.Pairwise.nil
  | _, _, .cons (a := t) (b := r) e p, h => by
    obtain ⟨h1, h2⟩ := List.pairwise_cons.mp h
    rw [List.map_cons]
    refine List.pairwise_cons.mpr ⟨fun y hy => ?_, rowsAt_pw p h2⟩
    obtain ⟨t', ht', rfl⟩ := List.mem_map.mp hy
    obtain ⟨r', hr', e'⟩ := rowsAt_mem p ht'
    rw [keysAt_row e, keysAt_row e']
    exact h1 r' hr'
end NM
namespace NM
open PySem PySem.Spec PyProof.Rows L2 HotX L2H
theorem seqIndex0 (n : Nat) : seqIndex? 0 (n + 1) = some 0 := by
  unfold seqIndex?
  simp
end NM
namespace NM
theorem snoc_cases {α : Type} (l : List α) : l = [] ∨ ∃ L b, l = L ++ [b] := by
  rcases List.eq_nil_or_concat l with h | ⟨L, b, h⟩
  · exact .inl h
  · exact .inr ⟨L, b, by rw [h, List.concat_eq_append]⟩
end NM
namespace NM
open PySem PySem.Spec PyProof.Rows L2 HotX L2H
/-! ### tuples and lists stay -/
structure KeepL (H H' : Hp) : Prop where
  t : ∀ b xs, H b = some (.tup xs) → H' b = some (.tup xs)
  l : ∀ b xs, H b = some (.lst xs) → H' b = some (.lst xs)
theorem Dat.keepL {H H' : Hp} {v : V} (d : Dat H v) (s : KeepL H H') : Dat H' v := by
  cases v with
  | ref a => exact d.elim (fun ⟨xs, e⟩ => .inl ⟨xs, s.t _ _ e⟩) (fun ⟨xs, e⟩ => .inr ⟨xs, s.l _ _ e⟩)
  | non => trivial
  | bl _ => trivial
  | int _ => trivial
  | str _ => trivial
  | byt _ => exact d.elim
  | flt _ => exact d.elim
  | ty _ => exact d.elim
theorem tupOf_keepL {H H' : Hp} {v : V} (d : Dat H v) (s : KeepL H H') : tupOf H' v = tupOf H v := by
  cases v with
  | ref a =>
    rcases d with ⟨xs, e⟩ | ⟨xs, e⟩
    · rw [tupOf_ref e, tupOf_ref (s.t _ _ e)]
    · have h1 : tupOf H (.ref a) = none := by simp [tupOf, e]
      have h2 : tupOf H' (.ref a) = none := by simp [tupOf, s.l _ _ e]
      rw [h1, h2]
  | non => rfl
  | bl _ => rfl
  | int _ => rfl
  | str _ => rfl
  | byt _ => rfl
  | flt _ => rfl
  | ty _ => rfl
theorem PD.keepL {H H' : Hp} {v : V} (d : PD H v) (s : KeepL H H') : PD H' v := ⟨d.1.keepL s, fun xs e => by
  rw [tupOf_keepL d.1 s] at e
  exact ⟨(d.2 xs e).1, fun x hx => ((d.2 xs e).2 x hx).keepL s⟩⟩
theorem isPoint_keepL {H H' : Hp} {v : V} (d : PD H v) (s : KeepL H H') : isPoint H' v = isPoint H v := by
  unfold isPoint
  rw [tupOf_keepL d.1 s]
theorem keepL_upd {H : Hp} {d : Addr} {o o' : HO} (h : H d = some o) (h1 : ∀ xs, o ≠ .tup xs) (h2 : ∀ xs, o ≠ .lst xs) : KeepL H (upd H d o') :=
  ⟨fun b xs e => by rw [upd_ne (ne_of e h (fun z => h1 xs z.symm))]; exact e, fun b xs e => by rw [upd_ne (ne_of e h (fun z => h2 xs z.symm))]; exact e⟩
theorem _root_.L2.Same.keepL {H H' : Hp} (s : Same H H') : KeepL H H' := ⟨fun b xs h => s b _ h, fun b xs h => s b _ h⟩
theorem KeepL.trans {H H1 H2 : Hp} (a : KeepL H H1) (b : KeepL H1 H2) : KeepL H H2 := ⟨fun c xs h => b.t c xs (a.t c xs h), fun c xs h => b.l c xs (a.l c xs h)⟩
theorem lk_tup {o : HO} {kvs : List (Key × V)} (l : LkO o (.dK kvs)) : ∀ xs, o ≠ .tup xs := fun xs e => by
  rcases l with h | ⟨od, h⟩ <;> rw [h] at e <;> cases e
theorem lk_lst {o : HO} {kvs : List (Key × V)} (l : LkO o (.dK kvs)) : ∀ xs, o ≠ .lst xs := fun xs e => by
  rcases l with h | ⟨od, h⟩ <;> rw [h] at e <;> cases e
/-- a thing locked and let go again, what else came stays -/
theorem same_unlock {H H' : Hp} {d : Addr} {o u : HO} (h : H d = some o) (s : Same (upd H d u) H') : Same H (upd H' d o) := fun b x e => by
  by_cases hb : b = d
  · subst hb
    rw [h] at e
    cases e
    exact upd_same
  · rw [upd_ne hb]
    exact s b x (by rw [upd_ne hb]; exact e)
theorem sameX_lock {H H' : Hp} {d : Addr} {u : HO} (s : Same (upd H d u) H') : SameX d H H' := fun b x hb e => s b x (by rw [upd_ne hb]; exact e)
theorem keys_at {ks : List Str} {kvs : List (Key × V)} (h : kvs.map (·.1) = ks.map Sum.inr) : kvs.map (fun kv => kV kv.1) = ks.map V.str := by
  have : kvs.map (fun kv => kV kv.1) = (kvs.map (·.1)).map kV := by rw [List.map_map]; rfl
  rw [this, h, List.map_map]
  rfl
theorem val_of_mem {kvs : List (Key × V)} {k : Key} {v : V} (h : valV kvs k = some v) : (k, v) ∈ kvs := by
  unfold valV at h
  cases e : kvs.find? fun kv => decide (kv.1 = k) with
  | none => rw [e] at h; cases h
  | some p =>
    rw [e] at h
    have h2 : p.2 = v := Option.some.inj h
    have h3 := List.find?_some e
    have h3 : p.1 = k := of_decide_eq_true h3
    rw [← h2, ← h3]
    exact List.mem_of_find?_eq_some e
theorem val_some {kvs : List (Key × V)} {k : Key} (h : k ∈ kvs.map (·.1)) : ∃ v, valV kvs k = some v := by
  cases e : valV kvs k with
  | some v => exact ⟨v, rfl⟩
  | none => exact absurd h (valV_not e)
end NM
namespace NM
open PySem PySem.Spec PyProof.Rows L2 HotX L2H
theorem kvAt_mem {H : Hp} : ∀ {kvs : List (Key × V)} {P : PM} {kv : Key × V}, KvAt H kvs P → kv ∈ kvs → ∃ p ∈ P, kv.1 = Sum.inr p.1 ∧ PtAt H kv.2 p.2
  | _, _, _, .nil, h => nomatch h
  | _, _, kv, .cons (b := p) e t, h => by
    rcases List.mem_cons.mp h with z | z
    · exact ⟨p, List.mem_cons_self, by rw [z]; exact e⟩
    · obtain ⟨p', h1, h2⟩ := kvAt_mem t z
      exact ⟨p', List.mem_cons_of_mem _ h1, h2⟩
theorem PtsAt.good {H : Hp} {d : Addr} {o : HO} {P : PM} (h : PtsAt H d o P) (ok : PMOk P) : ∃ kvs, LkO o (.dK kvs) ∧ kvs.map (·.1) = (namesOf P).map Sum.inr ∧ kvs.length ≤ 1000 ∧ (∀ x ∈ namesOf P, x.length ≤ 1000) ∧ (∀ kv ∈ kvs, PD H kv.2) ∧ (∀ x ∈ namesOf P, nameS x = true) ∧ (∀ kv ∈ kvs, isPoint H kv.2 = true) := by
  obtain ⟨_, kvs, lk, kv⟩ := h
  refine ⟨kvs, lk, kv.keys, by rw [kv.len]; have := ok.len; omega, fun x hx => ?_, fun e he => ?_, fun x hx => ok.name hx, fun e he => ?_⟩
  · have := nameS_len (ok.name hx)
    show x.cps.size ≤ 1000
    omega
  · obtain ⟨p, _, _, h⟩ := kvAt_mem kv he
    exact h.pd
  · obtain ⟨p, hp, _, h⟩ := kvAt_mem kv he
    exact isPoint_of h (ok.ok p hp).1
/-! ### the drawn names -/
def cpI (i : Int) : Nat := smallS.cps.toList.getD i.toNat 97
def nameOf (j : Int) : Str := ⟨#[cpI (j / 26), cpI (j % 26)]⟩
theorem sign_atN : ∀ k < 26, (smallS.cps.toList)[k]? = some (smallS.cps.toList.getD k 97) := by decide
theorem sign_at {i : Int} (h0 : 0 ≤ i) (h1 : i < 26) : atI smallS.cps.toList i = some (cpI i) := by
  have hl : smallS.cps.toList.length = 26 := by decide
  unfold atI ixN cpI
  rw [hl, if_pos h0, if_pos (by simpa using h1)]
  exact sign_atN _ (by omega)
theorem cpI_mem {i : Int} (h0 : 0 ≤ i) (h1 : i < 26) : cpI i ∈ smallS.cps.toList := by
  have h := sign_atN i.toNat (by omega)
  exact List.mem_of_getElem? h
theorem nameOf_ok {j : Int} (h0 : 0 ≤ j) (h1 : j < 676) : nameS (nameOf j) = true := by
  have a := cpI_mem (i := j / 26) (by omega) (by omega)
  have b := cpI_mem (i := j % 26) (by omega) (by omega)
  unfold nameS nameOf
  simpa using ⟨Array.mem_toList_iff.mp a, Array.mem_toList_iff.mp b⟩
end NM

namespace NM
open PySem PySem.Spec PyProof.Rows L2 HotX L2H
/-! ### putting a point -/
def putP (P : PM) (n : Str) (q : Pt) : PM := if n ∈ namesOf P then P.map (fun p => if p.1 = n then (p.1, q) else p) else P ++ [(n, q)]
theorem kvAt_any {H : Hp} {n : Str} : ∀ {kvs : List (Key × V)} {P : PM}, KvAt H kvs P → (kvs.any fun kv => decide (kv.1 = Sum.inr n)) = decide (n ∈ namesOf P)
  | _, _, .nil => rfl
  | _, _, .cons (a := kv) (b := p) r t => by
    rw [List.any_cons, kvAt_any t, r.1]
    unfold namesOf
    rw [List.map_cons]
    by_cases e : p.1 = n
    · simp [e]
    · have e2 : ¬ n = p.1 := fun z => e z.symm
      simp [e, e2]
theorem paired_app {α β : Type} {R : α → β → Prop} : ∀ {as : List α} {bs : List β} {a : α} {b : β}, Paired R as bs → R a b → Paired R (as ++ [a]) (bs ++ [b])
  | _, _, _, _, .nil, h => .cons h .nil
  | _, _, _, _, .cons r t, h => .cons r (paired_app t h)
theorem kvAt_map {H : Hp} {n : Str} {q : Pt} {v : V} (hv : PtAt H v q) : ∀ {kvs : List (Key × V)} {P : PM}, KvAt H kvs P → KvAt H (kvs.map fun kv => if kv.1 = Sum.inr n then (kv.1, v) else kv) (P.map fun p => if p.1 = n then (p.1, q) else p)
  | _, _, .nil => .nil
  | _, _, .cons (a := kv) (b := p) r t => by
    refine .cons ?_ (kvAt_map hv t)
    dsimp only
    by_cases e : p.1 = n
    · rw [if_pos (show kv.1 = Sum.inr n by rw [r.1, e]), if_pos e]
      exact ⟨r.1, hv⟩
    · rw [if_neg (show ¬ kv.1 = Sum.inr n by rw [r.1]; exact fun z => e (Sum.inr.inj z)), if_neg e]
      exact r
theorem KvAt.put {H : Hp} {kvs : List (Key × V)} {P : PM} {n : Str} {q : Pt} {v : V} (h : KvAt H kvs P) (hv : PtAt H v q) : KvAt H (putK kvs (Sum.inr n) v) (putP P n q) := by
  unfold putK putP
  rw [kvAt_any h]
  by_cases e : n ∈ namesOf P
  · rw [if_pos (by simpa using e), if_pos e]
    exact kvAt_map hv h
  · rw [if_neg (by simpa using e), if_neg e]
    exact paired_app h ⟨rfl, hv⟩
theorem putP_names (P : PM) (n : Str) (q : Pt) : namesOf (putP P n q) = if n ∈ namesOf P then namesOf P else namesOf P ++ [n] := by
  unfold putP
  by_cases e : n ∈ namesOf P
  · rw [if_pos e, if_pos e]
    unfold namesOf
    rw [List.map_map]
    refine List.map_congr_left fun p _ => ?_
    by_cases e : p.1 = n <;> simp [e]
  · rw [if_neg e, if_neg e]
    simp [namesOf]
theorem putP_len (P : PM) (n : Str) (q : Pt) : (putP P n q).length ≤ P.length + 1 := by
  unfold putP
  by_cases e : n ∈ namesOf P
  · rw [if_pos e, List.length_map]; omega
  · rw [if_neg e, List.length_append]; exact Nat.le_refl _
theorem putP_mem {P : PM} {n : Str} {q : Pt} {p : Str × Pt} (h : p ∈ putP P n q) : p = (n, q) ∨ p ∈ P := by
  unfold putP at h
  by_cases e : n ∈ namesOf P
  · rw [if_pos e] at h
    obtain ⟨x, hx, rfl⟩ := List.mem_map.mp h
    by_cases e : x.1 = n
    · rw [if_pos e, e]; exact .inl rfl
    · rw [if_neg e]; exact .inr hx
  · rw [if_neg e] at h
    rcases List.mem_append.mp h with h | h
    · exact .inr h
    · exact .inl (by simpa using h)
theorem PMOk.put {P : PM} {n : Str} {q : Pt} (h : PMOk P) (hl : P.length < 60) (hn : nameS n = true) (hq : PtOk q) : PMOk (putP P n q) where
  nodup := by
    rw [putP_names]
    by_cases e : n ∈ namesOf P
    · rw [if_pos e]; exact h.nodup
    · rw [if_neg e]
      exact List.nodup_append.mpr ⟨h.nodup, by simp, fun a ha b hb z => e (by rw [List.mem_singleton.mp hb] at z; rw [← z]; exact ha)⟩
  len := by have := putP_len P n q; omega
  ok := fun p hp => by
    rcases putP_mem hp with rfl | hp
    · exact ⟨hq, hn⟩
    · exact h.ok p hp
theorem pmOk_nil : PMOk [] := ⟨by simp [namesOf], by simp, fun p hp => nomatch hp⟩
theorem kvAt_lt {H : Hp} {kvs : List (Key × V)} {P : PM} (h : KvAt H kvs P) (ok : P.length ≤ 60) : kvs.length < sizeLine := by
  have := h.len
  exact small1000 (by omega)
end NM

namespace NM
open PySem PySem.Spec PyProof.Rows L2 HotX L2H
/-! ### the law's dict of called names -/
def cK (L : List Str) (f : Str → Str) : List (Key × V) := L.map fun n => (Sum.inr n, V.str (f n))
def updf (f : Str → Str) (n x : Str) : Str → Str := fun m => if m = n then x else f m
theorem cK_len (L : List Str) (f : Str → Str) : (cK L f).length = L.length := by simp [cK]
theorem cK_keys (L : List Str) (f : Str → Str) : (cK L f).map (·.1) = L.map Sum.inr := by
  unfold cK
  rw [List.map_map]
  rfl
theorem cK_val {f : Str → Str} {n : Str} : ∀ {L : List Str}, n ∈ L → valV (cK L f) (Sum.inr n) = some (.str (f n))
  | m :: L, h => by
    by_cases e : m = n
    · subst e
      exact valV_pos rfl
    · unfold cK
      rw [List.map_cons, valV_neg (fun z => e (Sum.inr.inj z))]
      exact cK_val ((List.mem_cons.mp h).elim (fun z => absurd z.symm e) id)
theorem cK_get {H : Hp} {c : Addr} {L : List Str} {f : Str → Str} {n : Str} (h : H c = some (.dK (cK L f))) (hn : n ∈ L) : DGet H c (.str n) (some (.str (f n))) := by
  have := DGet.k (k := Sum.inr n) h
  rw [cK_val hn] at this
  exact this
theorem cK_put {L : List Str} {f : Str → Str} {n x : Str} (h : n ∈ L) : putK (cK L f) (Sum.inr n) (.str x) = cK L (updf f n x) := by
  unfold putK
  have e : (cK L f).any (fun kv => decide (kv.1 = Sum.inr n)) = true := by
    rw [valV_any, cK_val h]; rfl
  rw [if_pos e]
  unfold cK
  rw [List.map_map]
  refine List.map_congr_left fun m _ => ?_
  unfold updf
  by_cases e : m = n
  · simp [e]
  · have e2 : ¬ (Sum.inr m : Key) = Sum.inr n := fun z => e (Sum.inr.inj z)
    simp [e, e2]
theorem merge_new : ∀ (more acc : List (Key × V)), (∀ kv ∈ more, valV acc kv.1 = none) → (more.map (·.1)).Nodup → mergeK acc more = acc ++ more
  | [], acc, _, _ => by simp [mergeK]
  | kv :: more, acc, h, hn => by
    have h0 := h kv (List.mem_cons_self ..)
    have hn' := List.nodup_cons.mp hn
    show mergeK (putK acc kv.1 kv.2) more = _
    rw [putK_new _ h0, merge_new more]
    · simp
    · intro x hx
      have : valV (putK acc kv.1 kv.2) x.1 = none := by
        rw [valV_put, if_neg (fun e => hn'.1 (List.mem_map.mpr ⟨x, hx, e⟩))]
        exact h x (List.mem_cons_of_mem _ hx)
      rw [putK_new _ h0] at this
      exact this
    · exact hn'.2
theorem merge_nil {more : List (Key × V)} (hn : (more.map (·.1)).Nodup) : mergeK [] more = more := by
  rw [merge_new more [] (fun _ _ => rfl) hn]; rfl
theorem nodup_inr {L : List Str} (h : L.Nodup) : (L.map (Sum.inr : Str → Key)).Nodup := List.Pairwise.map _ (fun _ _ n e => n (Sum.inr.inj e)) h
theorem cK_merge {L : List Str} {f : Str → Str} (h : L.Nodup) : mergeK [] (cK L f) = cK L f := merge_nil (by rw [cK_keys]; exact nodup_inr h)
/-! ### the measure of the law's loop -/
def rkL (L : List Str) (x : Str) : Nat := (L.filter fun m => ltS m x).length
def rk (L : List Str) (f : Str → Str) : Nat := (L.map fun n => rkL L (f n)).sum
theorem filter_le {p q : Str → Bool} : ∀ {L : List Str}, (∀ m ∈ L, p m = true → q m = true) → (L.filter p).length ≤ (L.filter q).length
  | [], _ => Nat.le_refl _
  | m :: L, h => by
    have ih := filter_le (p := p) (q := q) (L := L) fun x hx => h x (List.mem_cons_of_mem _ hx)
    have h0 := h m (List.mem_cons_self ..)
    cases e : p m with
    | true => rw [List.filter_cons_of_pos e, List.filter_cons_of_pos (h0 e)]; simpa using ih
    | false =>
      rw [List.filter_cons_of_neg (by simp [e])]
      cases e2 : q m with
      | true => rw [List.filter_cons_of_pos e2]; simp; omega
      | false => rw [List.filter_cons_of_neg (by simp [e2])]; exact ih
theorem filter_lt {p q : Str → Bool} {x : Str} (hp : p x = false) (hq : q x = true) : ∀ {L : List Str}, x ∈ L → (∀ m ∈ L, p m = true → q m = true) → (L.filter p).length < (L.filter q).length
  | m :: L, hx, h => by
    have h0 := h m (List.mem_cons_self ..)
    have hr := filter_le (p := p) (q := q) (L := L) fun x hx => h x (List.mem_cons_of_mem _ hx)
    by_cases e : x = m
    · subst e
      rw [List.filter_cons_of_pos hq, List.filter_cons_of_neg (by simp [hp])]
      simp; omega
    · have ih := filter_lt hp hq ((List.mem_cons.mp hx).resolve_left e) fun x hx => h x (List.mem_cons_of_mem _ hx)
      cases e : p m with
      | true => rw [List.filter_cons_of_pos e, List.filter_cons_of_pos (h0 e)]; simpa using ih
      | false =>
        rw [List.filter_cons_of_neg (by simp [e])]
        cases e2 : q m with
        | true => rw [List.filter_cons_of_pos e2]; simp; omega
        | false => rw [List.filter_cons_of_neg (by simp [e2])]; exact ih
theorem sum_le {α : Type} {g h : α → Nat} : ∀ {l : List α}, (∀ m ∈ l, g m ≤ h m) → (l.map g).sum ≤ (l.map h).sum
  | [], _ => Nat.le_refl _
  | m :: l, k => by
    have := sum_le (l := l) fun x hx => k x (List.mem_cons_of_mem _ hx)
    have := k m (List.mem_cons_self ..)
    simp
    omega
theorem sum_lt {α : Type} {g h : α → Nat} {x : α} (hx : g x < h x) : ∀ {l : List α}, x ∈ l → (∀ m ∈ l, g m ≤ h m) → (l.map g).sum < (l.map h).sum
  | m :: l, hm, k => by
    have h1 := sum_le (l := l) fun x hx => k x (List.mem_cons_of_mem _ hx)
    have h2 := k m (List.mem_cons_self ..)
    rcases List.mem_cons.mp hm with e | e
    · subst e; simp; omega
    · have := sum_lt hx e fun x hx => k x (List.mem_cons_of_mem _ hx)
      simp; omega
theorem ltS_trans' {a b c : Str} (h1 : ltS a b = true) (h2 : ltS b c = true) : ltS a c = true := by
  unfold ltS at *
  simp only [decide_eq_true_eq] at *
  exact List.lt_trans h1 h2
theorem rkL_lt {L : List Str} {x y : Str} (hx : x ∈ L) (h : ltS x y = true) : rkL L x < rkL L y :=
  filter_lt (p := fun m => ltS m x) (q := fun m => ltS m y) (x := x) (ltS_irrefl x) h hx fun m _ e => ltS_trans' e h
theorem rk_lt {L : List Str} {f : Str → Str} {n x : Str} (hn : n ∈ L) (hx : x ∈ L) (h : ltS x (f n) = true) : rk L (updf f n x) < rk L f := by
  refine sum_lt (x := n) ?_ hn fun m hm => ?_
  · unfold updf; rw [if_pos rfl]; exact rkL_lt hx h
  · unfold updf
    by_cases e : m = n
    · rw [if_pos e, e]; exact Nat.le_of_lt (rkL_lt hx h)
    · rw [if_neg e]; exact Nat.le_refl _
section
variable {R : Str → Str → Bool} {L : List Str}
structure Fx (R : Str → Str → Bool) (L : List Str) (f : Str → Str) : Prop where
  rch : ∀ n ∈ L, Rch R L n (f n)
  le : ∀ n ∈ L, leS (f n) n = true
theorem fx_id : Fx R L id := ⟨fun _ h => .refl h, fun n _ => leS_refl n⟩
theorem Fx.step {f : Str → Str} (h : Fx R L f) {a b : Str} (ha : a ∈ L) (hb : b ∈ L) (r : R a b = true) (hl : ltS (f b) (f a) = true) : Fx R L (updf f a (f b)) where
  rch := fun n hn => by
    unfold updf
    by_cases e : n = a
    · rw [if_pos e, e]; exact (Rch.one ha hb r).trans (h.rch b hb)
    · rw [if_neg e]; exact h.rch n hn
  le := fun n hn => by
    unfold updf
    by_cases e : n = a
    · rw [if_pos e, e]; exact leS_trans _ _ _ (leS_of_lt hl) (h.le a ha)
    · rw [if_neg e]; exact h.le n hn
def Stb (R : Str → Str → Bool) (f : Str → Str) (a b : Str) : Prop := R a b = true → ltS (f b) (f a) = false
theorem Fx.done {f : Str → Str} (hR : ∀ a b, R a b = R b a) (h : Fx R L f) (st : ∀ a ∈ L, ∀ b ∈ L, Stb R f a b) : ∀ n ∈ L, f n = hd R L n := by
  refine hd_char hR h.rch (fun a ha b hb r => ?_) h.le
  have h1 := st a ha b hb r
  have h2 := st b hb a ha (by rw [hR]; exact r)
  exact leS_antisymm (by unfold leS; rw [h1]; rfl) (by unfold leS; rw [h2]; rfl)
theorem cK_congr {f g : Str → Str} (h : ∀ n ∈ L, f n = g n) : cK L f = cK L g := List.map_congr_left fun n hn => by rw [h n hn]
/-! ### the law's dict of heaps -/
def HeapsP (H : Hp) (R : Str → Str → Bool) (L : List Str) (l : List Str) (kvs : List (Key × V)) : Prop :=
  Paired (fun kv h => kv.1 = Sum.inr h ∧ ∃ t, kv.2 = .ref t ∧ H t = some (.tup ((l.filter fun n => decide (hd R L n = h)).map V.str))) kvs (l.filter fun n => decide (hd R L n = n))
def HeapsAt (H : Hp) (R : Str → Str → Bool) (L : List Str) (kvs : List (Key × V)) : Prop :=
  Paired (fun kv h => kv.1 = Sum.inr h ∧ ∃ t, kv.2 = .ref t ∧ H t = some (.tup ((rowOf R L h).map V.str))) kvs (headsOf R L)
theorem heapsP_all {H : Hp} {kvs : List (Key × V)} (h : HeapsP H R L (sortS L) kvs) : HeapsAt H R L kvs := h
theorem heapsP_nil {H : Hp} : HeapsP H R L [] [] := .nil
theorem HeapsP.keepT {H H' : Hp} {l : List Str} {kvs : List (Key × V)} (h : HeapsP H R L l kvs) (k : KeepT H H') : HeapsP H' R L l kvs := Paired.mapP h fun _ _ z => ⟨z.1, let ⟨t, e, x⟩ := z.2; ⟨t, e, k _ _ x⟩⟩
theorem HeapsAt.keepT {H H' : Hp} {kvs : List (Key × V)} (h : HeapsAt H R L kvs) (k : KeepT H H') : HeapsAt H' R L kvs := Paired.mapP h fun _ _ z => ⟨z.1, let ⟨t, e, x⟩ := z.2; ⟨t, e, k _ _ x⟩⟩
theorem paired_val {F : V → Str → Prop} {n : Str} : ∀ {kvs : List (Key × V)} {hs : List Str}, Paired (fun kv h => kv.1 = Sum.inr h ∧ F kv.2 h) kvs hs → n ∈ hs → ∃ v, valV kvs (Sum.inr n) = some v ∧ F v n
  | _, _, .cons (a := kv) (b := h) r t, hn => by
    by_cases e : h = n
    · subst e; exact ⟨kv.2, valV_pos r.1, r.2⟩
    · obtain ⟨v, h1, h2⟩ := paired_val (n := n) t ((List.mem_cons.mp hn).elim (fun z => absurd z.symm e) id)
      exact ⟨v, by rw [valV_neg (by rw [r.1]; exact fun z => e (Sum.inr.inj z))]; exact h1, h2⟩
theorem paired_none {F : V → Str → Prop} {n : Str} : ∀ {kvs : List (Key × V)} {hs : List Str}, Paired (fun kv h => kv.1 = Sum.inr h ∧ F kv.2 h) kvs hs → ¬ n ∈ hs → valV kvs (Sum.inr n) = none
  | _, _, .nil, _ => rfl
  | _, _, .cons (a := kv) (b := h) r t, hn => by
    rw [valV_neg (by rw [r.1]; exact fun z => hn (by rw [← Sum.inr.inj z]; exact List.mem_cons_self ..))]
    exact paired_none t fun z => hn (List.mem_cons_of_mem _ z)
theorem paired_put {F G : V → Str → Prop} {n : Str} {v : V} (hv : G v n) (hG : ∀ u h, h ≠ n → F u h → G u h) : ∀ {kvs : List (Key × V)} {hs : List Str}, Paired (fun kv h => kv.1 = Sum.inr h ∧ F kv.2 h) kvs hs →
    Paired (fun kv h => kv.1 = Sum.inr h ∧ G kv.2 h) (kvs.map fun kv => if kv.1 = Sum.inr n then (kv.1, v) else kv) hs
  | _, _, .nil => .nil
  | _, _, .cons (a := kv) (b := h) r t => by
    refine .cons ?_ (paired_put hv hG t)
    dsimp only
    by_cases e : h = n
    · subst e
      rw [if_pos r.1]
      exact ⟨r.1, hv⟩
    · rw [if_neg (show ¬ kv.1 = Sum.inr n by rw [r.1]; exact fun z => e (Sum.inr.inj z))]
      exact ⟨r.1, hG _ _ e r.2⟩
theorem mapP' {α β : Type} {F G : α → β → Prop} : ∀ {l₁ : List α} {l₂ : List β}, Paired F l₁ l₂ → (∀ a b, b ∈ l₂ → F a b → G a b) → Paired G l₁ l₂
  | _, _, .nil, _ => .nil
  | _, _, .cons r t, h => .cons (h _ _ (List.mem_cons_self ..) r) (mapP' t fun a b hb => h a b (List.mem_cons_of_mem _ hb))
/-- one more name, in order -/
structure Nxt (R : Str → Str → Bool) (L : List Str) (l : List Str) (n : Str) : Prop where
  fresh : n ∉ l
  head : hd R L n = n ∨ (hd R L n ∈ l ∧ hd R L (hd R L n) = hd R L n)
  none : hd R L n = n → ∀ m ∈ l, hd R L m ≠ n
theorem nxt_of (hR : ∀ a b, R a b = R b a) (hL : L.Nodup) {l r : List Str} {n : Str} (e : sortS L = l ++ n :: r) : Nxt R L l n := by
  have hs := sorted_lt (sortS_sorted L) (sortS_nodup hL)
  rw [e] at hs
  obtain ⟨_, h2, h3⟩ := List.pairwise_append.mp hs
  have nL : n ∈ L := mem_sortS.mp (by rw [e]; simp)
  have lL : ∀ m ∈ l, m ∈ L := fun m hm => mem_sortS.mp (by rw [e]; simp [hm])
  have h4 := (List.pairwise_cons.mp h2).1
  refine ⟨fun h => ?_, ?_, fun en m hm em => ?_⟩
  · have := h3 n h n (by simp)
    rw [ltS_irrefl] at this; cases this
  · by_cases en : hd R L n = n
    · exact .inl en
    · refine .inr ⟨?_, hd_hd hR nL⟩
      have hm : hd R L n ∈ sortS L := mem_sortS.mpr (hd_mem nL)
      rw [e] at hm
      rcases List.mem_append.mp hm with h | h
      · exact h
      · rcases List.mem_cons.mp h with h | h
        · exact absurd h en
        · have h5 := h4 _ h
          have h6 : leS (hd R L n) n = true := hd_le (.refl nL)
          unfold leS at h6
          rw [h5] at h6; cases h6
  · have h5 := h3 m hm n (by simp)
    have h6 : leS (hd R L m) m = true := hd_le (.refl (lL m hm))
    rw [em] at h6
    unfold leS at h6
    rw [h5] at h6; cases h6
theorem HeapsP.old {H : Hp} {l : List Str} {kvs : List (Key × V)} {n : Str} (h : HeapsP H R L l kvs) (x : Nxt R L l n) (hn : hd R L n ≠ n) :
    ∃ t, valV kvs (Sum.inr (hd R L n)) = some (.ref t) ∧ H t = some (.tup ((l.filter fun m => decide (hd R L m = hd R L n)).map V.str)) ∧ (l.filter fun m => decide (hd R L m = hd R L n)) ≠ [] := by
  obtain ⟨h1, h2⟩ := x.head.resolve_left hn
  obtain ⟨v, e, t, rfl, ht⟩ := paired_val (F := fun v h => ∃ t, v = .ref t ∧ H t = some (.tup ((l.filter fun n => decide (hd R L n = h)).map V.str))) h (n := hd R L n) (List.mem_filter.mpr ⟨h1, by simp [h2]⟩)
  exact ⟨t, e, ht, List.ne_nil_of_mem (List.mem_filter.mpr ⟨h1, by simp [h2]⟩)⟩
theorem HeapsP.step_old {H : Hp} {l : List Str} {kvs : List (Key × V)} {n : Str} {t : Addr} (h : HeapsP H R L l kvs) (x : Nxt R L l n) (hn : hd R L n ≠ n) (ht : H t = some (.tup (((l ++ [n]).filter fun m => decide (hd R L m = hd R L n)).map V.str))) :
    HeapsP H R L (l ++ [n]) (putK kvs (Sum.inr (hd R L n)) (.ref t)) := by
  obtain ⟨t0, e0, _⟩ := h.old x hn
  unfold HeapsP putK
  rw [valV_any, e0, if_pos (by rfl), List.filter_append, List.filter_cons_of_neg (by simpa using hn), List.filter_nil, List.append_nil]
  refine paired_put (F := fun v h => ∃ t, v = .ref t ∧ H t = some (.tup ((l.filter fun n => decide (hd R L n = h)).map V.str))) (G := fun v h => ∃ t, v = .ref t ∧ H t = some (.tup (((l ++ [n]).filter fun n => decide (hd R L n = h)).map V.str))) ⟨t, rfl, ht⟩ (fun u h' e ⟨t', e1, e2⟩ => ⟨t', e1, ?_⟩) h
  rw [List.filter_append, List.filter_cons_of_neg (by simpa using fun z => e z.symm), List.filter_nil, List.append_nil]
  exact e2
theorem HeapsP.fresh {H : Hp} {l : List Str} {kvs : List (Key × V)} {n : Str} (h : HeapsP H R L l kvs) (x : Nxt R L l n) : valV kvs (Sum.inr n) = none :=
  paired_none (F := fun v h => ∃ t, v = .ref t ∧ H t = some (.tup ((l.filter fun n => decide (hd R L n = h)).map V.str))) h fun z => x.fresh (List.mem_filter.mp z).1
theorem HeapsP.step_new {H : Hp} {l : List Str} {kvs : List (Key × V)} {n : Str} {t : Addr} (h : HeapsP H R L l kvs) (x : Nxt R L l n) (hn : hd R L n = n) (ht : H t = some (.tup [.str n])) :
    HeapsP H R L (l ++ [n]) (putK kvs (Sum.inr n) (.ref t)) := by
  rw [putK_new _ (h.fresh x)]
  unfold HeapsP
  have e1 : (l ++ [n]).filter (fun m => decide (hd R L m = m)) = l.filter (fun m => decide (hd R L m = m)) ++ [n] := by
    rw [List.filter_append, List.filter_cons_of_pos (by simpa using hn)]; rfl
  rw [e1]
  refine paired_app (mapP' h fun kv h' hm z => ⟨z.1, ?_⟩) ⟨rfl, t, rfl, ?_⟩
  · obtain ⟨t', e, e2⟩ := z.2
    refine ⟨t', e, ?_⟩
    have : h' ≠ n := fun e => x.fresh (by rw [← e]; exact (List.mem_filter.mp hm).1)
    rw [List.filter_append, List.filter_cons_of_neg (by rw [hn]; simpa using fun z => this z.symm), List.filter_nil, List.append_nil]
    exact e2
  · rw [List.filter_append, List.filter_cons_of_pos (by simpa using hn)]
    have : l.filter (fun m => decide (hd R L m = n)) = [] := List.filter_eq_nil_iff.mpr fun m hm => by simpa using x.none hn m hm
    rw [this]
    exact ht
end
end NM
namespace NM
open PySem PySem.Spec PyProof.Rows L2 HotX L2H
/-! ### a dict of points, by its own address changed alone -/
theorem LkO.notT {o : HO} {kvs : List (Key × V)} (l : LkO o (.dK kvs)) : ∀ xs, o ≠ .tup xs := fun xs e => by
  rcases l with rfl | ⟨od, rfl⟩ <;> cases e
theorem KvAt.x {H H' : Hp} {d : Addr} {o : HO} {kvs : List (Key × V)} {P : PM} (h : KvAt H kvs P) (hd : H d = some o) (ho : ∀ xs, o ≠ .tup xs) (s : SameX d H H') : KvAt H' kvs P :=
  h.keepT fun b xs e => s b _ (ne_of e hd fun z => ho xs z.symm) e
theorem sameX_refl {d : Addr} {H : Hp} : SameX d H H := fun _ _ _ h => h
theorem SameX.upd {d : Addr} {H H' : Hp} {o : HO} (s : SameX d H H') : SameX d H (upd H' d o) := fun b x hb e => by rw [upd_ne hb]; exact s b x hb e
theorem SameX.at {d c : Addr} {H H' : Hp} {o : HO} (s : SameX d H H') (hc : H c = none) : SameX d H (L2.upd H' c o) := fun b x hb e => by
  rw [upd_ne (ne_of_none e hc)]; exact s b x hb e
theorem SameX.same {d : Addr} {H H' H2 : Hp} (s : SameX d H H') (t : Same H' H2) : SameX d H H2 := fun b x hb e => t b x (s b x hb e)
theorem _root_.L2.Same.x {d : Addr} {H H' : Hp} (s : Same H H') : SameX d H H' := fun b x _ e => s b x e
theorem SameX.back {d : Addr} {H H' : Hp} {o : HO} (s : SameX d H H') (h : H d = some o) : Same H (L2.upd H' d o) := fun b x e => by
  by_cases hb : b = d
  · subst hb; rw [h] at e; cases e; exact upd_same
  · rw [upd_ne hb]; exact s b x hb e
theorem SameX.whole {d : Addr} {H H' : Hp} {o : HO} (s : SameX d H H') (h : H d = some o) (h' : H' d = some o) : Same H H' := fun b x e => by
  by_cases hb : b = d
  · subst hb; rw [h] at e; cases e; exact h'
  · exact s b x hb e
theorem lkO_frz {od : Obj} {u : HO} : LkO (.frz od u) u := .inr ⟨od, rfl⟩
theorem split_at {l : List Str} {i : Nat} {x : Str} (h : l[i]? = some x) : l = l.take i ++ x :: l.drop (i + 1) := by
  obtain ⟨hi, e⟩ := List.getElem?_eq_some_iff.mp h
  conv => lhs; rw [← List.take_append_drop i l, List.drop_eq_getElem_cons hi, e]
theorem take_snoc {l : List Str} {i : Nat} {x : Str} (h : l[i]? = some x) : l.take (i + 1) = l.take i ++ [x] := by
  rw [List.take_add_one, h]; rfl
theorem none_of_upd {H : Hp} {d c : Addr} {o : HO} (h : upd H d o c = none) : H c = none := by
  rw [← h, upd_ne]
  intro e
  rw [e, upd_same] at h
  cases h
theorem pairs_nn {H : Hp} : ∀ {L : List Str} {ys : List V}, Paired (fun x y => ∃ n t, x = V.str n ∧ y = V.ref t ∧ H t = some (.tup [V.str n, V.str n])) (L.map V.str) ys → ∃ ps, ys = ps.map V.ref ∧ Paired (fun p n => H p = some (.tup [V.str n, V.str n])) ps L
  | [], _, .nil => ⟨[], rfl, .nil⟩
  | n :: L, _, .cons r t => by
    obtain ⟨n', a, e1, rfl, h⟩ := r
    cases e1
    obtain ⟨ps, rfl, p⟩ := pairs_nn t
    exact ⟨a :: ps, rfl, .cons h p⟩
theorem pairs_cK {K : PySem.W.Frag} {H H' : Hp} (k : KeepT H H') : ∀ {ps : List Addr} {L : List Str}, Paired (fun p n => H p = some (.tup [V.str n, V.str n])) ps L → Paired (fun p kv => SqT K H' p [kV kv.1, kv.2]) ps (cK L id)
  | _, _, .nil => .nil
  | _, _, .cons r t => .cons (sqT (k _ _ r)) (pairs_cK k t)
theorem putK_le (kvs : List (Key × V)) (k : Key) (v : V) : (putK kvs k v).length ≤ kvs.length + 1 := by
  unfold putK
  split
  · rw [List.length_map]; omega
  · rw [List.length_append]; exact Nat.le_refl _
end NM

namespace NM
open PySem PySem.Spec PyProof.Rows L2 HotX L2H
section
variable {X : Cx}
/-- d != {} -/
def rNeD0 : R2 := fun x y H Q => ∃ a b ks, x = .ref a ∧ y = .ref b ∧ H a = some (.dK ks) ∧ H b = some (.dK []) ∧ Q (.bl (!ks.isEmpty)) H
theorem op_ne_dict0 (hu : X.A.units + 64 < cLine) : OpR X (compareOp .NotEq) rNeD0 := by
  intro pins s σ H x y v u Q I rx ry h
  obtain ⟨a, b, ks, rfl, rfl, ea, eb, q⟩ := h
  obtain rfl : v = Value.ref a := rx
  obtain rfl : u = Value.ref b := ry
  obtain ⟨_, ya, va, ra, da⟩ := (show ObjOk X.prog X.w H s.heap a (.dK ks) from I.hok a _ ea)
  obtain ⟨_, yb, vb, rb, db⟩ := (show ObjOk X.prog X.w H s.heap b (.dK []) from I.hok b _ eb)
  have hb : vb.length = 0 := by rw [← rb.length]; rfl
  have ha : va.length = ks.length := by rw [← ra.length]
  refine PySem.W.keq_ne (knd := mixKind X.prog X.w) (r := true) ya yb da db (by omega) (fun e => ?_) (fin_bl I q ?_)
  · have e0 : va = [] := List.length_eq_zero_iff.mp (by omega)
    rw [e0]
    exact .nil
  · rw [ha, hb]
    cases ks <;> simp
end
/-! ### what the law of heaps asks -/
section
variable {R : Str → Str → Bool} {L : List Str}
theorem sortS_self {l : List Str} (h : l.Pairwise (fun a b => leS a b = true)) : sortS l = l := (sortS_of (List.Perm.refl l) h).symm
theorem rows_flat (hR : ∀ a b, R a b = R b a) (hL : L.Nodup) : (rowsOf R L).flatten.Perm L := by
  refine (List.perm_ext_iff_of_nodup ?_ hL).mpr fun n => ?_
  · unfold rowsOf
    rw [List.Nodup, List.pairwise_flatten]
    refine ⟨fun l hl => ?_, ?_⟩
    · obtain ⟨h, _, rfl⟩ := List.mem_map.mp hl
      exact row_nodup hL h
    · refine List.Pairwise.map _ (fun h1 h2 hne => ?_) (heads_nodup (R := R) hL)
      intro x hx y hy e
      rw [mem_rowOf] at hx hy
      exact hne (by rw [← hx.2, ← hy.2, e])
  · rw [List.mem_flatten]
    constructor
    · rintro ⟨l, hl, hn⟩
      obtain ⟨h, _, rfl⟩ := List.mem_map.mp hl
      exact (mem_rowOf.mp hn).1
    · intro hn
      exact ⟨rowOf R L (hd R L n), List.mem_map.mpr ⟨hd R L n, mem_headsOf.mpr ⟨hd_mem hn, hd_hd hR hn⟩, rfl⟩, mem_rowOf.mpr ⟨hn, rfl⟩⟩
def subRow (r one : List Str) : Bool := r.all fun n => decide (n ∈ one)
theorem filter_one {l : List Str} {p : Str → Bool} {x : Str} (hn : l.Nodup) (hx : x ∈ l) (hp : ∀ y ∈ l, p y = true ↔ y = x) : (l.filter p).length = 1 := by
  have e : l.filter p = l.filter (fun y => y == x) := filter_congr' fun y hy => by
    have := hp y hy
    cases e : p y with
    | true => simp [this.mp e]
    | false =>
      have : y ≠ x := fun z => by rw [this.mpr z] at e; cases e
      simp [this]
  rw [e]
  have := List.count_eq_length_filter (a := x) (l := l)
  rw [← this]
  exact hn.count.trans (if_pos hx)
theorem nest_one {R' : Str → Str → Bool} (hR : ∀ a b, R a b = R b a) (hR' : ∀ a b, R' a b = R' b a) (hL : L.Nodup) (hsub : ∀ a ∈ L, ∀ b ∈ L, R' a b = true → R a b = true) {r : List Str} (h : r ∈ rowsOf R' L) :
    ((rowsOf R L).filter (subRow r)).length = 1 := by
  obtain ⟨h0, hh, rfl⟩ := List.mem_map.mp h
  obtain ⟨hm, he⟩ := mem_headsOf.mp hh
  unfold rowsOf
  rw [List.filter_map, List.length_map]
  refine filter_one (x := hd R L h0) (heads_nodup hL) (mem_headsOf.mpr ⟨hd_mem hm, hd_hd hR hm⟩) fun y hy => ?_
  have h0r : h0 ∈ rowOf R' L h0 := mem_rowOf.mpr ⟨hm, he⟩
  constructor
  · intro hp
    have := List.all_eq_true.mp hp h0 h0r
    exact (mem_rowOf.mp (of_decide_eq_true this)).2.symm
  · rintro rfl
    refine List.all_eq_true.mpr fun n hn => decide_eq_true (mem_rowOf.mpr ?_)
    obtain ⟨hnL, hnh⟩ := mem_rowOf.mp hn
    refine ⟨hnL, hd_eq hR ?_⟩
    have h1 : Rch R' L n h0 := by rw [← hnh]; exact hd_rch hnL
    exact h1.mono (fun _ h => h) hsub
theorem rows_len_all (hR : ∀ a b, R a b = R b a) (hL : L.Nodup) (ha : ∀ a ∈ L, ∀ b ∈ L, R a b = true) : (rowsOf R L).length = if L = [] then 0 else 1 := by
  unfold rowsOf
  rw [List.length_map]
  by_cases e : L = []
  · rw [if_pos e, e]
    unfold headsOf sortS
    rw [List.mergeSort_nil]
    rfl
  · rw [if_neg e]
    obtain ⟨x, hx⟩ := List.exists_mem_of_ne_nil L e
    unfold headsOf
    refine filter_one (x := hd R L x) (sortS_nodup hL) (mem_sortS.mpr (hd_mem hx)) fun y hy => ?_
    have hy' := mem_sortS.mp hy
    have e1 : hd R L y = hd R L x := hd_eq hR (Rch.one hy' hx (ha y hy' x hx))
    simp only [decide_eq_true_eq]
    constructor
    · intro z; rw [← e1, z]
    · intro z; rw [e1, z]
end
theorem reachN_mono : ∀ s < 14, ∀ t < 14, s ≤ t → reachs.getD s 0 ≤ reachs.getD t 0 := by decide
theorem reachI_mono {s t : Int} (h0 : 0 ≤ s) (h1 : s ≤ t) (h2 : t ≤ 13) : reachI s ≤ reachI t := reachN_mono _ (by omega) _ (by omega) (by omega)
theorem near_mono {M : PM} {s t : Int} (h0 : 0 ≤ s) (h1 : s ≤ t) (h2 : t ≤ 13) : ∀ a ∈ namesOf M, ∀ b ∈ namesOf M, nearR M s a b = true → nearR M t a b = true := fun a _ b _ h => by
  unfold nearR at *
  simp only [decide_eq_true_eq] at *
  have := reachI_mono h0 h1 h2
  omega
theorem near_all {M : PM} (ok : PMOk M) : ∀ a ∈ namesOf M, ∀ b ∈ namesOf M, nearR M 13 a b = true := fun a ha b hb => by
  unfold nearR
  have := dist_le (ok.pt ha) (ok.pt hb)
  have e : reachI 13 = 4096 := rfl
  rw [e]
  exact decide_eq_true (by omega)
/-! ### through a lambda -/
open LamX (ExtN)
theorem dct_ext {H H' : Hp} {r : Addr} {kvs : List (Key × V)} (e : ExtN H H') (h : H r = some (.dK kvs)) : H' r = some (.dK kvs) := e _ _ h fun _ z => by cases z
theorem ext_keepT {H H' : Hp} (e : ExtN H H') : KeepT H H' := fun b xs h => tup_ext e h
theorem KvAt.ext {H H' : Hp} {kvs : List (Key × V)} {P : PM} (h : KvAt H kvs P) (e : ExtN H H') : KvAt H' kvs P := h.keepT (ext_keepT e)
theorem HeapsAt.ext {R : Str → Str → Bool} {L : List Str} {H H' : Hp} {kvs : List (Key × V)} (h : HeapsAt H R L kvs) (e : ExtN H H') : HeapsAt H' R L kvs := h.keepT (ext_keepT e)
theorem RowsAt.ext {H H' : Hp} {ts : List Addr} {rows : List (List Str)} (h : RowsAt H ts rows) (e : ExtN H H') : RowsAt H' ts rows := h.keepT (ext_keepT e)
theorem paired_keys {F : V → Str → Prop} : ∀ {kvs : List (Key × V)} {hs : List Str}, Paired (fun kv h => kv.1 = Sum.inr h ∧ F kv.2 h) kvs hs → kvs.map (·.1) = hs.map Sum.inr
  | _, _, .nil => rfl
  | _, _, .cons r t => by rw [List.map_cons, List.map_cons, paired_keys t, r.1]
theorem HeapsAt.keys {R : Str → Str → Bool} {L : List Str} {H : Hp} {kvs : List (Key × V)} (h : HeapsAt H R L kvs) : kvs.map (·.1) = (headsOf R L).map Sum.inr :=
  paired_keys (F := fun v h => ∃ t, v = .ref t ∧ H t = some (.tup ((rowOf R L h).map V.str))) h
theorem HeapsAt.get {R : Str → Str → Bool} {L : List Str} {H : Hp} {g : Addr} {kvs : List (Key × V)} {n : Str} (h : HeapsAt H R L kvs) (hg : H g = some (.dK kvs)) (hn : n ∈ headsOf R L) : ∃ t, DGet H g (.str n) (some (.ref t)) ∧ H t = some (.tup ((rowOf R L n).map V.str)) := by
  obtain ⟨v, e, t, rfl, ht⟩ := paired_val (F := fun v h => ∃ t, v = .ref t ∧ H t = some (.tup ((rowOf R L h).map V.str))) h hn
  have := DGet.k (k := Sum.inr n) hg
  rw [e] at this
  exact ⟨t, this, ht⟩
theorem heads_len (R : Str → Str → Bool) (L : List Str) : (headsOf R L).length ≤ L.length := by
  have := List.length_filter_le (fun n => decide (hd R L n = n)) (sortS L)
  rw [sortS_len] at this
  exact this
theorem row_len (R : Str → Str → Bool) (L : List Str) (h : Str) : (rowOf R L h).length ≤ L.length := by
  have := List.length_filter_le (fun n => decide (hd R L n = h)) (sortS L)
  rw [sortS_len] at this
  exact this
theorem rows_len (R : Str → Str → Bool) (L : List Str) : (rowsOf R L).length ≤ L.length := by
  unfold rowsOf
  rw [List.length_map]
  exact heads_len R L
/-- the rows by their heads, in a list -/
theorem pairs_rows {R : Str → Str → Bool} {L : List Str} {H : Hp} : ∀ {hs : List Str} {ys : List V}, Paired (fun x y => ∃ h t, x = V.str h ∧ y = V.ref t ∧ H t = some (.tup ((rowOf R L h).map V.str))) (hs.map V.str) ys → ∃ ts, ys = ts.map V.ref ∧ RowsAt H ts (hs.map (rowOf R L))
  | [], _, .nil => ⟨[], rfl, .nil⟩
  | n :: L, _, .cons r t => by
    obtain ⟨n', a, e1, rfl, h⟩ := r
    cases e1
    obtain ⟨ps, rfl, p⟩ := pairs_rows t
    exact ⟨a :: ps, rfl, .cons h p⟩
theorem rows_names {R : Str → Str → Bool} {L : List Str} (hn : ∀ n ∈ L, nameS n = true) : ∀ r ∈ rowsOf R L, ∀ n ∈ r, nameS n = true := fun r hr n h => by
  obtain ⟨x, _, rfl⟩ := List.mem_map.mp hr
  exact hn n (mem_rowOf.mp h).1
theorem RowsAt.at {H : Hp} : ∀ {ts : List Addr} {rows : List (List Str)} {i : Nat} {v : V}, RowsAt H ts rows → (ts.map V.ref)[i]? = some v → ∃ t r, v = .ref t ∧ rows[i]? = some r ∧ H t = some (.tup (r.map V.str))
  | _, _, _, _, .nil, h => nomatch h
  | _, _, 0, _, .cons (a := t) (b := r) e p, h => ⟨t, r, (Option.some.inj h).symm, rfl, e⟩
  | _, _, i + 1, _, .cons e p, h => by
    obtain ⟨t, r, h1, h2, h3⟩ := RowsAt.at (i := i) p h
    exact ⟨t, r, h1, h2, h3⟩
theorem flat_take_len (rows : List (List Str)) (j : Nat) : (rows.take j).flatten.length ≤ rows.flatten.length := by
  conv => rhs; rw [← List.take_append_drop j rows, List.flatten_append, List.length_append]
  exact Nat.le_add_right _ _
/-- the tuple at v holds all of r -/
def supB (H : Hp) (r : List Str) (v : V) : Bool := match tupOf H v with
  | some xs => r.all fun n => inV (.str n) xs
  | none => false
theorem supB_at {H : Hp} {r one : List Str} {t : Addr} (h : H t = some (.tup (one.map V.str))) : supB H r (.ref t) = subRow r one := by
  have e : tupOf H (.ref t) = some (one.map V.str) := by
    unfold tupOf
    dsimp only
    rw [h]
  unfold supB subRow
  rw [e]
  show (r.all fun n => inV (.str n) (one.map V.str)) = _
  simp only [inV_str]
theorem supB_filter {H : Hp} {r : List Str} : ∀ {ts : List Addr} {rows : List (List Str)}, RowsAt H ts rows → ((ts.map V.ref).filter (supB H r)).length = (rows.filter (subRow r)).length
  | _, _, .nil => rfl
  | _, _, .cons (a := t) (b := one) e p => by
    have ih := supB_filter (r := r) p
    rw [List.map_cons, List.filter_cons, List.filter_cons, supB_at e]
    cases subRow r one
    · exact ih
    · simp only [if_true, List.length_cons, ih]
end NM

namespace NM
open PySem PySem.Spec PyProof.Rows L2 HotX L2H
open LamX (ExtN Tabs)
/-! ### a list of refusals, growing -/
def WordsAt (H : Hp) (rs : List Addr) (ws : List Str) : Prop := Paired (fun r w => H r = some (.tup [.str "refused", .str w])) rs ws
theorem WordsAt.keepT {H H' : Hp} {rs : List Addr} {ws : List Str} (h : WordsAt H rs ws) (k : KeepT H H') : WordsAt H' rs ws := Paired.mapP h fun _ _ z => k _ _ z
structure Sm (Hb H : Hp) (tl : List (Addr × Str)) (l : Addr) (rs : List Addr) (ws : List Str) : Prop where
  ext : ExtN Hb H
  tabs : Tabs tl H
  lst : H l = some (.lst (rs.map V.ref))
  wds : WordsAt H rs ws
  new : ∃ H3, ExtN Hb H3 ∧ H3 l = none
  few : rs.length ≤ 100
theorem Sm.start {Hb H3 : Hp} {tl : List (Addr × Str)} {l r : Addr} {w : Str} (e : ExtN Hb H3) (t : Tabs tl H3) (h : H3 r = some (.tup [.str "refused", .str w])) (n : H3 l = none) : Sm Hb (upd H3 l (.lst [V.ref r])) tl l [r] [w] :=
  ⟨e.trans (same_upd n).ext, t.ext (same_upd n), upd_same, .cons ((same_upd n) _ _ h) .nil, ⟨H3, e, n⟩, by simp⟩
theorem Sm.start0 {Hb H3 : Hp} {tl : List (Addr × Str)} {l : Addr} (e : ExtN Hb H3) (t : Tabs tl H3) (n : H3 l = none) : Sm Hb (upd H3 l (.lst [])) tl l [] [] :=
  ⟨e.trans (same_upd n).ext, t.ext (same_upd n), upd_same, .nil, ⟨H3, e, n⟩, by decide⟩
theorem Sm.app {Hb H H5 H7 : Hp} {tl : List (Addr × Str)} {l r : Addr} {rs : List Addr} {ws : List Str} {w : Str} (m : Sm Hb H tl l rs ws) (e : ExtN H H5) (t : Tabs tl H5) (s : Same H5 H7) (h : H7 r = some (.tup [.str "refused", .str w])) (hf : rs.length < 100) :
    H7 l = some (.lst (rs.map V.ref)) ∧ (rs.map V.ref).length < sizeLine ∧ Sm Hb (upd H7 l (.lst (rs.map V.ref ++ [V.ref r]))) tl l (rs ++ [r]) (ws ++ [w]) := by
  have e7 := e.trans s.ext
  have l7 := lst_ext e7 m.lst
  obtain ⟨H3, f3, n3⟩ := m.new
  refine ⟨l7, by rw [List.length_map]; exact small1000 (by omega), ext_upd' f3 n3 (m.ext.trans e7), tabs_upd (t.ext s) l7, by rw [upd_same, List.map_append]; rfl, ?_, m.new, by rw [List.length_append]; show _ + 1 ≤ 100; omega⟩
  have kt : KeepT H7 (upd H7 l (.lst (rs.map V.ref ++ [V.ref r]))) := keepT_upd l7 (fun xs e => by cases e)
  exact paired_app ((m.wds.keepT (ext_keepT e7)).keepT kt) (kt _ _ h)
theorem Sm.to {Hb H H5 : Hp} {tl : List (Addr × Str)} {l : Addr} {rs : List Addr} {ws : List Str} (m : Sm Hb H tl l rs ws) (e : ExtN H H5) (t : Tabs tl H5) : Sm Hb H5 tl l rs ws :=
  ⟨m.ext.trans e, t, lst_ext e m.lst, m.wds.keepT (ext_keepT e), m.new, m.few⟩
theorem Sm.same {Hb H H5 : Hp} {tl : List (Addr × Str)} {l : Addr} {rs : List Addr} {ws : List Str} (m : Sm Hb H tl l rs ws) (e : Same H H5) : Sm Hb H5 tl l rs ws := m.to e.ext (m.tabs.ext e)
theorem words_dp {K : PySem.W.Frag} {H : Hp} : ∀ {rs : List Addr} {ws : List Str}, WordsAt H rs ws → DpAll K H (rs.map V.ref) (ws.map wordD)
  | _, _, .nil => .nil
  | _, _, .cons h t => .cons (dp_word h) (words_dp t)
theorem lay_wordsL {ws : List Str} (h : ∀ w ∈ ws, PyData.strOk w = true) : Lay 2 (.list (ws.map wordD)) := lay_list (lay_map fun w hw => lay_word (h w hw))
theorem pairs_words {H : Hp} : ∀ {ws : List Str} {ys : List V}, Paired (fun x y => ∃ w r, x = V.str w ∧ y = V.ref r ∧ H r = some (.tup [.str "refused", .str w])) (ws.map V.str) ys → ∃ rs, ys = rs.map V.ref ∧ WordsAt H rs ws
  | [], _, .nil => ⟨[], rfl, .nil⟩
  | n :: L, _, .cons r t => by
    obtain ⟨n', a, e1, rfl, h⟩ := r
    cases e1
    obtain ⟨ps, rfl, p⟩ := pairs_words t
    exact ⟨a :: ps, rfl, .cons h p⟩
theorem same_of_x {d : Addr} {H H' : Hp} {o : HO} (hn : H d = none) (s : SameX d (upd H d o) H') : Same H H' := fun b x e => by
  have hb := ne_of_none e hn
  exact s b x hb (by rw [upd_ne hb]; exact e)
/-! ### {n: t} and {n: t, m: u}, fresh -/
theorem disp1 {H1 : Hp} {d t : Addr} {n : Str} {xs : List V} (nd : H1 d = none) (nt : upd H1 d (.dK []) t = none) :
    (upd (upd (upd H1 d (.dK [])) t (.tup xs)) d (.dK (mergeK [] [(Sum.inr n, V.ref t)]))) t = some (.tup xs) ∧ ∀ H', SameX d (upd (upd (upd H1 d (.dK [])) t (.tup xs)) d (.dK (mergeK [] [(Sum.inr n, V.ref t)]))) H' → Same H1 H' := by
  have ntd : t ≠ d := fun e => by rw [e, upd_same] at nt; cases nt
  refine ⟨by rw [upd_ne ntd, upd_same], fun H' s b x e => ?_⟩
  have hb := ne_of_none e nd
  have hb2 : b ≠ t := ne_of_none e (none_of_upd nt)
  exact s b x hb (by rw [upd_ne hb, upd_ne hb2, upd_ne hb]; exact e)
theorem disp2 {H1 : Hp} {d t u : Addr} {kvs : List (Key × V)} {xs ys : List V} (nd : H1 d = none) (nt : upd H1 d (.dK []) t = none) (nu : upd (upd H1 d (.dK [])) t (.tup xs) u = none) :
    (upd (upd (upd (upd H1 d (.dK [])) t (.tup xs)) u (.tup ys)) d (.dK (mergeK [] kvs))) t = some (.tup xs) ∧ (upd (upd (upd (upd H1 d (.dK [])) t (.tup xs)) u (.tup ys)) d (.dK (mergeK [] kvs))) u = some (.tup ys) ∧ ∀ H', SameX d (upd (upd (upd (upd H1 d (.dK [])) t (.tup xs)) u (.tup ys)) d (.dK (mergeK [] kvs))) H' → Same H1 H' := by
  have ntd : t ≠ d := fun e => by rw [e, upd_same] at nt; cases nt
  have nut : u ≠ t := fun e => by rw [e, upd_same] at nu; cases nu
  have nu' := none_of_upd nu
  have nud : u ≠ d := fun e => by rw [e, upd_same] at nu'; cases nu'
  refine ⟨by rw [upd_ne ntd, upd_ne nut.symm, upd_same], by rw [upd_ne nud, upd_same], fun H' s b x e => ?_⟩
  have hb := ne_of_none e nd
  have hb2 : b ≠ t := ne_of_none e (none_of_upd nt)
  have hb3 : b ≠ u := ne_of_none e (none_of_upd nu')
  exact s b x hb (by rw [upd_ne hb, upd_ne hb3, upd_ne hb2, upd_ne hb]; exact e)
end NM

namespace NM
open PySem PySem.Spec PyProof.Rows L2 HotX L2H
/-! ### one mark more, one mark less: what becomes of the heads -/
section
variable {R : Str → Str → Bool} {L : List Str}
theorem Rch.congr {R' : Str → Str → Bool} {a b : Str} (h : ∀ a ∈ L, ∀ b ∈ L, R a b = R' a b) : Rch R L a b ↔ Rch R' L a b :=
  ⟨fun r => r.mono (fun _ z => z) fun a ha b hb e => by rw [← h a ha b hb]; exact e, fun r => r.mono (fun _ z => z) fun a ha b hb e => by rw [h a ha b hb]; exact e⟩
theorem hd_congr {R' : Str → Str → Bool} (h : ∀ a ∈ L, ∀ b ∈ L, R a b = R' a b) (n : Str) : hd R L n = hd R' L n := by
  have e : Rch R L n = Rch R' L n := funext fun m => propext (Rch.congr h)
  unfold hd
  rw [e]
/-- the heads when x comes -/
def joinF (f : Str → Str) (x : Str) (N : List Str) (least : Str) : Str → Str := fun n => if n = x then least else if f n ∈ N then least else f n
theorem join_hd {x least : Str} {N : List Str} (hR : ∀ a b, R a b = R b a) (hx : x ∉ L) (hN : ∀ h, h ∈ N ↔ ∃ o ∈ L, R x o = true ∧ hd R L o = h) (hm : least = x ∨ least ∈ N) (hl : leS least x = true ∧ ∀ h ∈ N, leS least h = true) :
    ∀ n ∈ L ++ [x], joinF (hd R L) x N least n = hd R (L ++ [x]) n := by
  have sub : ∀ y ∈ L, y ∈ L ++ [x] := fun y hy => List.mem_append_left _ hy
  have xL : x ∈ L ++ [x] := by simp
  have up : ∀ {a b}, Rch R L a b → Rch R (L ++ [x]) a b := fun h => h.mono sub fun _ _ _ _ e => e
  have mem : ∀ n ∈ L ++ [x], n ≠ x → n ∈ L := fun n hn ne => by
    rcases List.mem_append.mp hn with h | h
    · exact h
    · exact absurd (List.mem_singleton.mp h) ne
  have toN : ∀ h ∈ N, Rch R (L ++ [x]) x h := fun h hh => by
    obtain ⟨o, ho, r, rfl⟩ := (hN h).mp hh
    exact (Rch.one xL (sub o ho) r).trans (up (hd_rch ho))
  have toLeast : Rch R (L ++ [x]) x least := by
    rcases hm with e | e
    · rw [e]; exact .refl xL
    · exact toN _ e
  refine hd_char hR (fun n hn => ?_) (fun a ha b hb r => ?_) (fun n hn => ?_)
  · unfold joinF
    by_cases e : n = x
    · rw [if_pos e, e]; exact toLeast
    · rw [if_neg e]
      have nL := mem n hn e
      by_cases e2 : hd R L n ∈ N
      · rw [if_pos e2]
        exact ((up (hd_rch nL)).trans ((toN _ e2).symm hR)).trans toLeast
      · rw [if_neg e2]; exact up (hd_rch nL)
  · have key : ∀ b ∈ L, R x b = true → joinF (hd R L) x N least b = least := fun b hb r => by
      unfold joinF
      rw [if_neg (fun e => hx (by rw [← e]; exact hb)), if_pos ((hN _).mpr ⟨b, hb, r, rfl⟩)]
    have kx : joinF (hd R L) x N least x = least := by unfold joinF; rw [if_pos rfl]
    by_cases ea : a = x
    · by_cases eb : b = x
      · rw [ea, eb]
      · rw [ea, kx, key b (mem b hb eb) (by rw [← ea]; exact r)]
    · by_cases eb : b = x
      · rw [eb, kx, key a (mem a ha ea) (by rw [hR, ← eb]; exact r)]
      · have e : hd R L a = hd R L b := hd_eq hR (Rch.one (mem a ha ea) (mem b hb eb) r)
        unfold joinF
        rw [if_neg ea, if_neg eb, e]
  · unfold joinF
    by_cases e : n = x
    · rw [if_pos e, e]; exact hl.1
    · rw [if_neg e]
      have nL := mem n hn e
      have hle : leS (hd R L n) n = true := hd_le (.refl nL)
      by_cases e2 : hd R L n ∈ N
      · rw [if_pos e2]; exact leS_trans _ _ _ (hl.2 _ e2) hle
      · rw [if_neg e2]; exact hle
/-- the heads when x goes: those of its heap are gathered anew -/
theorem drop_hd {x : Str} (hR : ∀ a b, R a b = R b a) (hx : x ∈ L) : ∀ n ∈ L.filter (fun n => decide (n ≠ x)),
    (if n ∈ (L.filter (fun n => decide (n ≠ x))).filter (fun n => decide (hd R L n = hd R L x)) then hd R ((L.filter (fun n => decide (n ≠ x))).filter (fun n => decide (hd R L n = hd R L x))) n else hd R L n) = hd R (L.filter (fun n => decide (n ≠ x))) n := by
  have mL : ∀ {y}, y ∈ L.filter (fun n => decide (n ≠ x)) ↔ y ∈ L ∧ y ≠ x := fun {y} => by simp [List.mem_filter]
  have mS : ∀ {y}, y ∈ (L.filter (fun n => decide (n ≠ x))).filter (fun n => decide (hd R L n = hd R L x)) ↔ (y ∈ L ∧ y ≠ x) ∧ hd R L y = hd R L x := fun {y} => by
    rw [List.mem_filter, mL]; simp
  generalize hS : (L.filter (fun n => decide (n ≠ x))).filter (fun n => decide (hd R L n = hd R L x)) = S at mS ⊢
  generalize hL' : L.filter (fun n => decide (n ≠ x)) = L' at mL ⊢
  have sub : ∀ y ∈ S, y ∈ L' := fun y hy => mL.mpr (mS.mp hy).1
  have same : ∀ a ∈ L', ∀ b ∈ L', R a b = true → hd R L a = hd R L b := fun a ha b hb r => hd_eq hR (Rch.one (mL.mp ha).1 (mL.mp hb).1 r)
  have off : ∀ {a b}, Rch R L a b → hd R L a ≠ hd R L x → Rch R L' a b := fun {a b} h hne => by
    have hb : ∀ {c}, Rch R L a c → c ∈ L' := fun {c} hc => mL.mpr ⟨hc.right, fun e => hne (by rw [← e]; exact hd_eq hR hc)⟩
    induction h with
    | refl m => exact .refl (hb (.refl m))
    | step h m r ih => exact .step ih (hb (.step h m r)) r
  refine hd_char hR (fun n hn => ?_) (fun a ha b hb r => ?_) (fun n hn => ?_)
  · by_cases e : n ∈ S
    · rw [if_pos e]
      exact (hd_rch e).mono sub fun _ _ _ _ z => z
    · rw [if_neg e]
      have nL := (mL.mp hn).1
      exact off (hd_rch nL) fun z => e (mS.mpr ⟨mL.mp hn, z⟩)
  · have e := same a ha b hb r
    by_cases ea : a ∈ S
    · have eb : b ∈ S := mS.mpr ⟨mL.mp hb, by rw [← e]; exact (mS.mp ea).2⟩
      rw [if_pos ea, if_pos eb]
      exact hd_eq hR (Rch.one ea eb r)
    · have eb : b ∉ S := fun z => ea (mS.mpr ⟨mL.mp ha, by rw [e]; exact (mS.mp z).2⟩)
      rw [if_neg ea, if_neg eb, e]
  · by_cases e : n ∈ S
    · rw [if_pos e]; exact hd_le (.refl e)
    · rw [if_neg e]; exact hd_le (.refl (mL.mp hn).1)
end
/-! ### the points, one more and one less -/
def dropP (P : PM) (n : Str) : PM := P.filter fun p => decide (p.1 ≠ n)
theorem dropP_names (P : PM) (n : Str) : namesOf (dropP P n) = (namesOf P).filter fun m => decide (m ≠ n) := by
  unfold dropP namesOf
  rw [List.filter_map]
  rfl
theorem PMOk.filter {P : PM} (h : PMOk P) (p : Str × Pt → Bool) : PMOk (P.filter p) where
  nodup := h.nodup.sublist (List.filter_sublist.map _)
  len := Nat.le_trans (List.length_filter_le _ _) h.len
  ok := fun q hq => h.ok q (List.mem_filter.mp hq).1
theorem PMOk.drop {P : PM} (h : PMOk P) (n : Str) : PMOk (dropP P n) := h.filter _
theorem ptOf_filter {P : PM} (h : (namesOf P).Nodup) {q : Str × Pt → Bool} {n : Str} (hn : n ∈ namesOf (P.filter q)) : ptOf (P.filter q) n = ptOf P n := by
  have hn' : (namesOf (P.filter q)).Nodup := h.sublist (List.filter_sublist.map _)
  have h1 := mem_ptOf hn' hn
  exact (ptOf_mem h (List.mem_filter.mp h1).1).symm
theorem near_filter {P : PM} (h : (namesOf P).Nodup) {q : Str × Pt → Bool} {s : Int} : ∀ a ∈ namesOf (P.filter q), ∀ b ∈ namesOf (P.filter q), nearR (P.filter q) s a b = nearR P s a b := fun a ha b hb => by
  unfold nearR
  rw [ptOf_filter h ha, ptOf_filter h hb]
theorem ptOf_app {P : PM} {x n : Str} {q : Pt} (h : (namesOf (P ++ [(x, q)])).Nodup) (hn : n ∈ namesOf P) : ptOf (P ++ [(x, q)]) n = ptOf P n := by
  have hP : (namesOf P).Nodup := h.sublist ((List.sublist_append_left _ _).map _)
  exact ptOf_mem h (List.mem_append_left _ (mem_ptOf hP hn))
theorem ptOf_last {P : PM} {x : Str} {q : Pt} (h : (namesOf (P ++ [(x, q)])).Nodup) : ptOf (P ++ [(x, q)]) x = q := ptOf_mem h (by simp)
theorem near_app {P : PM} {x : Str} {q : Pt} {s : Int} (h : (namesOf (P ++ [(x, q)])).Nodup) : ∀ a ∈ namesOf P, ∀ b ∈ namesOf P, nearR (P ++ [(x, q)]) s a b = nearR P s a b := fun a ha b hb => by
  unfold nearR
  rw [ptOf_app h ha, ptOf_app h hb]
theorem names_app (P : PM) (x : Str) (q : Pt) : namesOf (P ++ [(x, q)]) = namesOf P ++ [x] := by simp [namesOf]
theorem putP_new {P : PM} {x : Str} {q : Pt} (h : x ∉ namesOf P) : putP P x q = P ++ [(x, q)] := by
  unfold putP
  rw [if_neg h]
theorem kvAt_drop {H : Hp} {n : Str} : ∀ {kvs : List (Key × V)} {P : PM}, KvAt H kvs P → KvAt H (dropK kvs (Sum.inr n)) (dropP P n)
  | _, _, .nil => .nil
  | _, _, .cons (a := kv) (b := p) r t => by
    unfold dropK dropP
    by_cases e : p.1 = n
    · rw [List.filter_cons_of_neg (by simp [r.1, e]), List.filter_cons_of_neg (by simp [e])]
      exact kvAt_drop t
    · rw [List.filter_cons_of_pos (by rw [r.1]; simpa using e), List.filter_cons_of_pos (by simpa using e)]
      exact .cons r (kvAt_drop t)
theorem cK_drop {f : Str → Str} {n : Str} (L : List Str) : dropK (cK L f) (Sum.inr n) = cK (L.filter fun m => decide (m ≠ n)) f := by
  unfold dropK cK
  rw [List.filter_map]
  congr 1
  refine filter_congr' fun m _ => ?_
  by_cases e : m = n <;> simp [e]
theorem cK_put_new {L : List Str} {f : Str → Str} {n x : Str} (h : n ∉ L) : putK (cK L f) (Sum.inr n) (.str x) = cK (L ++ [n]) (updf f n x) := by
  have hv : valV (cK L f) (Sum.inr n) = none := by
    have : (cK L f).any (fun kv => decide (kv.1 = Sum.inr n)) = false := by
      rw [List.any_eq_false]
      intro kv hk
      obtain ⟨m, hm, rfl⟩ := List.mem_map.mp hk
      simpa using fun e => h (by rw [← e]; exact hm)
    rw [valV_any] at this
    cases e : valV (cK L f) (Sum.inr n) with
    | none => rfl
    | some v => rw [e] at this; cases this
  rw [putK_new _ hv]
  unfold cK updf
  rw [List.map_append]
  congr 1
  · refine List.map_congr_left fun m hm => ?_
    rw [if_neg (fun e => h (by rw [← e]; exact hm))]
  · simp
end NM

namespace NM
open PySem PySem.Spec PyProof.Rows L2 HotX L2H
open LamX (ExtN Tabs)
/-! ### what stands but for some things -/
def SameD (S : List Addr) (H H' : Hp) : Prop := ∀ b o, b ∉ S → H b = some o → H' b = some o
theorem SameD.refl {S : List Addr} (H : Hp) : SameD S H H := fun _ _ _ h => h
theorem SameD.trans {S : List Addr} {H H1 H2 : Hp} (a : SameD S H H1) (b : SameD S H1 H2) : SameD S H H2 := fun c o n h => b c o n (a c o n h)
theorem _root_.L2.Same.d {S : List Addr} {H H' : Hp} (s : Same H H') : SameD S H H' := fun b o _ h => s b o h
theorem SameD.mono {S S' : List Addr} {H H' : Hp} (h : SameD S H H') (k : ∀ b ∈ S, b ∈ S') : SameD S' H H' := fun b o n e => h b o (fun z => n (k b z)) e
theorem SameD.upd {S : List Addr} {H H' : Hp} {a : Addr} {o : HO} (h : SameD S H H') (ha : a ∈ S) : SameD S H (upd H' a o) := fun b x n e => by
  rw [upd_ne (fun z => n (by rw [z]; exact ha))]
  exact h b x n e
/-- all of S are dicts -/
def Dcts (H : Hp) (S : List Addr) : Prop := ∀ b ∈ S, ∃ kvs, H b = some (.dK kvs)
theorem Dcts.notin {H : Hp} {S : List Addr} (d : Dcts H S) {b : Addr} {o : HO} (h : H b = some o) (hn : ∀ kvs, o ≠ .dK kvs) : b ∉ S := fun z => by
  obtain ⟨kvs, e⟩ := d b z
  rw [h] at e
  exact hn kvs (Option.some.inj e)
theorem SameD.keepT {S : List Addr} {H H' : Hp} (s : SameD S H H') (d : Dcts H S) : KeepT H H' := fun b xs h => s b _ (d.notin h fun _ z => by cases z) h
theorem SameD.lst {S : List Addr} {H H' : Hp} (s : SameD S H H') (d : Dcts H S) {b : Addr} {xs : List V} (h : H b = some (.lst xs)) : H' b = some (.lst xs) := s b _ (d.notin h fun _ z => by cases z) h
theorem SameD.ins {S : List Addr} {H H' : Hp} (s : SameD S H H') (d : Dcts H S) {b C dx : Addr} {fs : List (Str × V)} (h : H b = some (.ins C dx fs)) : H' b = some (.ins C dx fs) := s b _ (d.notin h fun _ z => by cases z) h
theorem SameD.seq {S : List Addr} {H H' : Hp} (s : SameD S H H') (d : Dcts H S) {K : PySem.W.Frag} {a : Addr} {xs : List V} (h : SqL K H a xs) : SqL K H' a xs := by
  rcases h with (h | ⟨od, h⟩) | h
  · exact .inl (.inl (s.lst d h))
  · exact .inl (.inr ⟨od, s _ _ (d.notin h fun _ z => by cases z) h⟩)
  · exact .inr h
theorem SameD.free {S : List Addr} {H H' : Hp} (s : SameD S H H') (d : Dcts H' S) {b : Addr} (h : H' b = none) : H b = none := by
  cases e : H b with
  | none => rfl
  | some o =>
    by_cases m : b ∈ S
    · obtain ⟨kvs, z⟩ := d b m
      rw [h] at z; cases z
    · rw [s b o m e] at h; cases h
/-! ### a map -/
structure MapR where
  m : Addr
  dx : Addr
  pd : Addr
  hl : Addr
  hs : List Addr
def MapR.foot (R : MapR) : List Addr := R.pd :: R.hs
/-- the parts of a map: points, and what its dicts of heads hold -/
structure MapG (C : Addr) (H : Hp) (R : MapR) (M : PM) (F : Nat → List (Key × V)) : Prop where
  ins : H R.m = some (.ins C R.dx [("points", .ref R.pd), ("heads", .ref R.hl)])
  lst : H R.hl = some (.lst (R.hs.map V.ref))
  len : R.hs.length = 14
  nodup : R.foot.Nodup
  ok : PMOk M
  pts : ∃ kvs, H R.pd = some (.dK kvs) ∧ KvAt H kvs M
  hds : ∀ (s : Nat) (h : Addr), R.hs[s]? = some h → H h = some (.dK (F s))
/-- the heads at a size -/
noncomputable def hdF (M : PM) (s : Nat) : List (Key × V) := cK (namesOf M) (hd (nearR M s) (namesOf M))
def MapAt (C : Addr) (H : Hp) (R : MapR) (M : PM) : Prop := MapG C H R M (hdF M)
section
variable {C : Addr} {H H' : Hp} {R : MapR} {M : PM} {F : Nat → List (Key × V)}
theorem MapG.same (h : MapG C H R M F) (s : Same H H') : MapG C H' R M F where
  ins := s _ _ h.ins
  lst := s _ _ h.lst
  len := h.len
  nodup := h.nodup
  ok := h.ok
  pts := let ⟨kvs, e, k⟩ := h.pts; ⟨kvs, s _ _ e, k.keepT s.keepT⟩
  hds := fun z a e => s _ _ (h.hds z a e)
theorem MapG.ext (h : MapG C H R M F) (s : ExtN H H') : MapG C H' R M F where
  ins := s _ _ h.ins fun _ z => by cases z
  lst := lst_ext s h.lst
  len := h.len
  nodup := h.nodup
  ok := h.ok
  pts := let ⟨kvs, e, k⟩ := h.pts; ⟨kvs, dct_ext s e, k.ext s⟩
  hds := fun z a e => dct_ext s (h.hds z a e)
theorem MapG.dcts (h : MapG C H R M F) : Dcts H R.foot := fun b hb => by
  rcases List.mem_cons.mp hb with e | e
  · obtain ⟨kvs, z, _⟩ := h.pts
    exact ⟨kvs, by rw [e]; exact z⟩
  · obtain ⟨i, hi⟩ := List.getElem?_of_mem e
    exact ⟨_, h.hds i b hi⟩
/-- another map stands -/
theorem MapG.off {S : List Addr} (h : MapG C H R M F) (s : SameD S H H') (d : Dcts H S) (dj : ∀ b ∈ R.foot, b ∉ S) : MapG C H' R M F where
  ins := s.ins d h.ins
  lst := s.lst d h.lst
  len := h.len
  nodup := h.nodup
  ok := h.ok
  pts := let ⟨kvs, e, k⟩ := h.pts; ⟨kvs, s _ _ (dj _ (List.mem_cons_self ..)) e, k.keepT (s.keepT d)⟩
  hds := fun z a e => s _ _ (dj _ (List.mem_cons_of_mem _ (List.mem_of_getElem? e))) (h.hds z a e)
theorem MapG.at (h : MapG C H R M F) {s : Nat} (hs : s < 14) : ∃ a, R.hs[s]? = some a ∧ a ∈ R.foot ∧ H a = some (.dK (F s)) := by
  have hl : s < R.hs.length := by rw [h.len]; exact hs
  have e := List.getElem?_eq_getElem hl
  exact ⟨R.hs[s], e, List.mem_cons_of_mem _ (List.getElem_mem hl), h.hds s _ e⟩
theorem nodup_get {l : List Addr} (h : l.Nodup) {i j : Nat} {a : Addr} (hi : l[i]? = some a) (hj : l[j]? = some a) : i = j := by
  obtain ⟨h1, e1⟩ := List.getElem?_eq_some_iff.mp hi
  obtain ⟨h2, e2⟩ := List.getElem?_eq_some_iff.mp hj
  exact (List.getElem_inj h).mp (e1.trans e2.symm)
/-- the heads at one size changed -/
theorem MapG.put (h : MapG C H R M F) {s : Nat} {a : Addr} (ha : R.hs[s]? = some a) (kvs : List (Key × V)) : MapG C (upd H a (.dK kvs)) R M (fun t => if t = s then kvs else F t) := by
  have hd := h.hds s a ha
  have nd := List.nodup_cons.mp h.nodup
  have am : a ∈ R.hs := List.mem_of_getElem? ha
  have kt : KeepT H (upd H a (.dK kvs)) := keepT_upd hd (fun xs e => by cases e)
  refine ⟨?_, ?_, h.len, h.nodup, h.ok, ?_, fun t b hb => ?_⟩
  · rw [upd_ne (ne_of h.ins hd (by intro e; cases e))]; exact h.ins
  · rw [upd_ne (ne_of h.lst hd (by intro e; cases e))]; exact h.lst
  · obtain ⟨k, e, kv⟩ := h.pts
    exact ⟨k, by rw [upd_ne (fun z => nd.1 (by rw [z]; exact am))]; exact e, kv.keepT kt⟩
  · by_cases e : b = a
    · subst e
      rw [upd_same, if_pos (nodup_get nd.2 hb ha)]
    · rw [upd_ne e, if_neg (fun z => e (by rw [z] at hb; rw [ha] at hb; exact (Option.some.inj hb).symm))]
      exact h.hds t b hb
theorem MapG.congr (h : MapG C H R M F) {F' : Nat → List (Key × V)} (e : ∀ s < 14, F s = F' s) : MapG C H R M F' :=
  ⟨h.ins, h.lst, h.len, h.nodup, h.ok, h.pts, fun s a ha => by
    have : s < 14 := by rw [← h.len]; exact (List.getElem?_eq_some_iff.mp ha).1
    rw [← e s this]; exact h.hds s a ha⟩
theorem tabs_d {T : List (Addr × Str)} {S : List Addr} (t : Tabs T H) (s : SameD S H H') (d : Dcts H S) : Tabs T H' := fun p hp => by
  obtain ⟨ps, h1, h2, h3⟩ := t p hp
  refine ⟨ps, s _ _ (d.notin h1 fun _ z => by cases z) h1, h2, fun pos cv hc => ?_⟩
  obtain ⟨c, e1, e2⟩ := h3 pos cv hc
  exact ⟨c, e1, s _ _ (d.notin e2 fun kvs z => by unfold LamX.CodeO at z; cases z) e2⟩
end
/-- a comprehension whose elements are new things, all alike -/
theorem lc_new {J : It} {ok : Hp → Prop} {xs : List V} (en : Enum J ok xs) {j : Nat} {te : TE} {σ : St} {H1 : Hp} {Q : Addr → Hp → Prop} (o : HO)
    (hok : ∀ D H, H1 D = none → SameX D H1 H → ok H) (hlen : xs.length < sizeLine)
    (turn : ∀ (i : Nat) (x : V) (H : Hp) (Cy : VK), xs[i]? = some x → (∀ a, H a = none → Cy (.ref a) (upd H a o)) → te ((wipe σ [j]).set j (some x)) H Cy)
    (done : ∀ D H (hs : List Addr), H1 D = none → Same H1 H → H D = some (.lst (hs.map V.ref)) → hs.length = xs.length → hs.Nodup → D ∉ hs → (∀ h ∈ hs, H1 h = none ∧ H h = some o) → Q D H) :
    ∀ D, H1 D = none → ∃ W : Nat → Nat → Hp → Prop, (∃ m, W 0 m (upd H1 D (.lst []))) ∧ ∀ i m H, W i m H →
      (J.stop i H ∧ Q D H) ∨ (J.go i H ∧ ∃ Nx : Hp → Prop, (∀ H', Nx H' → ∃ m', m' < m ∧ W (i + 1) m' H') ∧ ∀ x H', J.yld i H x H' → gName j x (wipe σ [j]) H' fun σ2 H2 => wipe σ2 [j] = wipe σ [j] ∧ tYes σ2 H2 fun b H3 =>
        if b = true then te σ2 H3 fun y H4 => ∃ acc, H4 D = some (.lst acc) ∧ acc.length < sizeLine ∧ Nx (upd H4 D (.lst (acc ++ [y]))) else Nx H3) := by
  intro D nD
  let Pv : Nat → Hp → Prop := fun i H => Same H1 H ∧ ∃ hs : List Addr, H D = some (.lst (hs.map V.ref)) ∧ hs.length = i ∧ hs.Nodup ∧ D ∉ hs ∧ ∀ h ∈ hs, H1 h = none ∧ H h = some o
  refine ⟨fun i m H => m = xs.length - i ∧ i ≤ xs.length ∧ Pv i H, ⟨xs.length, by simp, Nat.zero_le _, same_upd nD, [], upd_same, rfl, List.nodup_nil, (fun h => nomatch h), fun h hh => nomatch hh⟩, ?_⟩
  rintro i m H ⟨rfl, hi, sm, hs, hD, hl, nd, dn, hh⟩
  have okH : ok H := hok D H nD fun b o _ e => sm b o e
  by_cases hlt : i < xs.length
  · refine .inr ⟨en.go i H okH hlt, Pv (i + 1), fun H' p' => ⟨xs.length - (i + 1), by omega, rfl, hlt, p'⟩, fun x H' y => ?_⟩
    obtain ⟨e, ex⟩ := en.yld i H x H' okH hlt y
    subst e
    refine ⟨wipe_set, ?_⟩
    refine turn i x H' _ ex fun a na => ?_
    have aD : a ≠ D := fun e => by rw [e, hD] at na; cases na
    refine ⟨hs.map V.ref, by rw [upd_ne aD.symm]; exact hD, by rw [List.length_map]; omega, fun b x e => ?_, hs ++ [a], by rw [upd_same, List.map_append]; rfl, by rw [List.length_append]; show _ + 1 = _ + 1; omega, ?_, ?_, fun h hm => ?_⟩
    · rw [upd_ne (ne_of_none e nD), upd_ne (ne_of_none (sm _ _ e) na)]
      exact sm _ _ e
    · exact List.nodup_append.mpr ⟨nd, by simp, fun b hb c hc e => by
        rw [List.mem_singleton.mp hc] at e
        rw [e] at hb
        rw [(hh a hb).2] at na; cases na⟩
    · intro h
      rcases List.mem_append.mp h with h | h
      · exact dn h
      · exact aD (List.mem_singleton.mp h).symm
    · rcases List.mem_append.mp hm with hm | hm
      · have hD' : h ≠ D := fun e => dn (by rw [← e]; exact hm)
        refine ⟨(hh h hm).1, ?_⟩
        rw [upd_ne hD', upd_ne (ne_of_none (hh h hm).2 na)]
        exact (hh h hm).2
      · rw [List.mem_singleton.mp hm]
        refine ⟨sm.free na, ?_⟩
        rw [upd_ne aD, upd_same]
  · have e : i = xs.length := by omega
    subst e
    exact .inl ⟨en.stop _ H okH (Nat.le_refl _), done D H hs nD sm hD hl nd dn hh⟩
/-! ### the marks, told -/
def MarksAt (H : Hp) (ts : List Addr) (L : List Str) (M : PM) : Prop := Paired (fun t n => ∃ v, H t = some (.tup [.str n, v]) ∧ PtAt H v (ptOf M n)) ts L
theorem MarksAt.keepT {H H' : Hp} {ts : List Addr} {L : List Str} {M : PM} (h : MarksAt H ts L M) (k : KeepT H H') : MarksAt H' ts L M := Paired.mapP h fun _ _ ⟨v, e, p⟩ => ⟨v, k _ _ e, p.keepT k⟩
theorem MarksAt.ext {H H' : Hp} {ts : List Addr} {L : List Str} {M : PM} (h : MarksAt H ts L M) (k : ExtN H H') : MarksAt H' ts L M := h.keepT (ext_keepT k)
def ptD (p : Pt) : PyData := .tuple [.int p.1, .int p.2]
def markD (M : PM) (n : Str) : PyData := .tuple [.str n, ptD (ptOf M n)]
theorem pt_dp {K : PySem.W.Frag} {H : Hp} {v : V} {p : Pt} (h : PtAt H v p) : Dp K H v (ptD p) := by
  obtain ⟨a, rfl, e⟩ := h
  exact .tup (sqT e) (.cons (.int _) (.cons (.int _) .nil))
theorem marks_dp {K : PySem.W.Frag} {H : Hp} {M : PM} : ∀ {ts : List Addr} {L : List Str}, MarksAt H ts L M → DpAll K H (ts.map V.ref) (L.map (markD M))
  | _, _, .nil => .nil
  | _, _, .cons ⟨v, e, p⟩ t => .cons (.tup (sqT e) (.cons (.str _) (.cons (pt_dp p) .nil))) (marks_dp t)
theorem pairs_marks {H : Hp} {M : PM} : ∀ {L : List Str} {ys : List V}, Paired (fun x y => ∃ n t v, x = V.str n ∧ y = V.ref t ∧ H t = some (.tup [.str n, v]) ∧ PtAt H v (ptOf M n)) (L.map V.str) ys → ∃ ts, ys = ts.map V.ref ∧ MarksAt H ts L M
  | [], _, .nil => ⟨[], rfl, .nil⟩
  | n :: L, _, .cons r t => by
    obtain ⟨n', a, v, e1, rfl, h, p⟩ := r
    cases e1
    obtain ⟨ps, rfl, q⟩ := pairs_marks t
    exact ⟨a :: ps, rfl, .cons ⟨v, h, p⟩ q⟩
theorem MapG.ptsAt {C : Addr} {H : Hp} {R : MapR} {M : PM} {F : Nat → List (Key × V)} (h : MapG C H R M F) : ∃ kvs, H R.pd = some (.dK kvs) ∧ KvAt H kvs M ∧ PtsAt H R.pd (.dK kvs) M := by
  obtain ⟨kvs, e, k⟩ := h.pts
  exact ⟨kvs, e, k, e, kvs, .inl rfl, k⟩
theorem kvAt_none {H : Hp} {n : Str} {kvs : List (Key × V)} {P : PM} (h : KvAt H kvs P) (hn : n ∉ namesOf P) : valV kvs (Sum.inr n) = none := by
  have := kvAt_any (n := n) h
  rw [valV_any, decide_eq_false hn] at this
  cases e : valV kvs (Sum.inr n) with
  | none => rfl
  | some v => rw [e] at this; cases this
theorem PtsAt.miss {H : Hp} {d : Addr} {o : HO} {P : PM} {n : Str} (h : PtsAt H d o P) (hn : n ∉ namesOf P) : DGet H d (.str n) none := by
  obtain ⟨h1, kvs, l, k⟩ := h
  exact .inl ⟨kvs, .inr n, l.rd h1, rfl, (kvAt_none k hn).symm⟩
end NM

namespace NM
open PySem PySem.Spec PyProof.Rows L2 HotX L2H
open PySem.W (minD AlikeAll alike alikeAll dataLt)
theorem min_mem (d : PyData) : ∀ ds : List PyData, minD d ds ∈ d :: ds := fun ds => by
  unfold minD
  induction ds generalizing d with
  | nil => exact List.mem_cons_self
  | cons e ds ih =>
    rw [List.foldl_cons]
    have := ih (if dataLt e d = true then e else d)
    rcases List.mem_cons.mp this with h | h
    · rw [h]
      split
      · simp
      · simp
    · exact List.mem_cons_of_mem _ (List.mem_cons_of_mem _ h)
theorem vals_getR {xs : List V} {us : List Value} (r : Vals xs us) {i : Nat} {u : Value} (h : us[i]? = some u) : ∃ x, xs[i]? = some x ∧ RelV x u := by
  cases e : xs[i]? with
  | none => rw [r.none_of e] at h; cases h
  | some x =>
    obtain ⟨u', h1, h2⟩ := r.get e
    rw [h1] at h
    cases h
    exact ⟨x, rfl, h2⟩
section
variable {X : Cx}
/-- min(xs) of a list of things alike -/
def rMinD (K : PySem.W.Frag) : List V → Hp → VK → Prop := fun vs H Q => ∃ (a : Addr) (xs : List V) (d : PyData) (ds : List PyData), vs = [.ref a] ∧ SqL K H a xs ∧ DpAll K H xs (d :: ds) ∧ AlikeAll (d :: ds) ∧ PyData.depthAll (d :: ds) ≤ 60 ∧
  ∀ (i : Nat) (v : V), xs[i]? = some v → (d :: ds)[i]? = some (minD d ds) → Q v H
theorem cr_minD (hc : X.calm = true) (hu : X.A.units + 64 < cLine) : CallR X (.builtin "min") (rMinD X.K) := by
  intro pins s σ H vs us Q I r h
  obtain ⟨a, xs, d, ds, rfl, hs, hd, ha, h60, q⟩ := h
  obtain ⟨its, rv, hl, _⟩ := I.list hs
  rw [Vals.ref1 r]
  obtain ⟨as, rd⟩ := Dp.readsAll I (d :: ds) xs its hd rv
  refine PySem.W.min_list_data (I.ok.hd hc) hl.isList (by simpa using rd) ha (by omega) fun i v h' tk bs hv rr hk => ?_
  obtain ⟨cs, r1, hi, hm, _⟩ := PySem.W.readsAll_atA (vs := its.toArray) (by simpa using rd) i v hv
  have hv' : its[i]? = some v := by simpa using hv
  obtain ⟨x, ex, rx⟩ : ∃ x, xs[i]? = some x ∧ RelV x v := vals_getR rv hv'
  refine ⟨x, H, I.kept hk, rx, q i x ex ?_⟩
  have e := PySem.W.alike_unique _ _ v cs bs (ha.1 _ hm _ (min_mem d ds)) (PySem.W.reads_keeps hk r1) rr
  rw [List.getD_eq_getElem?_getD] at e
  rw [List.getElem?_eq_getElem hi] at e ⊢
  exact congrArg some e
end
/-! ### the least of some texts -/
def minS (x : Str) (xs : List Str) : Str := xs.foldl (fun a y => if ltS y a then y else a) x
theorem minS_mem (x : Str) (xs : List Str) : minS x xs ∈ x :: xs := by
  unfold minS
  induction xs generalizing x with
  | nil => exact List.mem_cons_self
  | cons e ds ih =>
    rw [List.foldl_cons]
    have := ih (if ltS e x = true then e else x)
    rcases List.mem_cons.mp this with h | h
    · rw [h]
      split
      · simp
      · simp
    · exact List.mem_cons_of_mem _ (List.mem_cons_of_mem _ h)
theorem leS_not {a b : Str} (h : ¬ ltS b a = true) : leS a b = true := by
  unfold leS
  cases e : ltS b a
  · rfl
  · exact absurd e h
theorem minS_le (x : Str) (xs : List Str) : ∀ y ∈ x :: xs, leS (minS x xs) y = true := by
  unfold minS
  induction xs generalizing x with
  | nil =>
    intro y hy
    rw [List.mem_singleton.mp hy]
    exact leS_refl x
  | cons e ds ih =>
    rw [List.foldl_cons]
    intro y hy
    have ih' := ih (if ltS e x = true then e else x)
    have h0 := ih' _ List.mem_cons_self
    by_cases c : ltS e x = true
    · rw [if_pos c] at ih' h0 ⊢
      rcases List.mem_cons.mp hy with rfl | hy
      · exact leS_trans _ _ _ h0 (leS_of_lt c)
      · rcases List.mem_cons.mp hy with rfl | hy
        · exact h0
        · exact ih' y (List.mem_cons_of_mem _ hy)
    · rw [if_neg c] at ih' h0 ⊢
      rcases List.mem_cons.mp hy with rfl | hy
      · exact h0
      · rcases List.mem_cons.mp hy with rfl | hy
        · exact leS_trans _ _ _ h0 (leS_not c)
        · exact ih' y (List.mem_cons_of_mem _ hy)
theorem minD_strs (x : Str) (xs : List Str) : minD (.str x) (xs.map .str) = .str (minS x xs) := by
  unfold minD minS
  induction xs generalizing x with
  | nil => rfl
  | cons e ds ih =>
    rw [List.map_cons, List.foldl_cons, List.foldl_cons, ← ih]
    have h : dataLt (.str e) (.str x) = ltS e x := PySem.W.dataLt_str e x
    rw [h]
    congr 1
    cases ltS e x <;> rfl
theorem alike_texts (xs : List Str) : AlikeAll (xs.map .str) := by
  refine ⟨fun x hx y hy => ?_, fun x hx => ?_⟩
  · obtain ⟨a, _, rfl⟩ := List.mem_map.mp hx
    obtain ⟨b, _, rfl⟩ := List.mem_map.mp hy
    unfold alike
    rfl
  · obtain ⟨a, _, rfl⟩ := List.mem_map.mp hx
    exact fun z => by cases z
theorem depth_texts : ∀ xs : List Str, PyData.depthAll (xs.map .str) ≤ 60
  | [] => by rw [List.map_nil, PyData.depthAll]; decide
  | x :: xs => by
    rw [List.map_cons, PyData.depthAll, PyData.depth]
    exact Nat.max_le.mpr ⟨by decide, depth_texts xs⟩
section
variable {X : Cx}
def rMinS (K : PySem.W.Frag) : List V → Hp → VK → Prop := fun vs H Q => ∃ (a : Addr) (x : Str) (xs : List Str), vs = [.ref a] ∧ SqL K H a ((x :: xs).map V.str) ∧ Q (.str (minS x xs)) H
theorem cr_minS (hc : X.calm = true) (hu : X.A.units + 64 < cLine) : CallR X (.builtin "min") (rMinS X.K) := by
  intro pins s σ H vs us Q I r h
  obtain ⟨a, x, xs, rfl, hs, q⟩ := h
  refine cr_minD hc hu pins s σ H _ us Q I r ⟨a, _, .str x, xs.map .str, rfl, hs, dpAll_strs (x :: xs), alike_texts (x :: xs), depth_texts (x :: xs), fun i v e1 e2 => ?_⟩
  rw [minD_strs] at e2
  obtain ⟨y, rfl, _, ey⟩ := str_at e1
  have e3 : ((x :: xs).map PyData.str)[i]? = some (.str (minS x xs)) := e2
  rw [List.getElem?_map, ey] at e3
  have e4 : y = minS x xs := by
    have := Option.some.inj e3
    injection this
  rw [e4]
  exact q
end
/-! ### a dict that is a set of texts -/
def nk (ns : List Str) : List (Key × V) := ns.map fun n => (Sum.inr n, V.bl true)
theorem nk_len (ns : List Str) : (nk ns).length = ns.length := by simp [nk]
theorem nk_keys (ns : List Str) : (nk ns).map (·.1) = ns.map Sum.inr := by
  unfold nk
  rw [List.map_map]
  rfl
theorem nk_any (ns : List Str) (h : Str) : ((nk ns).any fun kv => decide (kv.1 = Sum.inr h)) = decide (h ∈ ns) := by
  induction ns with
  | nil => rfl
  | cons n ns ih =>
    show (decide ((Sum.inr n : Key) = Sum.inr h) || (nk ns).any _) = _
    rw [ih]
    by_cases e : n = h
    · simp [e]
    · have e2 : ¬ h = n := fun z => e z.symm
      have e3 : ¬ (Sum.inr n : Key) = Sum.inr h := fun z => e (Sum.inr.inj z)
      simp [e2, e3]
theorem nk_put (ns : List Str) (h : Str) : ∃ ns', putK (nk ns) (Sum.inr h) (.bl true) = nk ns' ∧ (∀ x, x ∈ ns' ↔ x ∈ ns ∨ x = h) ∧ ns'.length ≤ ns.length + 1 := by
  unfold putK
  rw [nk_any]
  by_cases e : h ∈ ns
  · rw [if_pos (by simpa using e)]
    refine ⟨ns, ?_, fun x => ⟨.inl, fun z => z.elim id fun y => by rw [y]; exact e⟩, by omega⟩
    unfold nk
    rw [List.map_map]
    refine List.map_congr_left fun n _ => ?_
    show (if (Sum.inr n : Key) = Sum.inr h then ((Sum.inr n : Key), V.bl true) else (Sum.inr n, V.bl true)) = _
    split <;> rfl
  · rw [if_neg (by simpa using e)]
    refine ⟨ns ++ [h], by simp [nk], fun x => by simp, by simp⟩
theorem nk_get {H : Hp} {a : Addr} {ns : List Str} (h : H a = some (.dK (nk ns))) (x : Str) : ∃ o, DGet H a (.str x) o ∧ o.isSome = decide (x ∈ ns) :=
  ⟨_, DGet.k (k := Sum.inr x) h, by rw [← valV_any, nk_any]⟩
/-! ### one dict of heads changed -/
theorem MapG.x {C : Addr} {H H' : Hp} {R : MapR} {M : PM} {F : Nat → List (Key × V)} (h : MapG C H R M F) {s : Nat} {a : Addr} {kvs : List (Key × V)} (ha : R.hs[s]? = some a) (sx : SameX a H H') (e : H' a = some (.dK kvs)) : MapG C H' R M (fun t => if t = s then kvs else F t) := by
  have sm : Same (upd H a (.dK kvs)) H' := fun b o eb => by
    by_cases z : b = a
    · subst z
      rw [upd_same] at eb
      cases eb
      exact e
    · rw [upd_ne z] at eb
      exact sx b o z eb
  exact (h.put ha kvs).same sm
theorem SameX.d {a : Addr} {S : List Addr} {H H' : Hp} (s : SameX a H H') (h : a ∈ S) : SameD S H H' := fun b o n e => s b o (fun z => n (by rw [z]; exact h)) e
theorem mapRef_at {l : List Addr} {i : Nat} {a : Addr} (h : l[i]? = some a) : (l.map V.ref)[i]? = some (.ref a) := by rw [List.getElem?_map, h]; rfl
/-- a point more -/
theorem MapG.addPt {C : Addr} {H : Hp} {R : MapR} {M : PM} {F : Nat → List (Key × V)} {kvs : List (Key × V)} {n : Str} {p : Pt} {u : V} (h : MapG C H R M F) (hp : H R.pd = some (.dK kvs)) (kv : KvAt H kvs M) (hu : PtAt H u p) (hn : nameS n = true) (nn : n ∉ namesOf M) (hl : M.length < 60) (po : PtOk p) :
    MapG C (upd H R.pd (.dK (putK kvs (Sum.inr n) u))) R (M ++ [(n, p)]) F := by
  have kt : KeepT H (upd H R.pd (.dK (putK kvs (Sum.inr n) u))) := keepT_upd hp (fun xs e => by cases e)
  have nd := List.nodup_cons.mp h.nodup
  refine ⟨?_, ?_, h.len, h.nodup, ?_, ⟨_, upd_same, ?_⟩, fun s a ha => ?_⟩
  · rw [upd_ne (ne_of h.ins hp (by intro e; cases e))]; exact h.ins
  · rw [upd_ne (ne_of h.lst hp (by intro e; cases e))]; exact h.lst
  · rw [← putP_new nn]; exact h.ok.put hl hn po
  · rw [← putP_new nn]
    exact (kv.keepT kt).put (hu.keepT kt)
  · rw [upd_ne (fun e => nd.1 (by rw [← e]; exact List.mem_of_getElem? ha))]
    exact h.hds s a ha
/-- a point less -/
theorem MapG.delPt {C : Addr} {H : Hp} {R : MapR} {M : PM} {F : Nat → List (Key × V)} {kvs : List (Key × V)} {n : Str} (h : MapG C H R M F) (hp : H R.pd = some (.dK kvs)) (kv : KvAt H kvs M) :
    MapG C (upd H R.pd (.dK (dropK kvs (Sum.inr n)))) R (dropP M n) F := by
  have kt : KeepT H (upd H R.pd (.dK (dropK kvs (Sum.inr n)))) := keepT_upd hp (fun xs e => by cases e)
  have nd := List.nodup_cons.mp h.nodup
  refine ⟨?_, ?_, h.len, h.nodup, h.ok.drop n, ⟨_, upd_same, kvAt_drop (kv.keepT kt)⟩, fun s a ha => ?_⟩
  · rw [upd_ne (ne_of h.ins hp (by intro e; cases e))]; exact h.ins
  · rw [upd_ne (ne_of h.lst hp (by intro e; cases e))]; exact h.lst
  · rw [upd_ne (fun e => nd.1 (by rw [← e]; exact List.mem_of_getElem? ha))]
    exact h.hds s a ha
theorem sortS_filter (L : List Str) (p : Str → Bool) : sortS (L.filter p) = (sortS L).filter p :=
  (sortS_of ((sortS_perm L).filter p) ((sortS_sorted L).filter p)).symm
theorem isCount_nat {z : Nat} (h : z < 14) : isCount 0 13 (.int z) = true := by
  unfold isCount
  simp
  omega
theorem str_eq {a b : Str} : decide (V.str a = V.str b) = decide (a = b) := by
  by_cases e : a = b
  · simp [e]
  · have e2 : ¬ V.str a = V.str b := fun z => e (by injection z)
    simp [e]
theorem name_of {v : V} (h : isName v = true) : ∃ n, v = .str n := by
  cases v <;> first | exact ⟨_, rfl⟩ | (simp [isName] at h)
theorem cK_none {f : Str → Str} {n : Str} {L : List Str} (h : n ∉ L) : valV (cK L f) (Sum.inr n) = none := by
  have : (cK L f).any (fun kv => decide (kv.1 = Sum.inr n)) = false := by
    rw [List.any_eq_false]
    intro kv hk
    obtain ⟨m, hm, rfl⟩ := List.mem_map.mp hk
    simpa using fun e => h (by rw [← e]; exact hm)
  rw [valV_any] at this
  cases e : valV (cK L f) (Sum.inr n) with
  | none => rfl
  | some v => rw [e] at this; cases this
/-! ### some of the points -/
theorem filter_names {P : PM} (h : (namesOf P).Nodup) (q : Str → Bool) : P.filter (fun p => q p.1) = ((namesOf P).filter q).map fun n => (n, ptOf P n) := by
  have e : P = (namesOf P).map fun n => (n, ptOf P n) := by
    unfold namesOf
    rw [List.map_map]
    conv => lhs; rw [← List.map_id P]
    refine List.map_congr_left fun p hp => ?_
    show p = (p.1, ptOf P p.1)
    rw [ptOf_mem h (show (p.1, p.2) ∈ P from hp)]
  conv => lhs; rw [e]
  rw [List.filter_map]
  rfl
theorem marks_kv {K : PySem.W.Frag} {H H' : Hp} {M : PM} (k : KeepT H H') : ∀ {ts : List Addr} {S : List Str}, MarksAt H ts S M → ∃ kvs : List (Key × V), Paired (fun p kv => SqT K H' p [kV kv.1, kv.2]) ts kvs ∧ kvs.map (·.1) = S.map Sum.inr ∧ KvAt H' kvs (S.map fun n => (n, ptOf M n))
  | _, _, .nil => ⟨[], .nil, rfl, .nil⟩
  | _, _, .cons (a := t) (b := n) ⟨v, e, p⟩ tl => by
    obtain ⟨kvs, h1, h2, h3⟩ := marks_kv (K := K) k tl
    exact ⟨(Sum.inr n, v) :: kvs, .cons (sqT (k _ _ e)) h1, by rw [List.map_cons, List.map_cons, h2], .cons ⟨rfl, p.keepT k⟩ h3⟩
theorem names_pairs (P : PM) (S : List Str) : namesOf (S.map fun n => (n, ptOf P n)) = S := by
  unfold namesOf
  rw [List.map_map]
  exact List.map_id S
theorem row_at {R : Str → Str → Bool} {L : List Str} (hL : L.Nodup) {r : List Str} (h : r ∈ rowsOf R L) : ∃ x tl, r = x :: tl ∧ ∀ m ∈ r, m ∈ L ∧ hd R L m = x := by
  obtain ⟨x, hx, rfl⟩ := List.mem_map.mp h
  obtain ⟨tl, e⟩ := row_head hL hx
  exact ⟨x, tl, e, fun m hm => mem_rowOf.mp hm⟩
theorem updf_eq {f g : Str → Str} {D : List Str} {m x : Str} (hx : x = g m) (h : ∀ n, f n = if n ∈ D then g n else f n) : True := trivial
end NM
namespace NM
open PySem PySem.Spec PyProof.Rows L2 HotX L2H
/-! ### what a deed makes of the points -/
def doneM (w n : Str) (p : Pt) (M : PM) : Option PM :=
  if decide (n ∈ namesOf M) = decide (w = "put") ∨ (w = "put" ∧ 60 ≤ M.length) then none else if w = "drop" then some (dropP M n) else some (putP M n p)
/-! ### the same points in another order -/
section
variable {R R' : Str → Str → Bool} {L L' : List Str}
theorem sortS_perm' (h : L.Perm L') : sortS L = sortS L' := sortS_of ((sortS_perm L).trans h) (sortS_sorted L)
theorem rch_perm (h : L.Perm L') (hr : ∀ a ∈ L, ∀ b ∈ L, R a b = R' a b) : Rch R L = Rch R' L' := by
  funext a b
  refine propext ⟨fun r => r.mono (fun _ z => h.mem_iff.mp z) fun a ha b hb e => by rw [← hr a ha b hb]; exact e, fun r => r.mono (fun _ z => h.mem_iff.mpr z) fun a ha b hb e => by rw [hr a (h.mem_iff.mpr ha) b (h.mem_iff.mpr hb)]; exact e⟩
theorem hd_perm (h : L.Perm L') (hr : ∀ a ∈ L, ∀ b ∈ L, R a b = R' a b) : hd R L = hd R' L' := by
  funext n
  unfold hd
  rw [rch_perm h hr, sortS_perm' h]
theorem heads_perm (h : L.Perm L') (hr : ∀ a ∈ L, ∀ b ∈ L, R a b = R' a b) : headsOf R L = headsOf R' L' := by
  unfold headsOf
  rw [hd_perm h hr, sortS_perm' h]
theorem row_perm (h : L.Perm L') (hr : ∀ a ∈ L, ∀ b ∈ L, R a b = R' a b) : rowOf R L = rowOf R' L' := by
  funext n
  unfold rowOf
  rw [hd_perm h hr, sortS_perm' h]
end
theorem names_perm {P Q : PM} (h : P.Perm Q) : (namesOf P).Perm (namesOf Q) := h.map _
theorem ptOf_perm {P Q : PM} (h : P.Perm Q) (hn : (namesOf P).Nodup) {n : Str} (hm : n ∈ namesOf P) : ptOf P n = ptOf Q n :=
  (ptOf_mem ((names_perm h).nodup_iff.mp hn) (h.mem_iff.mp (mem_ptOf hn hm))).symm
theorem near_perm {P Q : PM} (h : P.Perm Q) (hn : (namesOf P).Nodup) {s : Int} : ∀ a ∈ namesOf P, ∀ b ∈ namesOf P, nearR P s a b = nearR Q s a b := fun a ha b hb => by
  unfold nearR
  rw [ptOf_perm h hn ha, ptOf_perm h hn hb]
theorem PMOk.perm {P Q : PM} (o : PMOk P) (h : P.Perm Q) : PMOk Q :=
  ⟨(names_perm h).nodup_iff.mp o.nodup, by rw [← h.length_eq]; exact o.len, fun p hp => o.ok p (h.mem_iff.mpr hp)⟩
theorem filter_ne_perm {P : PM} {n : Str} (h : (namesOf P).Nodup) (hn : n ∈ namesOf P) : P.Perm (dropP P n ++ [(n, ptOf P n)]) := by
  have hm := mem_ptOf h hn
  have h1 : (dropP P n).Perm (P.erase (n, ptOf P n)) := by
    have e : P.erase (n, ptOf P n) = P.filter fun p => decide (p.1 ≠ n) := by
      have hP : P.Nodup := (List.pairwise_map.mp h).imp fun hne e => hne (by rw [e])
      rw [hP.erase_eq_filter]
      refine filter_congr' fun p hp => ?_
      by_cases e : p.1 = n
      · have : p = (n, ptOf P n) := by
          rw [← e]
          exact Prod.ext rfl (ptOf_mem h (show (p.1, p.2) ∈ P from hp)).symm
        simp [this]
      · have : ¬ p = (n, ptOf P n) := fun z => e (by rw [z])
        simp [e, this]
    rw [e]
    exact List.Perm.refl _
  exact (List.perm_cons_erase hm).trans (((h1.symm.cons _)).trans (List.perm_append_singleton _ _).symm)
theorem putP_perm {P : PM} {n : Str} {q : Pt} (h : (namesOf P).Nodup) (hn : n ∈ namesOf P) : (putP P n q).Perm (dropP P n ++ [(n, q)]) := by
  have h1 : dropP (putP P n q) n = dropP P n := by
    unfold putP dropP
    rw [if_pos hn, List.filter_map]
    have : ((fun p : Str × Pt => decide (p.1 ≠ n)) ∘ fun p : Str × Pt => if p.1 = n then (p.1, q) else p) = fun p => decide (p.1 ≠ n) := by
      funext p
      show decide ((if p.1 = n then (p.1, q) else p).1 ≠ n) = _
      by_cases e : p.1 = n <;> simp [e]
    rw [this]
    conv => rhs; rw [← List.map_id (P.filter fun p => decide (p.1 ≠ n))]
    refine List.map_congr_left fun p hp => ?_
    have := of_decide_eq_true (List.mem_filter.mp hp).2
    rw [if_neg this]; rfl
  have nd' : (namesOf (putP P n q)).Nodup := by rw [putP_names, if_pos hn]; exact h
  have hn' : n ∈ namesOf (putP P n q) := by rw [putP_names, if_pos hn]; exact hn
  have e2 : ptOf (putP P n q) n = q := ptOf_mem nd' (by
    unfold putP
    rw [if_pos hn]
    obtain ⟨p, hp, e⟩ := List.mem_map.mp hn
    exact List.mem_map.mpr ⟨p, hp, by rw [if_pos e, e]⟩)
  have := filter_ne_perm nd' hn'
  rw [h1, e2] at this
  exact this
theorem dropP_perm {P Q : PM} (h : P.Perm Q) (n : Str) : (dropP P n).Perm (dropP Q n) := h.filter _
/-- what a map makes of a deed -/
def didM (w n : Str) (p : Pt) (M : PM) : Option PM :=
  if w = "put" then (if n ∈ namesOf M ∨ 60 ≤ M.length then none else some (M ++ [(n, p)])) else if n ∈ namesOf M then (if w = "drop" then some (dropP M n) else some (dropP M n ++ [(n, p)])) else none
theorem done_did {w n : Str} {p : Pt} {P M : PM} (hw : w = "put" ∨ w = "drop" ∨ w = "move") (pm : P.Perm M) (nd : (namesOf P).Nodup) :
    (doneM w n p P = none ∧ didM w n p M = none) ∨ ∃ P' M', doneM w n p P = some P' ∧ didM w n p M = some M' ∧ P'.Perm M' := by
  have hmem : n ∈ namesOf P ↔ n ∈ namesOf M := (names_perm pm).mem_iff
  have hlen := pm.length_eq
  have d1 : ("drop" : Str) ≠ "put" := by decide +kernel
  have d2 : ("move" : Str) ≠ "put" := by decide +kernel
  have d3 : ("move" : Str) ≠ "drop" := by decide +kernel
  have d4 : ("put" : Str) ≠ "drop" := by decide +kernel
  unfold doneM didM
  rcases hw with rfl | rfl | rfl
  · rw [if_pos rfl]
    by_cases c : n ∈ namesOf M ∨ 60 ≤ M.length
    · refine .inl ⟨?_, if_pos c⟩
      rw [if_pos]
      rcases c with c | c
      · exact .inl (by simp [hmem.mpr c])
      · exact .inr ⟨rfl, by omega⟩
    · have c' := not_or.mp c
      have nP : n ∉ namesOf P := fun z => c'.1 (hmem.mp z)
      refine .inr ⟨_, _, ?_, if_neg c, (putP_new nP ▸ pm.append_right _)⟩
      rw [if_neg, if_neg d4]
      rintro (z | z)
      · simp [nP] at z
      · omega
  · rw [if_neg d1]
    by_cases c : n ∈ namesOf M
    · refine .inr ⟨dropP P n, dropP M n, ?_, by rw [if_pos c, if_pos rfl], dropP_perm pm n⟩
      rw [if_neg, if_pos rfl]
      rintro (z | z)
      · simp [hmem.mpr c, d1] at z
      · exact d1 z.1
    · refine .inl ⟨?_, if_neg c⟩
      rw [if_pos]
      exact .inl (by have nP : n ∉ namesOf P := fun z => c (hmem.mp z); simp [nP, d1])
  · rw [if_neg d2]
    by_cases c : n ∈ namesOf M
    · refine .inr ⟨putP P n p, dropP M n ++ [(n, p)], ?_, by rw [if_pos c, if_neg d3], (putP_perm nd (hmem.mpr c)).trans ((dropP_perm pm n).append_right _)⟩
      rw [if_neg, if_neg d3]
      rintro (z | z)
      · simp [hmem.mpr c, d2] at z
      · exact d2 z.1
    · refine .inl ⟨?_, if_neg c⟩
      rw [if_pos]
      exact .inl (by have nP : n ∉ namesOf P := fun z => c (hmem.mp z); simp [nP, d2])
theorem lay_marks {M : PM} {L : List Str} (h : ∀ n ∈ L, nameS n = true) : Lay 3 (.list (L.map (markD M))) :=
  lay_list (lay_map fun n hn => lay_tuple (n := 1) (lay_cons ((lay_str (nameS_ok (h n hn))).mono (by decide)) (lay_cons (lay_tuple (n := 0) (lay_cons (lay_int _) (lay_cons (lay_int _) lay_nil))) lay_nil)))
theorem marks_perm {P M : PM} (h : P.Perm M) (nd : (namesOf P).Nodup) : (sortS (namesOf P)).map (markD P) = (sortS (namesOf M)).map (markD M) := by
  rw [← sortS_perm' (names_perm h)]
  refine List.map_congr_left fun n hn => ?_
  unfold markD
  rw [ptOf_perm h nd (mem_sortS.mp hn)]
theorem HeapsAt.getR {R : Str → Str → Bool} {L : List Str} {H : Hp} {g : Addr} {kvs : List (Key × V)} {n : Str} (h : HeapsAt H R L kvs) (hg : Rd H g (.dK kvs)) (hn : n ∈ headsOf R L) : ∃ t, DGet H g (.str n) (some (.ref t)) ∧ H t = some (.tup ((rowOf R L n).map V.str)) := by
  obtain ⟨v, e, t, rfl, ht⟩ := paired_val (F := fun v h => ∃ t, v = .ref t ∧ H t = some (.tup ((rowOf R L h).map V.str))) h hn
  exact ⟨t, .inl ⟨kvs, .inr n, hg, rfl, e.symm⟩, ht⟩
/-- a map stands while another dict is locked -/
theorem MapG.offX {C : Addr} {H H' : Hp} {R : MapR} {M : PM} {F : Nat → List (Key × V)} {g : Addr} {kvs : List (Key × V)} (h : MapG C H R M F) (s : SameX g H H') (hg : H g = some (.dK kvs)) (gf : g ∉ R.foot) : MapG C H' R M F :=
  h.off (S := [g]) (fun b o n e => s b o (fun z => n (by rw [z]; simp)) e) (fun b hb => ⟨kvs, by rw [List.mem_singleton.mp hb]; exact hg⟩) fun b hb z => gf (by rw [← List.mem_singleton.mp z]; exact hb)
theorem notin_foot {C : Addr} {H : Hp} {R : MapR} {M : PM} {F : Nat → List (Key × V)} {g : Addr} (h : MapG C H R M F) (n : H g = none) : g ∉ R.foot := fun z => by
  obtain ⟨k, e⟩ := h.dcts g z
  rw [n] at e; cases e
theorem SameX.keepT {g : Addr} {H H' : Hp} {o : HO} (s : SameX g H H') (hg : H g = some o) (hn : ∀ xs, o ≠ .tup xs) : KeepT H H' := fun b xs e => s b _ (ne_of e hg fun z => hn xs z.symm) e
end NM

namespace NM
open PySem PySem.Spec PyProof.Rows L2 HotX L2H
/-! ### rules whose reading names the written part: told by a name that stands outside a block -/
section
variable {X : Cx} {K : PySem.W.Frag}
theorem op_in_seqK (h : X.K = K) : OpR X (compareOp .In) (rIn K false) := h ▸ op_in_seq
theorem op_notIn_seqK (h : X.K = K) : OpR X (compareOp .NotIn) (rIn K true) := h ▸ op_notIn_seq
theorem op_eqDK (h : X.K = K) (hu : X.A.units + 64 < cLine) : OpR X (compareOp .Eq) (rEqD K) := h ▸ op_eqD hu
theorem op_neDK (h : X.K = K) (hu : X.A.units + 64 < cLine) : OpR X (compareOp .NotEq) (rNeD K) := h ▸ op_neD hu
theorem op_catTK (h : X.K = K) : OpR X (binaryOp .Add) (rCatT K) := h ▸ op_catT
theorem op_catAK (h : X.K = K) : OpR X (binaryOp .Add) (rCatA K) := h ▸ op_catA
theorem ix_listK (h : X.K = K) : IxR X (rIxL K) := h ▸ ix_list
theorem ix_tupK (h : X.K = K) : IxR X (rIxT K) := h ▸ ix_tup
theorem sl_listK (h : X.K = K) : SlR X (rSlL K) := h ▸ sl_list
theorem sl_tupK (h : X.K = K) : SlR X (rSlT K) := h ▸ sl_tup
theorem call_len_seqK (h : X.K = K) : CallR X (.builtin "len") (fun xs H Q => ∃ p ys, xs = [.ref p] ∧ (SqL K H p ys ∨ SqT K H p ys) ∧ Q (.int ys.length) H) := h ▸ call_len_seq
theorem call_list_ofK (h : X.K = K) : CallR X (.type "list") (fun xs H Q => ∃ p ys, xs = [.ref p] ∧ (SqL K H p ys ∨ SqT K H p ys) ∧ ∀ l, H l = none → Q (.ref l) (upd H l (.lst ys))) := h ▸ call_list_of
theorem call_tuple_ofK (h : X.K = K) : CallR X (.type "tuple") (fun xs H Q => ∃ p ys, xs = [.ref p] ∧ ((SqL K H p ys ∧ ∀ l, H l = none → Q (.ref l) (upd H l (.tup ys))) ∨ (SqT K H p ys ∧ Q (.ref p) H))) := h ▸ call_tuple_of
theorem cr_allK (h : X.K = K) (hc : X.calm = true) : CallR X (.builtin "all") (rAll K) := h ▸ cr_all hc
theorem cr_sumK (h : X.K = K) (hc : X.calm = true) : CallR X (.builtin "sum") (rSum K) := h ▸ cr_sum hc
theorem cr_maxK (h : X.K = K) (hc : X.calm = true) : CallR X (.builtin "max") (rMax K) := h ▸ cr_max hc
theorem cr_minK (h : X.K = K) (hc : X.calm = true) : CallR X (.builtin "min") (rMin K) := h ▸ cr_min hc
theorem cr_sortedSK (h : X.K = K) : CallR X (.builtin "sorted") (rSortedS K) := h ▸ cr_sortedS
theorem cr_sortedNK (h : X.K = K) : CallR X (.builtin "sorted") (rSorted K) := h ▸ cr_sorted
theorem call_isiK' (h : X.K = K) : CallR X (.builtin "isinstance") (rIsi K) := h ▸ call_isi
theorem pi_listK {tg l : Expr} {tl : TE} (h : X.K = K) (hl : PE X l tl) : PI X tg l (iList K tl) := h ▸ pi_list hl
theorem pi_tupK {tg l : Expr} {tl : TE} (h : X.K = K) (hl : PE X l tl) : PI X tg l (iTup K tl) := h ▸ pi_tup hl
theorem pe_fldK {e : Expr} {f : Str} {ta : TE} {pos : Pos} (h : X.K = K) (he : PE X e ta) (hb : attributeBase e f X.env (eval e X.env) = eval e X.env) : PE X (.Attribute e f pos) (tFld K ta f) := h ▸ pe_fld he hb
end
end NM

namespace NM
open PySem PySem.Spec PyProof.Rows L2 HotX L2H
theorem HeapsAt.val {R : Str → Str → Bool} {L : List Str} {H : Hp} {kvs : List (Key × V)} {n : Str} (h : HeapsAt H R L kvs) (hn : n ∈ headsOf R L) : ∃ t, valV kvs (Sum.inr n) = some (.ref t) ∧ H t = some (.tup ((rowOf R L n).map V.str)) := by
  obtain ⟨v, e, t, rfl, ht⟩ := paired_val (F := fun v h => ∃ t, v = .ref t ∧ H t = some (.tup ((rowOf R L h).map V.str))) h hn
  exact ⟨t, e, ht⟩
end NM

namespace NM
open PySem PySem.Spec PyProof.Rows L2 HotX L2H
open PySem.W (minD maxD AlikeAll alike alikeAll dataLt)
/-! ### the order of pairs of a number and a text; sorts and the least and greatest of any data -/
theorem max_mem (d : PyData) : ∀ ds : List PyData, maxD d ds ∈ d :: ds := fun ds => by
  unfold maxD
  induction ds generalizing d with
  | nil => exact List.mem_cons_self
  | cons e ds ih =>
    rw [List.foldl_cons]
    have := ih (if dataLt d e = true then e else d)
    rcases List.mem_cons.mp this with h | h
    · rw [h]
      split
      · simp
      · simp
    · exact List.mem_cons_of_mem _ (List.mem_cons_of_mem _ h)
theorem dataLt_pairS (a b : Int) (x y : Str) : dataLt (.tuple [.int a, .str x]) (.tuple [.int b, .str y]) = if a = b then ltS x y else decide (a < b) := by
  show PyProof.Rows.lexLt PyProof.Rows.itemOrd (PySem.W.keyToksAll [.int a, .str x]) (PySem.W.keyToksAll [.int b, .str y]) = _
  by_cases e : a = b
  · rw [if_pos e, PySem.W.dataLt_all_yes (by simp [alike]) (by simp [PyData.eqv, e])]
    by_cases e2 : x = y
    · rw [PySem.W.dataLt_all_yes (by simp [alike]) (by simp [PyData.eqv, e2]), e2, ltS_irrefl]
      exact PyProof.Rows.lex_irrefl _
    · rw [PySem.W.dataLt_all_no (by simp [alike]) (by simp [PyData.eqv, e2])]
      exact PySem.W.dataLt_str x y
  · rw [if_neg e, PySem.W.dataLt_all_no (by simp [alike]) (by simp [PyData.eqv, e])]
    exact PySem.W.dataLt_int a b
/-- the least pair, the first places being numbers -/
def ltP (p q : Int × Str) : Bool := if p.1 = q.1 then ltS p.2 q.2 else decide (p.1 < q.1)
def pairD (p : Int × Str) : PyData := .tuple [.int p.1, .str p.2]
theorem dataLt_pairD (p q : Int × Str) : dataLt (pairD p) (pairD q) = ltP p q := dataLt_pairS _ _ _ _
theorem minD_pairs (p : Int × Str) (ps : List (Int × Str)) : ∃ q ∈ p :: ps, minD (pairD p) (ps.map pairD) = pairD q ∧ ∀ r ∈ p :: ps, ltP r q = false := by
  unfold minD
  induction ps generalizing p with
  | nil => exact ⟨p, by simp, rfl, fun r hr => by rw [List.mem_singleton.mp hr]; unfold ltP; rw [if_pos rfl]; exact ltS_irrefl _⟩
  | cons e ps ih =>
    rw [List.map_cons, List.foldl_cons, dataLt_pairD]
    have tr : ∀ a b c : Int × Str, ltP a b = false → ltP b c = false → ltP a c = false := fun a b c h1 h2 => by
      unfold ltP at *
      cases hx : (if a.1 = c.1 then ltS a.2 c.2 else decide (a.1 < c.1)) with
      | false => rfl
      | true =>
        exfalso
        split at h1 <;> split at h2 <;> split at hx
        · rename_i e1 e2 e3
          rcases ltS_tri a.2 b.2 with h | h | h
          · rw [← h, hx] at h2; cases h2
          · rw [h] at h1; cases h1
          · have := ltS_trans h hx; rw [this] at h2; cases h2
        · rename_i e1 e2 e3; exact e3 (e1.trans e2)
        · rename_i e1 e2 e3; exact e2 (e1 ▸ e3)
        · rename_i e1 e2 e3
          simp only [decide_eq_false_iff_not, decide_eq_true_eq] at *; omega
        · rename_i e1 e2 e3; exact e1 (e3.trans e2.symm)
        · rename_i e1 e2 e3
          simp only [decide_eq_false_iff_not, decide_eq_true_eq] at *; omega
        · rename_i e1 e2 e3
          simp only [decide_eq_false_iff_not, decide_eq_true_eq] at *; omega
        · rename_i e1 e2 e3
          simp only [decide_eq_false_iff_not, decide_eq_true_eq] at *; omega
    have asym : ∀ a b : Int × Str, ltP a b = true → ltP b a = false := fun a b h => by
      unfold ltP at *
      by_cases e1 : a.1 = b.1
      · rw [if_pos e1] at h
        rw [if_pos e1.symm]
        exact ltS_asym h
      · rw [if_neg e1] at h
        rw [if_neg (fun z => e1 z.symm)]
        simp only [decide_eq_true_eq, decide_eq_false_iff_not] at *; omega
    cases c : ltP e p with
    | true =>
      obtain ⟨q, hq, e1, h1⟩ := ih e
      refine ⟨q, List.mem_cons_of_mem _ hq, by simpa using e1, fun r hr => ?_⟩
      rcases List.mem_cons.mp hr with rfl | hr
      · exact tr _ _ _ (asym _ _ c) (h1 e List.mem_cons_self)
      · exact h1 r hr
    | false =>
      obtain ⟨q, hq, e1, h1⟩ := ih p
      refine ⟨q, ?_, by simpa using e1, fun r hr => ?_⟩
      · rcases List.mem_cons.mp hq with h | h
        · rw [h]; exact List.mem_cons_self
        · exact List.mem_cons_of_mem _ (List.mem_cons_of_mem _ h)
      · rcases List.mem_cons.mp hr with rfl | hr
        · exact h1 _ List.mem_cons_self
        · rcases List.mem_cons.mp hr with rfl | hr
          · exact tr _ _ _ c (h1 p List.mem_cons_self)
          · exact h1 r (List.mem_cons_of_mem _ hr)
theorem alike_pairs (ps : List (Int × Str)) : AlikeAll (ps.map pairD) := by
  refine ⟨fun x hx y hy => ?_, fun x hx => ?_⟩
  · obtain ⟨a, _, rfl⟩ := List.mem_map.mp hx
    obtain ⟨b, _, rfl⟩ := List.mem_map.mp hy
    simp [pairD, alike, alikeAll]
  · obtain ⟨a, _, rfl⟩ := List.mem_map.mp hx
    exact fun z => by cases z
theorem depth_pairs : ∀ ps : List (Int × Str), PyData.depthAll (ps.map pairD) ≤ 60
  | [] => by rw [List.map_nil, PyData.depthAll]; decide
  | x :: xs => by
    rw [List.map_cons, PyData.depthAll]
    exact Nat.max_le.mpr ⟨by simp [pairD, PyData.depth, PyData.depthAll], depth_pairs xs⟩
section
variable {X : Cx}
/-- max of a pair of numbers -/
def rMaxT2 (K : PySem.W.Frag) : List V → Hp → VK → Prop := fun vs H Q => ∃ (a : Addr) (i j : Int), vs = [.ref a] ∧ SqT K H a [.int i, .int j] ∧ Q (.int (imax i j)) H
theorem cr_maxT2 (hc : X.calm = true) (hu : X.A.units + 64 < cLine) : CallR X (.builtin "max") (rMaxT2 X.K) := by
  intro pins s σ H vs us Q I r h
  obtain ⟨a, i, j, rfl, hs, q⟩ := h
  obtain ⟨its, rv, hl, _⟩ := I.tuple hs
  rw [Vals.ref1 r]
  obtain ⟨as, rd⟩ := Dp.readsAll I [.int i, .int j] _ its (.cons (.int i) (.cons (.int j) .nil)) rv
  have ha : AlikeAll [.int i, .int j] := ⟨fun x hx y hy => by
    simp only [List.mem_cons, List.not_mem_nil, or_false] at hx hy
    rcases hx with rfl | rfl <;> rcases hy with rfl | rfl <;> simp [alike], fun x hx => by
    simp only [List.mem_cons, List.not_mem_nil, or_false] at hx
    rcases hx with rfl | rfl <;> exact fun z => by cases z⟩
  refine PySem.W.max_tuple_data (I.ok.hd hc) hl (by simpa using rd) ha (by simp [PyData.depthAll, PyData.depth]; omega) fun k v h' tk bs hv rr hk => ?_
  have e : maxD (.int i) [.int j] = .int (imax i j) := by
    show (if dataLt (.int i) (.int j) = true then PyData.int j else .int i) = _
    rw [PySem.W.dataLt_int]
    unfold imax
    by_cases c : i < j
    · rw [if_pos (by simpa using c), if_pos (by omega)]
    · rw [if_neg (by simpa using c), if_neg (by omega)]
  rw [e] at rr
  cases rr with
  | int t u => exact ⟨.int (imax i j), H, I.kept hk, ⟨_, rfl⟩, q⟩
/-- sorted(xs) of a list of things alike -/
def rSortedD (K : PySem.W.Frag) : List V → Hp → VK → Prop := fun vs H Q => ∃ (a : Addr) (xs : List V) (ds : List PyData), vs = [.ref a] ∧ SqL K H a xs ∧ DpAll K H xs ds ∧ PySem.W.AllAlike ds ∧ PySem.W.Sortable ds ∧ (∀ d ∈ ds, d.depth ≤ 60) ∧
  ∀ (zs : List (V × PyData)) (p : Addr), zs.Perm (xs.zip ds) → zs.Pairwise (fun x y => dataLt y.2 x.2 = false) → H p = none → Q (.ref p) (upd H p (.lst (zs.map (·.1))))
theorem dpAll_len {K : PySem.W.Frag} {H : Hp} : ∀ {xs : List V} {ds : List PyData}, DpAll K H xs ds → xs.length = ds.length
  | _, _, .nil => rfl
  | _, _, .cons _ t => by rw [List.length_cons, List.length_cons, dpAll_len t]
theorem each_rel : ∀ {xs : List V} {us : List Value} {ds : List PyData}, Vals xs us → xs.length = ds.length → PySem.W.EachIs (fun v (b : V × PyData) => RelV b.1 v) us (xs.zip ds)
  | _, _, [], .nil, _ => .nil
  | _, _, d :: ds, .cons r t, h => .cons r (each_rel t (by simpa using h))
theorem each_dat {hp : Heap} : ∀ {xs : List V} {us : List Value} {ds : List PyData} {as : List Addr}, ReadsAll hp us ds as → xs.length = ds.length → PySem.W.EachIs (fun v (b : V × PyData) => ∃ as, Reads hp v b.2 as) us (xs.zip ds)
  | [], _, _, _, .nil, _ => .nil
  | x :: xs, _, _, _, .cons h1 h2, h => .cons ⟨_, h1⟩ (each_dat h2 (by simpa using h))
theorem each_vals : ∀ {us : List Value} {zs : List (V × PyData)}, PySem.W.EachIs (fun v (b : V × PyData) => RelV b.1 v) us zs → Vals (zs.map (·.1)) us
  | _, _, .nil => .nil
  | _, _, .cons r t => .cons r (each_vals t)
theorem cr_sortedD (hu : X.A.units + 64 < cLine) : CallR X (.builtin "sorted") (rSortedD X.K) := by
  intro pins s σ H vs us Q I r h
  obtain ⟨a, xs, ds, rfl, hs, hd, hal, hso, h60, q⟩ := h
  obtain ⟨its, rv, hl, hz⟩ := I.list hs
  rw [Vals.ref1 r]
  obtain ⟨as, rd⟩ := Dp.readsAll I ds xs its hd rv
  have hlen := dpAll_len hd
  have esnd : (xs.zip ds).map Prod.snd = ds := List.map_snd_zip (by omega)
  refine PySem.W.sorted_data (enc := Prod.snd) (bs := xs.zip ds) (R := fun v b => RelV b.1 v) hl.isList (each_rel rv hlen) (each_dat rd hlen) (by rw [esnd]; exact hal) (by rw [esnd]; exact hso) (by rw [List.length_zip]; omega) (fun b hb => ?_) fun out ho eo => ?_
  · have : b.2 ∈ ds := by rw [← esnd]; exact List.mem_map.mpr ⟨b, hb, rfl⟩
    have := h60 _ this
    omega
  · have tot := PySem.W.sortLe_total (PyProof.Rows.listOrd PyProof.Rows.itemOrd) false (fun b : V × PyData => PySem.W.keyToks b.2)
    have pm : ((xs.zip ds).mergeSort (PySem.W.dataLe false Prod.snd)).Perm (xs.zip ds) := List.mergeSort_perm _ _
    have pw : ((xs.zip ds).mergeSort (PySem.W.dataLe false Prod.snd)).Pairwise (fun x y => dataLt y.2 x.2 = false) := (PySem.W.sort_pairwise tot (xs.zip ds)).imp fun {x y} h => by
      have h : (!dataLt y.2 x.2) = true := h
      simpa using h
    generalize (xs.zip ds).mergeSort (PySem.W.dataLe false Prod.snd) = zs at eo pm pw
    obtain ⟨n, hn⟩ := PyProof.Rows.sortedAll_at s.heap its out.toArray
    have hd' : s.heap.objs.size ≤ s.heap.objs.size + 1 := Nat.le_succ _
    refine ⟨.ref (s.heap.objs.size + 1), upd H (s.heap.objs.size + 1) (.lst (zs.map (·.1))), I.laid (t' := s.toks) (fun b o e => PyProof.Rows.sortedAll_old e) hd' ⟨?_, out, n, each_vals eo, hn⟩, rfl, q _ _ pm pw (I.hok.fresh hd')⟩
    rw [List.length_map, pm.length_eq, List.length_zip]
    omega
end
/-! ### boxes -/
def IsMin (m : Int) (ns : List Int) : Prop := m ∈ ns ∧ ∀ y ∈ ns, m ≤ y
def IsMax (m : Int) (ns : List Int) : Prop := m ∈ ns ∧ ∀ y ∈ ns, y ≤ m
theorem IsMin.uniq {m k : Int} {ns : List Int} (h : IsMin m ns) (h' : IsMin k ns) : m = k := by
  have h1 := h.2 _ h'.1
  have h2 := h'.2 _ h.1
  omega
theorem IsMax.uniq {m k : Int} {ns : List Int} (h : IsMax m ns) (h' : IsMax k ns) : m = k := by
  have h1 := h.2 _ h'.1
  have h2 := h'.2 _ h.1
  omega
theorem IsMin.perm {m : Int} {ns ms : List Int} (h : IsMin m ns) (p : ns.Perm ms) : IsMin m ms := ⟨p.mem_iff.mp h.1, fun y hy => h.2 y (p.mem_iff.mpr hy)⟩
theorem IsMax.perm {m : Int} {ns ms : List Int} (h : IsMax m ns) (p : ns.Perm ms) : IsMax m ms := ⟨p.mem_iff.mp h.1, fun y hy => h.2 y (p.mem_iff.mpr hy)⟩
theorem min_first {m : Int} {ns : List Int} (h : (m :: ns).Pairwise (· ≤ ·)) : IsMin m (m :: ns) := ⟨List.mem_cons_self, fun y hy => by
  rcases List.mem_cons.mp hy with rfl | hy
  · exact Int.le_refl _
  · exact (List.pairwise_cons.mp h).1 y hy⟩
theorem max_last {m : Int} {ns : List Int} (h : (ns ++ [m]).Pairwise (· ≤ ·)) : IsMax m (ns ++ [m]) := ⟨by simp, fun y hy => by
  rcases List.mem_append.mp hy with hy | hy
  · exact (List.pairwise_append.mp h).2.2 y hy m (by simp)
  · rw [List.mem_singleton.mp hy]; exact Int.le_refl _⟩
abbrev Bx := Int × Int × Int × Int
def xsOf (M : PM) (L : List Str) : List Int := L.map fun n => (ptOf M n).1
def ysOf (M : PM) (L : List Str) : List Int := L.map fun n => (ptOf M n).2
structure IsBox (M : PM) (L : List Str) (b : Bx) : Prop where
  l : IsMin b.1 (xsOf M L)
  t : IsMin b.2.1 (ysOf M L)
  r : IsMax b.2.2.1 (xsOf M L)
  b : IsMax b.2.2.2 (ysOf M L)
theorem IsBox.uniq {M : PM} {L : List Str} {b c : Bx} (h : IsBox M L b) (h' : IsBox M L c) : b = c := by
  obtain ⟨b1, b2, b3, b4⟩ := b
  obtain ⟨c1, c2, c3, c4⟩ := c
  rw [show b1 = c1 from h.l.uniq h'.l, show b2 = c2 from h.t.uniq h'.t, show b3 = c3 from h.r.uniq h'.r, show b4 = c4 from h.b.uniq h'.b]
def boxV (b : Bx) : List V := [.int b.1, .int b.2.1, .int b.2.2.1, .int b.2.2.2]
def boxD (b : Bx) : PyData := .tuple [.int b.1, .int b.2.1, .int b.2.2.1, .int b.2.2.2]
theorem box_dp {K : PySem.W.Frag} {H : Hp} {t : Addr} {b : Bx} (h : H t = some (.tup (boxV b))) : Dp K H (.ref t) (boxD b) := .tup (sqT h) (.cons (.int _) (.cons (.int _) (.cons (.int _) (.cons (.int _) .nil))))
theorem lay_box (b : Bx) : Lay 1 (boxD b) := lay_tuple (n := 0) (lay_cons (lay_int _) (lay_cons (lay_int _) (lay_cons (lay_int _) (lay_cons (lay_int _) lay_nil))))
/-! ### middles -/
def wayI (M : PM) (L : List Str) (n : Str) : Int := dist ((L.length : Int) * (ptOf M n).1, (L.length : Int) * (ptOf M n).2) ((xsOf M L).sum, (ysOf M L).sum)
structure IsMid (M : PM) (L : List Str) (n : Str) : Prop where
  mem : n ∈ L
  le : ∀ m ∈ L, wayI M L n < wayI M L m ∨ (wayI M L n = wayI M L m ∧ leS n m = true)
theorem leS_anti {a b : Str} (h1 : leS a b = true) (h2 : leS b a = true) : a = b := by
  rcases ltS_tri a b with h | h | h
  · exact h
  · unfold leS at h2; rw [h] at h2; cases h2
  · unfold leS at h1; rw [h] at h1; cases h1
theorem IsMid.uniq {M : PM} {L : List Str} {n m : Str} (h : IsMid M L n) (h' : IsMid M L m) : n = m := by
  rcases h.le m h'.mem with a | ⟨a, b⟩
  · rcases h'.le n h.mem with c | ⟨c, d⟩ <;> omega
  · rcases h'.le n h.mem with c | ⟨c, d⟩
    · omega
    · exact leS_anti b d
/-! ### lists of values got from names -/
def strF (g : Str → V) : V → V
  | .str x => g x
  | v => v
theorem strF_map (g : Str → V) : ∀ L : List Str, (L.map V.str).map (strF g) = L.map g
  | [] => rfl
  | x :: L => by rw [List.map_cons, List.map_cons, List.map_cons, strF_map g L]; rfl
theorem paired_getR {α β : Type} {F : α → β → Prop} : ∀ {l : List α} {m : List β} {i : Nat} {y : β}, Paired F l m → m[i]? = some y → ∃ x, l[i]? = some x ∧ F x y
  | _, _, _, _, .nil, h => nomatch h
  | _, _, 0, _, .cons (a := x) r t, h => ⟨x, rfl, by rw [← Option.some.inj h]; exact r⟩
  | _, _, i + 1, _, .cons r t, h => by
    obtain ⟨x, e, f⟩ := paired_getR (i := i) t h
    exact ⟨x, e, f⟩
theorem paired_getL {α β : Type} {F : α → β → Prop} : ∀ {l : List α} {m : List β} {i : Nat} {x : α}, Paired F l m → l[i]? = some x → ∃ y, m[i]? = some y ∧ F x y
  | _, _, _, _, .nil, h => nomatch h
  | _, _, 0, _, .cons (b := y) r t, h => ⟨y, rfl, by rw [← Option.some.inj h]; exact r⟩
  | _, _, i + 1, _, .cons r t, h => by
    obtain ⟨x, e, f⟩ := paired_getL (i := i) t h
    exact ⟨x, e, f⟩
theorem pts_coord {H : Hp} {M : PM} (f : Pt → Int) : ∀ {L : List Str} {ys zs : List V}, Paired (fun x y => ∃ n, x = V.str n ∧ PtAt H y (ptOf M n)) (L.map V.str) ys → Paired (fun x y => ∃ p, PtAt H x p ∧ y = V.int (f p)) ys zs → zs = (L.map fun n => f (ptOf M n)).map V.int
  | [], _, _, .nil, .nil => rfl
  | n :: L, _, _, .cons ⟨m, e, p⟩ t, .cons ⟨q, hq, e2⟩ t2 => by
    cases e
    rw [List.map_cons, List.map_cons, e2, p.inj hq, pts_coord f t t2]
/-- pairs of a number and a text, in tuples -/
def PairsAt (H : Hp) (ts : List Addr) (ps : List (Int × Str)) : Prop := Paired (fun t p => H t = some (.tup [.int p.1, .str p.2])) ts ps
theorem PairsAt.keepT {H H' : Hp} {ts : List Addr} {ps : List (Int × Str)} (h : PairsAt H ts ps) (k : KeepT H H') : PairsAt H' ts ps := Paired.mapP h fun _ _ z => k _ _ z
theorem pairsAt_dp {K : PySem.W.Frag} {H : Hp} : ∀ {ts : List Addr} {ps : List (Int × Str)}, PairsAt H ts ps → DpAll K H (ts.map V.ref) (ps.map pairD)
  | _, _, .nil => .nil
  | _, _, .cons h t => .cons (.tup (sqT h) (.cons (.int _) (.cons (.str _) .nil))) (pairsAt_dp t)
theorem pairD_inj {p q : Int × Str} (h : pairD p = pairD q) : p = q := by
  unfold pairD at h
  injection h with h
  injection h with h1 h2
  injection h1 with h1
  injection h2 with h2 _
  injection h2 with h2
  exact Prod.ext h1 h2
theorem mid_of {M : PM} {L : List Str} {n : Str} (hn : n ∈ L) (h : ∀ r ∈ L.map (fun m => (wayI M L m, m)), ltP r (wayI M L n, n) = false) : IsMid M L n := ⟨hn, fun m hm => by
  have := h _ (List.mem_map.mpr ⟨m, hm, rfl⟩)
  unfold ltP at this
  dsimp only at this
  by_cases e : wayI M L m = wayI M L n
  · rw [if_pos e] at this
    refine .inr ⟨e.symm, ?_⟩
    unfold leS
    rw [this]; rfl
  · rw [if_neg e] at this
    exact .inl (by simp only [decide_eq_false_iff_not] at this; omega)⟩
end NM

namespace NM
open PySem PySem.Spec PyProof.Rows L2 HotX L2H
/-! ### a map newly made; a map stands while other things change -/
def MapR.own (R : MapR) : List Addr := R.m :: R.hl :: R.foot
def Fresh (H : Hp) (R : MapR) : Prop := ∀ b ∈ R.own, H b = none
theorem MapR.foot_own {R : MapR} {b : Addr} (h : b ∈ R.foot) : b ∈ R.own := List.mem_cons_of_mem _ (List.mem_cons_of_mem _ h)
theorem Fresh.mono {H H' : Hp} {R : MapR} (h : Fresh H' R) (s : Same H H') : Fresh H R := fun b hb => s.free (h b hb)
theorem Fresh.notin {H : Hp} {R : MapR} (h : Fresh H R) {b : Addr} {o : HO} (e : H b = some o) : b ∉ R.own := fun z => by rw [h b z] at e; cases e
theorem Fresh.same {H H1 H2 : Hp} {R : MapR} (h : Fresh H R) (s : Same H H1) (s2 : SameD R.foot H1 H2) : Same H H2 := fun b o e => s2 b o (fun z => h.notin e (MapR.foot_own z)) (s b o e)
theorem MapG.has {C : Addr} {H : Hp} {R : MapR} {M : PM} {F : Nat → List (Key × V)} (h : MapG C H R M F) {b : Addr} (hb : b ∈ R.own) : ∃ o, H b = some o := by
  rcases List.mem_cons.mp hb with e | hb
  · rw [e]; exact ⟨_, h.ins⟩
  · rcases List.mem_cons.mp hb with e | hb
    · rw [e]; exact ⟨_, h.lst⟩
    · obtain ⟨k, e⟩ := h.dcts b hb
      exact ⟨_, e⟩
theorem MapG.notin {C : Addr} {H : Hp} {R : MapR} {M : PM} {F : Nat → List (Key × V)} (h : MapG C H R M F) {b : Addr} (n : H b = none) : b ∉ R.own := fun z => by
  obtain ⟨o, e⟩ := h.has z
  rw [n] at e; cases e
theorem MapG.offG {C : Addr} {H H' : Hp} {R : MapR} {M : PM} {F : Nat → List (Key × V)} {S : List Addr} (h : MapG C H R M F) (s : SameD S H H') (kt : KeepT H H') (dj : ∀ b ∈ R.own, b ∉ S) : MapG C H' R M F where
  ins := s _ _ (dj _ (List.mem_cons_self ..)) h.ins
  lst := s _ _ (dj _ (List.mem_cons_of_mem _ (List.mem_cons_self ..))) h.lst
  len := h.len
  nodup := h.nodup
  ok := h.ok
  pts := let ⟨kvs, e, k⟩ := h.pts; ⟨kvs, s _ _ (dj _ (MapR.foot_own (List.mem_cons_self ..))) e, k.keepT kt⟩
  hds := fun z a e => s _ _ (dj _ (MapR.foot_own (List.mem_cons_of_mem _ (List.mem_of_getElem? e)))) (h.hds z a e)
theorem MapG.set {C : Addr} {H : Hp} {R : MapR} {M : PM} {F : Nat → List (Key × V)} {l : Addr} {o o' : HO} (h : MapG C H R M F) (hl : l ∉ R.own) (e : H l = some o) (hn : ∀ xs, o ≠ .tup xs) : MapG C (upd H l o') R M F :=
  h.offG (S := [l]) (fun b x n e => by rw [upd_ne (fun z => n (by rw [z]; simp))]; exact e) (keepT_upd e hn) fun b hb z => hl (by rw [← List.mem_singleton.mp z]; exact hb)
/-- .. while S, of which none is the map's, changes: all but tuples -/
theorem MapG.setX {C : Addr} {H H' : Hp} {R : MapR} {M : PM} {F : Nat → List (Key × V)} {l : Addr} {o : HO} (h : MapG C H R M F) (hl : l ∉ R.own) (s : SameX l H H') (e : H l = some o) (hn : ∀ xs, o ≠ .tup xs) : MapG C H' R M F :=
  h.offG (S := [l]) (fun b x n e => s b x (fun z => n (by rw [z]; simp)) e) (s.keepT e hn) fun b hb z => hl (by rw [← List.mem_singleton.mp z]; exact hb)
theorem seqIndex_nat {j n : Nat} (h : j < n) : seqIndex? (j : Int) n = some j := by
  unfold seqIndex?
  simp <;> omega
/-- the points in the order of some names -/
theorem pm_names {P : PM} (h : (namesOf P).Nodup) : P = (namesOf P).map fun n => (n, ptOf P n) := by
  have := filter_names h (fun _ => true)
  rw [List.filter_eq_self.mpr (fun _ _ => rfl), List.filter_eq_self.mpr (fun _ _ => rfl)] at this
  exact this
theorem names_of_pairs {P : PM} (L : List Str) : namesOf (L.map fun n => (n, ptOf P n)) = L := by
  unfold namesOf
  rw [List.map_map]
  conv => rhs; rw [← List.map_id L]
  rfl
/-- what is still to be put is there, what has been put is not among it -/
theorem put_next {P M : PM} {L : List Str} (ok : PMOk P) (pm : P.Perm (M ++ L.map fun n => (n, ptOf P n))) {n : Str} {L1 L2 : List Str} (e : L = L1 ++ n :: L2) : n ∈ namesOf P ∧ nameS n = true ∧ n ∉ namesOf M ∧ M.length < 60 ∧ PtOk (ptOf P n) ∧ P.Perm ((M ++ [(n, ptOf P n)]) ++ (L1 ++ L2).map fun n => (n, ptOf P n)) := by
  have nmsP : (namesOf P).Perm (namesOf M ++ L) := by
    have := names_perm pm
    have e2 : namesOf (M ++ L.map fun n => (n, ptOf P n)) = namesOf M ++ L := by
      have : namesOf (M ++ L.map fun n => (n, ptOf P n)) = namesOf M ++ namesOf (L.map fun n => (n, ptOf P n)) := List.map_append
      rw [this, names_of_pairs]
    rw [e2] at this
    exact this
  have hnL : n ∈ L := by rw [e]; simp
  have hn : n ∈ namesOf P := nmsP.mem_iff.mpr (List.mem_append_right _ hnL)
  have nd : (namesOf M ++ L).Nodup := nmsP.nodup_iff.mp ok.nodup
  have hl := pm.length_eq
  have h60 := ok.len
  have lL : 0 < L.length := by rw [e]; simp <;> omega
  rw [List.length_append, List.length_map] at hl
  refine ⟨hn, ok.name hn, fun z => (List.nodup_append.mp nd).2.2 n z n hnL rfl, by omega, ok.pt hn, pm.trans ?_⟩
  rw [List.append_assoc]
  refine List.Perm.append_left M ?_
  rw [e, List.map_append, List.map_append, List.map_cons]
  exact List.perm_middle
theorem range0_some {n i : Nat} {x : V} (h : (rangeV 0 n)[i]? = some x) : i < n ∧ x = .int (i : Int) := by
  obtain ⟨h1, h2⟩ := rangeV_some h
  exact ⟨h1, by rw [h2, Int.zero_add]⟩
theorem nmLen {n : Str} (h : nameS n = true) : ∀ x, V.str n = .str x → x.length ≤ 1000 := fun x e => by
  injection e with e
  rw [← e]
  have := nameS_len h
  show n.cps.size ≤ 1000
  omega
theorem xs_perm {P M : PM} {L : List Str} (h : P.Perm M) (nd : (namesOf P).Nodup) (hL : ∀ n ∈ L, n ∈ namesOf P) : xsOf P L = xsOf M L := List.map_congr_left fun n hn => by rw [ptOf_perm h nd (hL n hn)]
theorem ys_perm {P M : PM} {L : List Str} (h : P.Perm M) (nd : (namesOf P).Nodup) (hL : ∀ n ∈ L, n ∈ namesOf P) : ysOf P L = ysOf M L := List.map_congr_left fun n hn => by rw [ptOf_perm h nd (hL n hn)]
theorem way_perm {P M : PM} {L : List Str} (h : P.Perm M) (nd : (namesOf P).Nodup) (hL : ∀ n ∈ L, n ∈ namesOf P) {n : Str} (hn : n ∈ L) : wayI P L n = wayI M L n := by
  unfold wayI
  rw [xs_perm h nd hL, ys_perm h nd hL, ptOf_perm h nd (hL n hn)]
theorem sorted_min {xs ns : List Int} (p : ns.Perm xs) (s : ns.Pairwise (· ≤ ·)) (h : 0 < xs.length) : ∃ x, ns[0]? = some x ∧ IsMin x xs := by
  cases ns with
  | nil => have := p.length_eq; simp at this; omega
  | cons x r => exact ⟨x, rfl, (min_first s).perm p⟩
theorem sorted_max {xs ns : List Int} (p : ns.Perm xs) (s : ns.Pairwise (· ≤ ·)) (h : 0 < xs.length) : ∃ L y, ns = L ++ [y] ∧ IsMax y xs := by
  rcases snoc_cases ns with e | ⟨L, y, e⟩
  · have := p.length_eq; rw [e] at this; simp at this; omega
  · subst e
    exact ⟨L, y, rfl, (max_last s).perm p⟩
theorem row_sub {M : PM} {s t : Int} {h : Str} (h0 : 0 ≤ s) (h1 : s ≤ t) (h2 : t ≤ 13) (hh : h ∈ headsOf (nearR M s) (namesOf M)) : ∀ n ∈ rowOf (nearR M s) (namesOf M) h, n ∈ rowOf (nearR M t) (namesOf M) (hd (nearR M t) (namesOf M) h) := fun n hn => by
  obtain ⟨hnL, e⟩ := mem_rowOf.mp hn
  refine mem_rowOf.mpr ⟨hnL, hd_eq (nearR_symm M t) ?_⟩
  have := (hd_rch (R := nearR M s) hnL).mono (R' := nearR M t) (fun _ z => z) (near_mono h0 h1 h2)
  rw [e] at this
  exact this
/-- the best so far -/
structure Best (M : PM) (L : List Str) (i : Nat) (n : Str) : Prop where
  mem : n ∈ L.take i
  le : ∀ m ∈ L.take i, wayI M L n < wayI M L m ∨ (wayI M L n = wayI M L m ∧ leS n m = true)
theorem Best.first {M : PM} {L : List Str} {m : Str} (e : L[0]? = some m) : Best M L 1 m := by
  have : L.take 1 = [m] := by rw [take_snoc e]; rfl
  exact ⟨by rw [this]; simp, fun k hk => by rw [this] at hk; rw [List.mem_singleton.mp hk]; exact .inr ⟨rfl, leS_refl m⟩⟩
theorem Best.less {M : PM} {L : List Str} {i : Nat} {n m : Str} (h : Best M L i n) (e : L[i]? = some m) (c : wayI M L m < wayI M L n) : Best M L (i + 1) m :=
  ⟨by rw [take_snoc e]; simp, fun k hk => by
    rw [take_snoc e] at hk
    rcases List.mem_append.mp hk with hk | hk
    · rcases h.le k hk with z | ⟨z, _⟩
      · exact .inl (by omega)
      · exact .inl (by omega)
    · rw [List.mem_singleton.mp hk]; exact .inr ⟨rfl, leS_refl m⟩⟩
theorem Best.more {M : PM} {L : List Str} {i : Nat} {n m : Str} (h : Best M L i n) (hs : L.Pairwise (fun a b => leS a b = true)) (e : L[i]? = some m) (c : ¬ wayI M L m < wayI M L n) : Best M L (i + 1) n :=
  ⟨by rw [take_snoc e]; exact List.mem_append_left _ h.mem, fun k hk => by
    rw [take_snoc e] at hk
    rcases List.mem_append.mp hk with hk | hk
    · exact h.le k hk
    · rw [List.mem_singleton.mp hk]
      by_cases z : wayI M L n < wayI M L m
      · exact .inl z
      · refine .inr ⟨by omega, ?_⟩
        obtain ⟨hi, ei⟩ := List.getElem?_eq_some_iff.mp e
        have hp : (L.take (i + 1)).Pairwise (fun a b => leS a b = true) := hs.sublist (List.take_sublist _ _)
        rw [take_snoc e] at hp
        exact (List.pairwise_append.mp hp).2.2 n h.mem m (by simp)⟩
theorem Best.mid {M : PM} {L : List Str} {n : Str} (h : Best M L L.length n) : IsMid M L n := by
  obtain ⟨h1, h2⟩ := h
  rw [List.take_length] at h1 h2
  exact ⟨h1, h2⟩
theorem few3 (n : Nat) : 1 ≤ (if (if (n : Int) < 3 then (n : Int) else 3) > 1 then (if (n : Int) < 3 then (n : Int) else 3) else 1) ∧ (if (if (n : Int) < 3 then (n : Int) else 3) > 1 then (if (n : Int) < 3 then (n : Int) else 3) else 1) ≤ 3 := by
  split <;> split <;> omega
theorem IsBox.perm {P M : PM} {L : List Str} {b : Bx} (h : IsBox M L b) (p : P.Perm M) (nd : (namesOf P).Nodup) (hL : ∀ n ∈ L, n ∈ namesOf P) : IsBox P L b := by
  obtain ⟨h1, h2, h3, h4⟩ := h
  rw [← xs_perm p nd hL] at h1 h3
  rw [← ys_perm p nd hL] at h2 h4
  exact ⟨h1, h2, h3, h4⟩
theorem IsMid.perm {P M : PM} {L : List Str} {n : Str} (h : IsMid M L n) (p : P.Perm M) (nd : (namesOf P).Nodup) (hL : ∀ n ∈ L, n ∈ namesOf P) : IsMid P L n :=
  ⟨h.mem, fun m hm => by rw [way_perm p nd hL h.mem, way_perm p nd hL hm]; exact h.le m hm⟩
theorem IsBox.sub {M : PM} {L L' : List Str} {b c : Bx} (h : IsBox M L b) (h' : IsBox M L' c) (s : ∀ n ∈ L, n ∈ L') : c.1 ≤ b.1 ∧ c.2.1 ≤ b.2.1 ∧ b.2.2.1 ≤ c.2.2.1 ∧ b.2.2.2 ≤ c.2.2.2 := by
  have up : ∀ {f : Str → Int} {x : Int}, x ∈ L.map f → x ∈ L'.map f := fun {f x} hx => by
    obtain ⟨n, hn, e⟩ := List.mem_map.mp hx
    exact List.mem_map.mpr ⟨n, s n hn, e⟩
  exact ⟨h'.l.2 _ (up h.l.1), h'.t.2 _ (up h.t.1), h'.r.2 _ (up h.r.1), h'.b.2 _ (up h.b.1)⟩
theorem pts_dp {K : PySem.W.Frag} {H : Hp} {M : PM} : ∀ {L : List Str} {ys : List V}, Paired (fun x y => ∃ n, x = V.str n ∧ PtAt H y (ptOf M n)) (L.map V.str) ys → DpAll K H ys (L.map fun n => ptD (ptOf M n))
  | [], _, .nil => .nil
  | n :: L, _, .cons ⟨m, e, p⟩ t => by
    cases e
    exact .cons (pt_dp p) (pts_dp t)
theorem lay_pts (M : PM) (L : List Str) : Lay 2 (.list (L.map fun n => ptD (ptOf M n))) := lay_list (lay_map fun _ _ => lay_tuple (n := 0) (lay_cons (lay_int _) (lay_cons (lay_int _) lay_nil)))
theorem perm_sum {a b : List Int} (h : a.Perm b) : a.sum = b.sum := by
  induction h with
  | nil => rfl
  | cons x _ ih => rw [List.sum_cons, List.sum_cons, ih]
  | swap x y l => simp only [List.sum_cons]; omega
  | trans _ _ h1 h2 => exact h1.trans h2
end NM

namespace NM
open PySem PySem.Spec PyProof.Rows L2 HotX L2H
/-! ### what is made for a walk alone is locked for good -/
def tFreeze (t : TE) : TE := fun σ H Q => t σ H fun x H1 => ∃ d u, x = .ref d ∧ H1 d = some u ∧ Mut (some u) ∧ ∀ od, Q (.ref d) (upd H1 d (.frz od u))
theorem pe_freeze {X : Cx} {e : Expr} {t : TE} (h : PE X e t) : PE X e (tFreeze t) := by
  refine ⟨fun pins s σ H Q I hw => ?_⟩
  refine thn (h.run pins s σ H _ I hw) fun v s1 ⟨x, H1, I1, r, d, u, ex, hd, mu, q⟩ => ?_
  obtain ⟨od, I2⟩ := I1.lock hd mu
  subst ex
  exact ⟨.ref d, _, I2, r, q od⟩
theorem enum_vals {d : Addr} {o : Obj} {kvs : List (Key × V)} : Enum (Itd d o kvs) (fun H => H d = some (.frz o (.dK kvs))) (kvs.map (·.2)) where
  go := fun i H ok hi => ⟨ok, by simpa using hi⟩
  yld := fun i H v H' _ hi y => ⟨y.1, by
    obtain ⟨_, k, e⟩ := y
    simp only [List.getElem?_map, e, Option.map_some]⟩
  stop := fun i H ok hi => ⟨ok, by simpa using hi⟩
/-! ### a range that falls -/
def downV (lo c : Int) (n : Nat) : List V := (List.range n).map fun i => V.int (lo + (i : Nat) * c)
theorem downV_len (lo c : Int) (n : Nat) : (downV lo c n).length = n := by simp [downV]
theorem down_get {lo c : Int} {n i : Nat} (h : i < n) : (downV lo c n)[i]? = some (.int (lo + (i : Nat) * c)) := by simp [downV, h]
theorem down_some {lo : Int} {n i : Nat} {x : V} (h : (downV lo (-1) n)[i]? = some x) : i < n ∧ x = .int (lo - (i : Nat)) := by
  have hi : i < n := by
    have := (List.getElem?_eq_some_iff.mp h).1
    rw [downV_len] at this
    exact this
  rw [down_get hi] at h
  exact ⟨hi, by rw [← Option.some.inj h]; congr 1; omega⟩
theorem enum_rangeC {lo c : Int} {n : Nat} : Enum (Itc lo c n) (fun _ => True) (downV lo c n) where
  go := fun i H _ hi => by rw [downV_len] at hi; exact hi
  yld := fun i H x H' _ hi y => ⟨y.1, by
    obtain ⟨_, rfl⟩ := y
    rw [downV_len] at hi
    exact down_get hi⟩
  stop := fun i H _ hi => by rw [downV_len] at hi; exact hi
/-! ### heaps that fall -/
/-- the heads at size y among L -/
noncomputable def splitR (M : PM) (L : List Str) (y : Nat) : List Str := L.filter fun n => decide (hd (nearR M y) (namesOf M) n = n)
/-- what L falls into below z -/
def IsOpen (M : PM) (L : List Str) (z : Nat) (h : Str) (y : Nat) (hs : List Str) : Prop :=
  (y < z ∧ hs = splitR M L y ∧ 1 < hs.length ∧ ∀ x, y < x → x < z → (splitR M L x).length ≤ 1) ∨ (y = 0 ∧ hs = [h] ∧ ∀ x, x < z → (splitR M L x).length ≤ 1)
theorem split_sorted {M : PM} {L : List Str} {y : Nat} (h : L.Pairwise (fun a b => leS a b = true)) : sortS (splitR M L y) = splitR M L y := sortS_self (h.filter _)
theorem split_perm {P M : PM} (h : P.Perm M) (nd : (namesOf P).Nodup) (L : List Str) (y : Nat) : splitR P L y = splitR M L y := by
  unfold splitR
  rw [hd_perm (names_perm h) (near_perm h nd)]
theorem split_len {M : PM} {L : List Str} {y : Nat} : (splitR M L y).length ≤ L.length := List.length_filter_le _ _
/-- the law's way: the heads of all, those among the heap -/
theorem split_heads {M : PM} {h : Str} {z y : Nat} : (headsOf (nearR M y) (namesOf M)).filter (fun n => decide (n ∈ rowOf (nearR M z) (namesOf M) h)) = splitR M (rowOf (nearR M z) (namesOf M) h) y := by
  unfold splitR headsOf rowOf
  rw [List.filter_filter, List.filter_filter]
  refine filter_congr' fun n hn => ?_
  have : n ∈ (sortS (namesOf M)).filter (fun n => decide (hd (nearR M z) (namesOf M) n = h)) ↔ hd (nearR M z) (namesOf M) n = h := by
    rw [List.mem_filter]
    simp [hn]
  by_cases c : hd (nearR M z) (namesOf M) n = h
  · simp [this.mpr c, c]
  · have c2 : ¬ n ∈ (sortS (namesOf M)).filter (fun n => decide (hd (nearR M z) (namesOf M) n = h)) := fun z => c (this.mp z)
    simp [c2, c]
/-- one is open in one way alone -/
theorem IsOpen.uniq {M : PM} {L : List Str} {z : Nat} {h : Str} {y y' : Nat} {hs hs' : List Str} (a : IsOpen M L z h y hs) (b : IsOpen M L z h y' hs') : y = y' ∧ hs = hs' := by
  rcases a with ⟨a1, a2, a3, a4⟩ | ⟨a1, a2, a3⟩
  · rcases b with ⟨b1, b2, b3, b4⟩ | ⟨b1, b2, b3⟩
    · have e : y = y' := by
        rcases Nat.lt_trichotomy y y' with c | c | c
        · have := a4 y' c b1; rw [← b2] at this; omega
        · exact c
        · have := b4 y c a1; rw [← a2] at this; omega
      subst e
      exact ⟨rfl, a2.trans b2.symm⟩
    · have := b3 y a1; rw [← a2] at this; omega
  · rcases b with ⟨b1, b2, b3, b4⟩ | ⟨b1, b2, b3⟩
    · have := a3 y' b1; rw [← b2] at this; omega
    · exact ⟨a1.trans b1.symm, a2.trans b2.symm⟩
theorem rch0_pt {M : PM} {L : List Str} {a b : Str} (h : Rch (nearR M 0) L a b) : ptOf M a = ptOf M b := by
  induction h with
  | refl _ => rfl
  | step _ _ r ih =>
    rw [ih]
    unfold nearR at r
    have r : dist (ptOf M _) (ptOf M _) ≤ 0 := of_decide_eq_true r
    revert r
    unfold dist imax iabs
    intro r
    refine Prod.ext ?_ ?_ <;> (split at r <;> split at r <;> split at r <;> omega)
/-- the heads below of a heap's marks are among it -/
theorem head_in {M : PM} {h n : Str} {z y : Nat} (hy : y ≤ z) (hz : z < 14) (hn : n ∈ rowOf (nearR M z) (namesOf M) h) : hd (nearR M y) (namesOf M) n ∈ rowOf (nearR M z) (namesOf M) h := by
  obtain ⟨hnL, e⟩ := mem_rowOf.mp hn
  refine mem_rowOf.mpr ⟨hd_mem hnL, ?_⟩
  have r := (hd_rch (R := nearR M y) hnL).mono (R' := nearR M z) (fun _ z => z) (near_mono (by omega) (by omega) (by omega))
  rw [← hd_eq (nearR_symm M z) r]
  exact e
theorem mem_splitR {M : PM} {L : List Str} {y : Nat} {n : Str} : n ∈ splitR M L y ↔ n ∈ L ∧ hd (nearR M y) (namesOf M) n = n := by
  unfold splitR
  rw [List.mem_filter]
  simp
/-- a heap that falls no more stands at one point -/
theorem one_point {M : PM} {h : Str} {z : Nat} (hz : z < 14) (hh : h ∈ headsOf (nearR M z) (namesOf M)) (hs : ∀ x, x < z → (splitR M (rowOf (nearR M z) (namesOf M) h) x).length ≤ 1) : ∀ n ∈ rowOf (nearR M z) (namesOf M) h, ptOf M n = ptOf M h := fun n hn => by
  have hhr : h ∈ rowOf (nearR M z) (namesOf M) h := mem_rowOf.mpr ⟨(mem_headsOf.mp hh).1, (mem_headsOf.mp hh).2⟩
  have hr0 : ∀ m ∈ rowOf (nearR M z) (namesOf M) h, hd (nearR M (0 : Nat)) (namesOf M) m ∈ splitR M (rowOf (nearR M z) (namesOf M) h) 0 := fun m hm => by
    have hm1 := (mem_rowOf.mp hm).1
    exact mem_splitR.mpr ⟨head_in (Nat.zero_le z) hz hm, hd_hd (nearR_symm _ _) hm1⟩
  have e : hd (nearR M (0 : Nat)) (namesOf M) n = hd (nearR M (0 : Nat)) (namesOf M) h := by
    by_cases z0 : z = 0
    · subst z0
      rw [(mem_rowOf.mp hn).2, (mem_headsOf.mp hh).2]
    · have hl := hs 0 (by omega)
      have h1 := hr0 n hn
      have h2 := hr0 h hhr
      generalize splitR M (rowOf (nearR M z) (namesOf M) h) 0 = S at hl h1 h2
      match S, hl, h1, h2 with
      | [x], _, h1, h2 => rw [List.mem_singleton.mp h1, List.mem_singleton.mp h2]
  have r1 := hd_rch (R := nearR M ((0 : Nat) : Int)) (mem_rowOf.mp hn).1
  have r2 := hd_rch (R := nearR M ((0 : Nat) : Int)) (mem_headsOf.mp hh).1
  rw [rch0_pt r1, rch0_pt r2, e]
/-- the rows below, of the heads among a heap, are together the heap -/
theorem split_rows {M : PM} {h : Str} {z y : Nat} (hy : y ≤ z) (hz : z < 14) (nd : (namesOf M).Nodup) : ((splitR M (rowOf (nearR M z) (namesOf M) h) y).map (rowOf (nearR M y) (namesOf M))).flatten.Perm (rowOf (nearR M z) (namesOf M) h) := by
  have ndr : (rowOf (nearR M z) (namesOf M) h).Nodup := row_nodup nd h
  refine (List.perm_ext_iff_of_nodup ?_ ndr).mpr fun n => ?_
  · rw [List.Nodup, List.pairwise_flatten]
    refine ⟨fun l hl => ?_, ?_⟩
    · obtain ⟨h, _, rfl⟩ := List.mem_map.mp hl
      exact row_nodup nd h
    · refine List.Pairwise.map _ (fun h1 h2 hne => ?_) (show (splitR M (rowOf (nearR M z) (namesOf M) h) y).Nodup from ndr.filter _)
      intro x hx y hy e
      rw [mem_rowOf] at hx hy
      exact hne (by rw [← hx.2, ← hy.2, e])
  · rw [List.mem_flatten]
    constructor
    · rintro ⟨l, hl, hn⟩
      obtain ⟨k, hk, rfl⟩ := List.mem_map.mp hl
      obtain ⟨hk1, _⟩ := mem_splitR.mp hk
      obtain ⟨hnL, e⟩ := mem_rowOf.mp hn
      refine mem_rowOf.mpr ⟨hnL, ?_⟩
      have r := (hd_rch (R := nearR M y) hnL).mono (R' := nearR M z) (fun _ z => z) (near_mono (by omega) (by omega) (by omega))
      rw [hd_eq (nearR_symm M z) r, e]
      exact (mem_rowOf.mp hk1).2
    · intro hn
      have hnL := (mem_rowOf.mp hn).1
      exact ⟨_, List.mem_map.mpr ⟨hd (nearR M y) (namesOf M) n, mem_splitR.mpr ⟨head_in hy hz hn, hd_hd (nearR_symm _ _) hnL⟩, rfl⟩, mem_rowOf.mpr ⟨hnL, rfl⟩⟩
/-! ### ways -/
def wayStep (row : Nat → List Str) (acc : List (Nat × List Str)) (s : Nat) : List (Nat × List Str) := if acc.getLast?.map (·.2) = some (row s) then acc else acc ++ [(s, row s)]
def wayOf (row : Nat → List Str) : Nat → List (Nat × List Str)
  | 0 => []
  | k + 1 => wayStep row (wayOf row k) (13 - k)
theorem wayOf_len (row : Nat → List Str) : ∀ k, (wayOf row k).length ≤ k
  | 0 => Nat.le_refl _
  | k + 1 => by
    have := wayOf_len row k
    unfold wayOf wayStep
    split
    · omega
    · rw [List.length_append]; simp; omega
theorem wayOf_congr {row row' : Nat → List Str} (h : ∀ s, s < 14 → row s = row' s) : ∀ k, wayOf row k = wayOf row' k
  | 0 => rfl
  | k + 1 => by
    unfold wayOf wayStep
    rw [wayOf_congr h k, h (13 - k) (by omega)]
theorem wayOf_mem {row : Nat → List Str} {p : Nat × List Str} : ∀ {k}, p ∈ wayOf row k → ∃ s, s < 14 ∧ p = (s, row s)
  | k + 1, h => by
    unfold wayOf wayStep at h
    split at h
    · exact wayOf_mem h
    · rcases List.mem_append.mp h with h | h
      · exact wayOf_mem h
      · exact ⟨13 - k, by omega, List.mem_singleton.mp h⟩
noncomputable def rowAt (M : PM) (n : Str) (s : Nat) : List Str := rowOf (nearR M s) (namesOf M) (hd (nearR M s) (namesOf M) n)
def WayAt (H : Hp) (ts : List Addr) (ws : List (Nat × List Str)) : Prop := Paired (fun t w => ∃ u, H t = some (.tup [.int (w.1 : Nat), .ref u]) ∧ H u = some (.tup (w.2.map V.str))) ts ws
theorem WayAt.keepT {H H' : Hp} {ts : List Addr} {ws : List (Nat × List Str)} (h : WayAt H ts ws) (k : KeepT H H') : WayAt H' ts ws := Paired.mapP h fun _ _ ⟨u, e, f⟩ => ⟨u, k _ _ e, k _ _ f⟩
def wayD (w : Nat × List Str) : PyData := .tuple [.int (w.1 : Nat), .tuple (w.2.map PyData.str)]
theorem way_dp {K : PySem.W.Frag} {H : Hp} : ∀ {ts : List Addr} {ws : List (Nat × List Str)}, WayAt H ts ws → DpAll K H (ts.map V.ref) (ws.map wayD)
  | _, _, .nil => .nil
  | _, _, .cons ⟨u, e, f⟩ t => .cons (.tup (sqT e) (.cons (.int _) (.cons (.tup (sqT f) (dpAll_strs _)) .nil))) (way_dp t)
theorem lay_way {ws : List (Nat × List Str)} (h : ∀ w ∈ ws, ∀ n ∈ w.2, nameS n = true) : Lay 3 (.list (ws.map wayD)) := lay_list (n := 2) (lay_map fun w hw => lay_tuple (n := 1) (lay_cons ((lay_int _).mono (by decide)) (lay_cons (lay_tuple (n := 0) (lay_map fun n hn => lay_str (nameS_ok (h w hw n hn)))) lay_nil)))
theorem eqv_nilD {ws : List PyData} : PyData.eqv (.list ws) (.list []) = ws.isEmpty := by
  cases ws <;> rfl
theorem rowAt_names {M : PM} (ok : PMOk M) {n : Str} {k : Nat} : ∀ w ∈ wayOf (rowAt M n) k, ∀ m ∈ w.2, nameS m = true := fun w hw m hm => by
  obtain ⟨s, _, rfl⟩ := wayOf_mem hw
  exact ok.name (mem_rowOf.mp hm).1
theorem rowAt_perm {P M : PM} (h : P.Perm M) (nd : (namesOf P).Nodup) (n : Str) : rowAt P n = rowAt M n := by
  funext s
  unfold rowAt
  rw [row_perm (names_perm h) (near_perm h nd), hd_perm (names_perm h) (near_perm h nd)]
/-- texts alike, as == tells -/
theorem eqv_strs : ∀ a b : List Str, PyData.eqvAll (a.map PyData.str) (b.map PyData.str) = decide (a = b)
  | [], [] => by simp [PyData.eqvAll]
  | [], y :: b => by simp [PyData.eqvAll]
  | x :: a, [] => by simp [PyData.eqvAll]
  | x :: a, y :: b => by
    rw [List.map_cons, List.map_cons, PySem.W.eqv_all_cons, eqv_strs a b]
    by_cases e : x = y
    · simp [PyData.eqv, e]
    · simp [PyData.eqv, e]
theorem eqv_tupS (a b : List Str) : PyData.eqv (.tuple (a.map PyData.str)) (.tuple (b.map PyData.str)) = decide (a = b) := by
  have := eqv_strs a b
  simpa [PyData.eqv] using this
/-! ### the heap of a mark, among all -/
def hasB (H : Hp) (n : Str) (v : V) : Bool := match tupOf H v with
  | some xs => inV (.str n) xs
  | none => false
theorem hasB_at {H : Hp} {n : Str} {one : List Str} {t : Addr} (h : H t = some (.tup (one.map V.str))) : hasB H n (.ref t) = decide (n ∈ one) := by
  have e : tupOf H (.ref t) = some (one.map V.str) := tupOf_ref h
  unfold hasB
  rw [e]
  exact inV_str n one
theorem has_first {R : Str → Str → Bool} {L : List Str} {H : Hp} {n : Str} (hn : n ∈ L) : ∀ {kvs : List (Key × V)} {hs : List Str}, Paired (fun kv h => kv.1 = Sum.inr h ∧ ∃ t, kv.2 = .ref t ∧ H t = some (.tup ((rowOf R L h).map V.str))) kvs hs → hd R L n ∈ hs →
    ∃ t r, (kvs.map (·.2)).filter (hasB H n) = .ref t :: r ∧ H t = some (.tup ((rowOf R L (hd R L n)).map V.str))
  | _, _, .nil, h => nomatch h
  | _, _, .cons (a := kv) (b := h0) ⟨_, t, e, ht⟩ tl, h => by
    rw [List.map_cons, List.filter_cons, e, hasB_at ht]
    by_cases c : hd R L n = h0
    · rw [if_pos (decide_eq_true (mem_rowOf.mpr ⟨hn, c⟩))]
      exact ⟨t, _, rfl, by rw [c]; exact ht⟩
    · rw [if_neg (by simpa using fun z => c (mem_rowOf.mp z).2)]
      exact has_first hn tl ((List.mem_cons.mp h).elim (fun z => absurd z c) id)
theorem paired_snocR {α β : Type} {F : α → β → Prop} : ∀ {l : List α} {m : List β} {b : β}, Paired F l (m ++ [b]) → ∃ l0 a, l = l0 ++ [a] ∧ Paired F l0 m ∧ F a b
  | _, [], _, .cons (a := x) r .nil => ⟨[], x, rfl, .nil, r⟩
  | _, y :: m, _, .cons (a := x) r t => by
    obtain ⟨l0, a, e, p, f⟩ := paired_snocR (m := m) t
    exact ⟨x :: l0, a, by rw [e]; rfl, .cons r p, f⟩
theorem wayOf_first {row : Nat → List Str} {i : Nat} (e : wayOf row i = []) : wayOf row (i + 1) = [] ++ [(13 - i, row (13 - i))] := by
  show wayStep row (wayOf row i) (13 - i) = _
  unfold wayStep
  rw [e]
  rfl
theorem wayOf_same {row : Nat → List Str} {i : Nat} {L : List (Nat × List Str)} {p : Nat × List Str} (e : wayOf row i = L ++ [p]) (c : p.2 = row (13 - i)) : wayOf row (i + 1) = wayOf row i := by
  show wayStep row (wayOf row i) (13 - i) = _
  unfold wayStep
  rw [e, List.getLast?_concat, if_pos (by simp [c])]
theorem wayOf_else {row : Nat → List Str} {i : Nat} {L : List (Nat × List Str)} {p : Nat × List Str} (e : wayOf row i = L ++ [p]) (c : ¬ p.2 = row (13 - i)) : wayOf row (i + 1) = wayOf row i ++ [(13 - i, row (13 - i))] := by
  show wayStep row (wayOf row i) (13 - i) = _
  unfold wayStep
  rw [e, List.getLast?_concat, if_neg (by simpa using c)]
/-! ### a map filled from a dict, in its order -/
theorem same_lock {H H' : Hp} {d : Addr} {u : HO} (s : Same H H') : Same (upd H d u) (upd H' d u) := fun b o e => by
  by_cases z : b = d
  · subst z
    rw [upd_same] at e ⊢
    exact e
  · rw [upd_ne z] at e ⊢
    exact s b o e
theorem Fresh.lock {H : Hp} {R : MapR} {d : Addr} {o u : HO} (h : Fresh H R) (e : H d = some o) : Fresh (upd H d u) R := fun b hb => by
  rw [upd_ne (fun z => h.notin e (by rw [← z]; exact hb))]
  exact h b hb
theorem fill_next {P : PM} {i : Nat} {n : Str} (ok : PMOk P) (e : (namesOf P)[i]? = some n) : nameS n = true ∧ n ∉ namesOf (P.take i) ∧ (P.take i).length < 60 ∧ PtOk (ptOf P n) ∧ n ∈ namesOf P ∧ P.take (i + 1) = P.take i ++ [(n, ptOf P n)] := by
  have hn : n ∈ namesOf P := List.mem_of_getElem? e
  have eP : P[i]? = some (n, ptOf P n) := by
    conv => lhs; rw [pm_names ok.nodup]
    rw [List.getElem?_map, e]; rfl
  have et : namesOf (P.take i) = (namesOf P).take i := by unfold namesOf; rw [List.map_take]
  have hi := (List.getElem?_eq_some_iff.mp e).1
  have hlen := ok.lenN
  refine ⟨ok.name hn, fun z => ?_, ?_, ok.pt hn, hn, by rw [List.take_add_one, eP]; rfl⟩
  · rw [et] at z
    have nd : ((namesOf P).take (i + 1)).Nodup := ok.nodup.sublist (List.take_sublist _ _)
    rw [List.take_add_one, e] at nd
    exact (List.nodup_append.mp nd).2.2 n z n (by simp) rfl
  · have := List.length_take_le i P
    omega
theorem row_all {M : PM} (ok : PMOk M) {h : Str} (hh : h ∈ headsOf (nearR M 13) (namesOf M)) : rowOf (nearR M 13) (namesOf M) h = sortS (namesOf M) := by
  unfold rowOf
  refine List.filter_eq_self.mpr fun n hn => decide_eq_true ?_
  have hn := mem_sortS.mp hn
  have hL := (mem_headsOf.mp hh).1
  rw [hd_eq (nearR_symm M 13) (Rch.one hn hL (near_all ok n hn h hL))]
  exact (mem_headsOf.mp hh).2
end NM

namespace NM
open PySem PySem.Spec PyProof.Rows L2 HotX L2H
/-! ### xs[::-1] of a list -/
def tRev (K : PySem.W.Frag) (te tk : TE) : TE := fun σ H Q => te σ H fun x H1 => tk σ H1 fun y H2 => y = .int (-1) ∧ ∃ a xs, x = .ref a ∧ SqL K H2 a xs ∧ ∀ p, H2 p = none → Q (.ref p) (upd H2 p (.lst xs.reverse))
theorem vals_reverse {xs : List V} {us : List Value} (r : Vals xs us) : Vals xs.reverse us.reverse := by
  have app : ∀ {a b : List V} {c d : List Value}, Vals a c → Vals b d → Vals (a ++ b) (c ++ d) := fun {a b c d} h1 h2 => by
    induction h1 with
    | nil => exact h2
    | cons r _ ih => exact .cons r ih
  induction r with
  | nil => exact .nil
  | cons r _ ih =>
    rw [List.reverse_cons, List.reverse_cons]
    exact app ih (.cons r .nil)
section
variable {X : Cx}
theorem pe_rev {e k : Expr} {te tk : TE} {p2 pos : Pos} (he : PE X e te) (hk : PE X k tk) : PE X (.Subscript e (.Slice none none (some k) p2) pos) (tRev X.K te tk) := by
  refine ⟨fun pins s σ H Q I h => ?_⟩
  refine Subscript_ (thn (he.run pins s σ H _ I h) fun v s1 ⟨x, H1, I1, r1, q1⟩ => ?_)
  refine wpAny_Slice ?_
  rw [evalPart_none]
  refine wpAny_pure (wpAny_pure ?_)
  rw [evalPart_some]
  refine thn (hk.run pins s1 σ H1 _ I1 q1) fun vk s2 ⟨y, H2, I2, rk, ek, a, xs, ex, hx, q⟩ => ?_
  subst ek ex
  obtain ⟨t, rfl⟩ := rk
  cases r1
  have I3 : Inv X pins σ H2 { s2 with heap := s2.heap.push { cls := .type "slice", data := .fields #[.none, .none, .int (-1) t] } } := I2.kept (t' := s2.toks) fun b ob q => Heap.get?_push_of_some _ q
  obtain ⟨its, r, ht, hz⟩ := I3.list hx
  show wpAny (model X.prog X.w) X.A (subscriptTail e (.Slice none none (some k) p2) (.ref a) (.ref s2.heap.objs.size)) (EP X pins σ Q) X.xe { s2 with heap := s2.heap.push { cls := .type "slice", data := .fields #[.none, .none, .int (-1) t] } }
  refine tail_any (ops := [.ref a, .ref s2.heap.objs.size]) ht.isList.typeIs slot_list_getitem.lookup ?_ (by with_unfolding_all rfl)
  have hlen := r.length
  refine wpAny_getItem_list_slice ht.isList (Heap.IsSliceOf.new ..) .none .none (IsPart.int _ _) (by decide) ?_ (by rw [List.size_toArray] <;> omega)
  rw [PySem.W.krv_pick]
  refine ⟨.ref _, _, I3.laid (t' := s2.toks) (o := .lst xs.reverse) (fun b ob q => Heap.get?_push_of_some _ q) (Nat.le_refl _) ?_, rfl, q _ (I3.hok.fresh (Nat.le_refl _))⟩
  refine ⟨by rw [List.length_reverse]; exact hz, its.reverse, 0, vals_reverse r, ?_⟩
  exact Heap.get?_push_size _ rfl
end
end NM

namespace NM
open PySem PySem.Spec PyProof.Rows L2 HotX L2H
/-! ### data stay -/
mutual
theorem Dp.same {K : PySem.W.Frag} {H H' : Hp} (s : Same H H') : ∀ (d : PyData) (v : V), Dp K H v d → Dp K H' v d
  | .none, _, h => by cases h; exact .non
  | .bool b, _, h => by cases h; exact .bl b
  | .int i, _, h => by cases h; exact .int i
  | .str x, _, h => by cases h; exact .str x
  | .list ds, _, h => by
    cases h with
    | lst hs ha => exact .lst (s.seq hs) (Dp.sameAll s ds _ ha)
  | .tuple ds, _, h => by
    cases h with
    | tup hs ha =>
      refine .tup ?_ (Dp.sameAll s ds _ ha)
      rcases hs with (h | ⟨o, h⟩) | h
      · exact .inl (.inl (s _ _ h))
      · exact .inl (.inr ⟨o, s _ _ h⟩)
      · exact .inr h
  | .dict _, _, h => by cases h
theorem Dp.sameAll {K : PySem.W.Frag} {H H' : Hp} (s : Same H H') : ∀ (ds : List PyData) (vs : List V), DpAll K H vs ds → DpAll K H' vs ds
  | [], _, h => by cases h; exact .nil
  | d :: ds, _, h => by
    cases h with
    | cons h1 h2 => exact .cons (Dp.same s d _ h1) (Dp.sameAll s ds _ h2)
end
theorem dp_same {K : PySem.W.Frag} {H H' : Hp} {d : PyData} {v : V} (h : Dp K H v d) (s : Same H H') : Dp K H' v d := Dp.same s d v h
theorem dpAll_same {K : PySem.W.Frag} {H H' : Hp} {ds : List PyData} {vs : List V} (h : DpAll K H vs ds) (s : Same H H') : DpAll K H' vs ds := Dp.sameAll s ds vs h
/-- the heap without one object -/
def hid (F : Addr) (H : Hp) : Hp := fun b => if b = F then none else H b
theorem hid_ne {F b : Addr} {H : Hp} (h : b ≠ F) : hid F H b = H b := by unfold hid; rw [if_neg h]
theorem hid_sub {F : Addr} {H : Hp} : Same (hid F H) H := fun b o e => by
  unfold hid at e
  split at e
  · cases e
  · exact e
theorem hid_same {F : Addr} {H H' : Hp} (s : SameX F H H') : Same (hid F H) (hid F H') := fun b o e => by
  unfold hid at e ⊢
  split at e
  · cases e
  · rename_i h
    rw [if_neg h]
    exact s b o h e
theorem dpAll_snoc {K : PySem.W.Frag} {H : Hp} {v : V} {d : PyData} : ∀ {vs : List V} {ds : List PyData}, DpAll K H vs ds → Dp K H v d → DpAll K H (vs ++ [v]) (ds ++ [d])
  | _, _, .nil, h => .cons h .nil
  | _, _, .cons r t, h => .cons r (dpAll_snoc t h)
/-! ### walks that give a new tuple each turn -/
structure EnumT (J : It) (ok : Hp → Prop) (ys : List (List V)) : Prop where
  go : ∀ i H, ok H → i < ys.length → J.go i H
  yld : ∀ i H x H', ok H → i < ys.length → J.yld i H x H' → ∃ T y, ys[i]? = some y ∧ x = .ref T ∧ H T = none ∧ H' = upd H T (.tup y)
  stop : ∀ i H, ok H → ys.length ≤ i → J.stop i H
def enumV (xs : List V) : List (List V) := xs.zipIdx.map fun p => [.int (p.2 : Nat), p.1]
theorem enumV_len (xs : List V) : (enumV xs).length = xs.length := by simp [enumV]
theorem enumV_get {xs : List V} {i : Nat} {y : List V} (h : (enumV xs)[i]? = some y) : ∃ x, xs[i]? = some x ∧ y = [.int (i : Nat), x] := by
  unfold enumV at h
  rw [List.getElem?_map, List.getElem?_zipIdx] at h
  cases e : xs[i]? with
  | none => rw [e] at h; cases h
  | some x =>
    rw [e] at h
    refine ⟨x, rfl, ?_⟩
    have := Option.some.inj h
    rw [← this]
    simp
theorem enumT_ite {K : PySem.W.Frag} {a : Addr} {xs : List V} : EnumT (Ite K a) (fun H => SqL K H a xs) (enumV xs) where
  go := fun i H ok hi => by rw [enumV_len] at hi; exact ⟨xs, xs[i], ok, by simp [hi]⟩
  yld := fun i H x H' ok hi y => by
    rw [enumV_len] at hi
    obtain ⟨T, v, e, hT, e2, hx⟩ := y
    refine ⟨T, [.int (i : Nat), v], ?_, e, hT, e2⟩
    have := hx xs ok
    unfold enumV
    rw [List.getElem?_map, List.getElem?_zipIdx, this]
    simp
  stop := fun i H ok hi => ⟨xs, ok, by rw [enumV_len] at hi; exact hi⟩
theorem enumT_items {d : Addr} {o : Obj} {kvs : List (Key × V)} : EnumT (Iti d o kvs) (fun H => H d = some (.frz o (.dK kvs))) (kvs.map fun kv => [kV kv.1, kv.2]) where
  go := fun i H ok hi => ⟨ok, by simpa using hi⟩
  yld := fun i H x H' ok hi y => by
    obtain ⟨T, k, v, e, ex, hT, e2⟩ := y
    exact ⟨T, _, by rw [List.getElem?_map, e]; rfl, ex, hT, e2⟩
  stop := fun i H ok hi => ⟨ok, by simpa using hi⟩
theorem for_enumT {J : It} {ok : Hp → Prop} {ys : List (List V)} (en : EnumT J ok ys) {g : TG} {tb : TS} {D : Ends} {σ : St} {H : Hp} (Pv : Nat → St → Hp → Prop) (h0 : Pv 0 σ H) (hl : ∀ i σ H, i ≤ ys.length → Pv i σ H → ok H)
    (hs : ∀ i y T σ H, ys[i]? = some y → H T = none → Pv i σ H → g (.ref T) σ (upd H T (.tup y)) fun σ2 H2 => tb { D with nx := Pv (i + 1), ct := Pv (i + 1), bk := D.nx } σ2 H2) (hd : ∀ σ H, Pv ys.length σ H → D.nx σ H) :
    ∃ W : Nat → Nat → St → Hp → Prop, (∃ m, W 0 m σ H) ∧ ∀ i m σ H, W i m σ H →
      (J.stop i H ∧ D.nx σ H) ∨ (J.go i H ∧ ∃ N : St → Hp → Prop, (∀ σ' H', N σ' H' → ∃ m', m' < m ∧ W (i + 1) m' σ' H') ∧ ∀ x H', J.yld i H x H' → g x σ H' fun σ2 H2 => tb { D with nx := N, ct := N, bk := D.nx } σ2 H2) := by
  refine ⟨fun i m σ H => m = ys.length - i ∧ i ≤ ys.length ∧ Pv i σ H, ⟨ys.length, by simp, Nat.zero_le _, h0⟩, ?_⟩
  rintro i m σ H ⟨rfl, hi, p⟩
  have q := hl i σ H hi p
  by_cases hlt : i < ys.length
  · refine .inr ⟨en.go i H q hlt, Pv (i + 1), fun σ' H' p' => ⟨ys.length - (i + 1), by omega, rfl, hlt, p'⟩, fun x H' y => ?_⟩
    obtain ⟨T, yy, ey, ex, hT, e2⟩ := en.yld i H x H' q hlt y
    subst ex e2
    exact hs i yy T σ H ey hT p
  · have e : i = ys.length := by omega
    subst e
    exact .inl ⟨en.stop _ H q (Nat.le_refl _), hd σ H p⟩
/-! ### several maps -/
def Dj (R R' : MapR) : Prop := ∀ b ∈ R.own, b ∉ R'.own
theorem Dj.symm {R R' : MapR} (h : Dj R R') : Dj R' R := fun b hb z => h b z hb
theorem MapG.dj {C : Addr} {H : Hp} {R R' : MapR} {M : PM} {F : Nat → List (Key × V)} (h : MapG C H R M F) (fr : Fresh H R') : Dj R R' := fun b hb z => by
  obtain ⟨o, e⟩ := h.has hb
  rw [fr b z] at e; cases e
theorem MapG.offR {C : Addr} {H H' : Hp} {R R' : MapR} {M M' : PM} {F F' : Nat → List (Key × V)} (h : MapG C H R M F) (h' : MapG C H R' M' F') (s : SameD R'.foot H H') (dj : Dj R R') : MapG C H' R M F :=
  h.off s h'.dcts fun b hb z => dj b (MapR.foot_own hb) (MapR.foot_own z)
/-! ### what is dropped -/
theorem dropP_none {M : PM} {n : Str} (h : n ∉ namesOf M) : dropP M n = M := List.filter_eq_self.mpr fun p hp => decide_eq_true fun e => h (List.mem_map.mpr ⟨p, hp, e⟩)
theorem dropP_app (M N : PM) (n : Str) : dropP (M ++ N) n = dropP M n ++ dropP N n := List.filter_append ..
theorem dropP_one (n : Str) (p : Pt) : dropP [(n, p)] n = [] := by simp [dropP]
theorem dropP_cons (n : Str) (p : Pt) {Z : PM} (h : n ∉ namesOf Z) : dropP ((n, p) :: Z) n = Z := by
  have : dropP ((n, p) :: Z) n = dropP Z n := by simp [dropP]
  rw [this, dropP_none h]
/-! ### points moved alike, turned -/
def mapP (f : Pt → Pt) (P : PM) : PM := P.map fun p => (p.1, f p.2)
theorem mapP_names (f : Pt → Pt) (P : PM) : namesOf (mapP f P) = namesOf P := by
  unfold namesOf mapP
  rw [List.map_map]
  rfl
theorem mapP_pt {f : Pt → Pt} {P : PM} {n : Str} (nd : (namesOf P).Nodup) (h : n ∈ namesOf P) : ptOf (mapP f P) n = f (ptOf P n) :=
  ptOf_mem (by rw [mapP_names]; exact nd) (List.mem_map.mpr ⟨_, mem_ptOf nd h, rfl⟩)
theorem mapP_ok {f : Pt → Pt} {P : PM} (ok : PMOk P) (hf : ∀ p ∈ P, PtOk (f p.2)) : PMOk (mapP f P) :=
  ⟨by rw [mapP_names]; exact ok.nodup, by unfold mapP; rw [List.length_map]; exact ok.len, fun p hp => by
    obtain ⟨q, hq, rfl⟩ := List.mem_map.mp hp
    exact ⟨hf q hq, (ok.ok q hq).2⟩⟩
theorem mapP_near {f : Pt → Pt} {P : PM} {s : Int} (nd : (namesOf P).Nodup) (hf : ∀ p q, dist (f p) (f q) = dist p q) : ∀ a ∈ namesOf P, ∀ b ∈ namesOf P, nearR P s a b = nearR (mapP f P) s a b := fun a ha b hb => by
  unfold nearR
  rw [mapP_pt nd ha, mapP_pt nd hb, hf]
theorem mapP_take (f : Pt → Pt) (P : PM) (i : Nat) : (mapP f P).take i = mapP f (P.take i) := by unfold mapP; rw [List.map_take]
def shiftF (by_ : Int) : Pt → Pt := fun p => (p.1 + by_, p.2)
def rotF : Pt → Pt := fun p => (p.2, 4095 - p.1)
theorem shift_dist (c : Int) (p q : Pt) : dist (shiftF c p) (shiftF c q) = dist p q := by
  unfold dist shiftF
  dsimp only
  rw [show p.1 + c - (q.1 + c) = p.1 - q.1 by omega]
theorem rot_dist (p q : Pt) : dist (rotF p) (rotF q) = dist p q := by
  unfold dist rotF imax iabs
  dsimp only
  split <;> split <;> split <;> split <;> (try split) <;> (try split) <;> omega
/-- maps that are alike in their heaps -/
def Like (P M : PM) : Prop := (namesOf P).Perm (namesOf M) ∧ ∀ s : Int, ∀ a ∈ namesOf P, ∀ b ∈ namesOf P, nearR P s a b = nearR M s a b
theorem Like.heads {P M : PM} (h : Like P M) (s : Int) : headsOf (nearR P s) (namesOf P) = headsOf (nearR M s) (namesOf M) := heads_perm h.1 (h.2 s)
theorem Like.row {P M : PM} (h : Like P M) (s : Int) : rowOf (nearR P s) (namesOf P) = rowOf (nearR M s) (namesOf M) := row_perm h.1 (h.2 s)
theorem Like.hd {P M : PM} (h : Like P M) (s : Int) : NM.hd (nearR P s) (namesOf P) = NM.hd (nearR M s) (namesOf M) := hd_perm h.1 (h.2 s)
theorem like_perm {P M : PM} (h : P.Perm M) (nd : (namesOf P).Nodup) : Like P M := ⟨names_perm h, fun _ => near_perm h nd⟩
theorem like_map {f : Pt → Pt} {P : PM} (nd : (namesOf P).Nodup) (hf : ∀ p q, dist (f p) (f q) = dist p q) : Like P (mapP f P) := ⟨by rw [mapP_names], fun _ => mapP_near nd hf⟩
/-! ### all heaps -/
noncomputable def heapsD (M : PM) (z : Nat) : PyData := .list ((headsOf (nearR M z) (namesOf M)).map fun h => .tuple [.str h, .list ((rowOf (nearR M z) (namesOf M) h).map .str)])
noncomputable def allD (M : PM) (k : Nat) : List PyData := (List.range k).map (heapsD M)
theorem Like.all {P M : PM} (h : Like P M) (k : Nat) : allD P k = allD M k := List.map_congr_left fun z _ => by
  unfold heapsD
  rw [h.heads z, h.row z]
theorem lay_heaps {M : PM} (ok : PMOk M) (z : Nat) : Lay 3 (heapsD M z) := lay_list (n := 2) (lay_map fun h hh => lay_tuple (n := 1) (lay_cons ((lay_str (nameS_ok (ok.name (mem_headsOf.mp hh).1))).mono (by decide)) (lay_cons (lay_list (n := 0) (lay_map fun n hn => lay_str (nameS_ok (ok.name (mem_rowOf.mp hn).1)))) lay_nil)))
theorem lay_all {M : PM} (ok : PMOk M) (k : Nat) : Lay 4 (.list (allD M k)) := lay_list (lay_map fun z _ => lay_heaps ok z)
theorem allD_snoc (M : PM) (k : Nat) : allD M (k + 1) = allD M k ++ [heapsD M k] := by unfold allD; rw [List.range_succ, List.map_append]; rfl
theorem pairs_heaps {K : PySem.W.Frag} {H : Hp} {M : PM} {z : Nat} : ∀ {hs : List Str} {ys : List V}, Paired (fun x y => ∃ h t u, x = V.str h ∧ y = V.ref t ∧ H t = some (.tup [.str h, .ref u]) ∧ H u = some (.lst ((rowOf (nearR M z) (namesOf M) h).map V.str))) (hs.map V.str) ys → DpAll K H ys (hs.map fun h => .tuple [.str h, .list ((rowOf (nearR M z) (namesOf M) h).map .str)])
  | [], _, .nil => .nil
  | h :: hs, _, .cons ⟨h', t, u, e, e2, ht, hu⟩ tl => by
    cases e
    subst e2
    exact .cons (.tup (sqT ht) (.cons (.str _) (.cons (.lst (sqL hu) (dpAll_strs _)) .nil))) (pairs_heaps tl)
/-! ### boxes moved, turned -/
theorem IsBox.shift {P : PM} {L : List Str} {b : Bx} {c : Int} (nd : (namesOf P).Nodup) (hL : ∀ n ∈ L, n ∈ namesOf P) (h : IsBox P L b) : IsBox (mapP (shiftF c) P) L (b.1 + c, b.2.1, b.2.2.1 + c, b.2.2.2) := by
  have ex : xsOf (mapP (shiftF c) P) L = (xsOf P L).map (· + c) := by
    unfold xsOf
    rw [List.map_map]
    exact List.map_congr_left fun n hn => by rw [mapP_pt nd (hL n hn)]; rfl
  have ey : ysOf (mapP (shiftF c) P) L = ysOf P L := List.map_congr_left fun n hn => by rw [mapP_pt nd (hL n hn)]; rfl
  refine ⟨?_, ?_, ?_, ?_⟩
  · rw [ex]
    exact ⟨List.mem_map.mpr ⟨_, h.l.1, rfl⟩, fun y hy => by
      obtain ⟨x, hx, rfl⟩ := List.mem_map.mp hy
      have := h.l.2 x hx
      show b.1 + c ≤ x + c
      omega⟩
  · rw [ey]; exact h.t
  · rw [ex]
    exact ⟨List.mem_map.mpr ⟨_, h.r.1, rfl⟩, fun y hy => by
      obtain ⟨x, hx, rfl⟩ := List.mem_map.mp hy
      have := h.r.2 x hx
      show x + c ≤ b.2.2.1 + c
      omega⟩
  · rw [ey]; exact h.b
theorem IsBox.rot {P : PM} {L : List Str} {b : Bx} (nd : (namesOf P).Nodup) (hL : ∀ n ∈ L, n ∈ namesOf P) (h : IsBox P L b) : IsBox (mapP rotF P) L (b.2.1, 4095 - b.2.2.1, b.2.2.2, 4095 - b.1) := by
  have ex : xsOf (mapP rotF P) L = ysOf P L := List.map_congr_left fun n hn => by rw [mapP_pt nd (hL n hn)]; rfl
  have ey : ysOf (mapP rotF P) L = (xsOf P L).map (4095 - ·) := by
    unfold xsOf ysOf
    rw [List.map_map]
    exact List.map_congr_left fun n hn => by rw [mapP_pt nd (hL n hn)]; rfl
  refine ⟨?_, ?_, ?_, ?_⟩
  · rw [ex]; exact h.t
  · rw [ey]
    exact ⟨List.mem_map.mpr ⟨_, h.r.1, rfl⟩, fun y hy => by
      obtain ⟨x, hx, rfl⟩ := List.mem_map.mp hy
      have := h.r.2 x hx
      show 4095 - b.2.2.1 ≤ 4095 - x
      omega⟩
  · rw [ex]; exact h.b
  · rw [ey]
    exact ⟨List.mem_map.mpr ⟨_, h.l.1, rfl⟩, fun y hy => by
      obtain ⟨x, hx, rfl⟩ := List.mem_map.mp hy
      have := h.l.2 x hx
      show 4095 - x ≤ 4095 - b.1
      omega⟩
/-! ### a comprehension whose elements hold lists: what its own list is, none of them is -/
theorem lc_relD {J : It} {ok : Hp → Prop} {xs : List V} (en : Enum J ok xs) {j : Nat} {tt : TT} {te : TE} {σ : St} {H1 : Hp} {Q : Addr → Hp → Prop} (p : V → Bool) (R : Addr → V → V → Hp → Prop)
    (hok : ∀ D H, H1 D = none → SameX D H1 H → ok H) (hlen : xs.length < sizeLine)
    (hR : ∀ D x y H H', H1 D = none → R D x y H → SameX D H H' → R D x y H')
    (turn : ∀ (D : Addr) (i : Nat) (x : V) (H : Hp) (Cy : VK) (Cn : Hp → Prop), H1 D = none → (∃ l, H D = some (.lst l)) → xs[i]? = some x → Same H1 H → (∀ y H', Same H H' → p x = true → R D x y H' → Cy y H') → (∀ H', Same H H' → p x = false → Cn H') →
      tt ((wipe σ [j]).set j (some x)) H fun b H3 => if b = true then te ((wipe σ [j]).set j (some x)) H3 Cy else Cn H3)
    (done : ∀ D H ys, H1 D = none → Same H1 H → H D = some (.lst ys) → Paired (fun x y => R D x y H) (xs.filter p) ys → Q D H) :
    ∀ D, H1 D = none → ∃ W : Nat → Nat → Hp → Prop, (∃ m, W 0 m (upd H1 D (.lst []))) ∧ ∀ i m H, W i m H →
      (J.stop i H ∧ Q D H) ∨ (J.go i H ∧ ∃ Nx : Hp → Prop, (∀ H', Nx H' → ∃ m', m' < m ∧ W (i + 1) m' H') ∧ ∀ x H', J.yld i H x H' → gName j x (wipe σ [j]) H' fun σ2 H2 => wipe σ2 [j] = wipe σ [j] ∧ tt σ2 H2 fun b H3 =>
        if b = true then te σ2 H3 fun y H4 => ∃ acc, H4 D = some (.lst acc) ∧ acc.length < sizeLine ∧ Nx (upd H4 D (.lst (acc ++ [y]))) else Nx H3) := by
  intro D nD
  let Pv : Nat → Hp → Prop := fun i H => Same H1 H ∧ ∃ ys, H D = some (.lst ys) ∧ ys.length ≤ i ∧ Paired (fun x y => R D x y H) ((xs.take i).filter p) ys
  have sm0 : Same H1 (upd H1 D (.lst [])) := fun b o e => by rw [upd_ne (ne_of_none e nD)]; exact e
  refine ⟨fun i m H => m = xs.length - i ∧ i ≤ xs.length ∧ Pv i H, ⟨xs.length, by simp, Nat.zero_le _, sm0, [], upd_same, Nat.le_refl _, by simp; exact .nil⟩, ?_⟩
  rintro i m H ⟨rfl, hi, sm, ys, hD, hy, pr⟩
  have okH : ok H := hok D H nD fun b o _ e => sm b o e
  by_cases hlt : i < xs.length
  · refine .inr ⟨en.go i H okH hlt, Pv (i + 1), fun H' p' => ⟨xs.length - (i + 1), by omega, rfl, hlt, p'⟩, fun x H' y => ?_⟩
    obtain ⟨e, ex⟩ := en.yld i H x H' okH hlt y
    subst e
    have et : xs.take (i + 1) = xs.take i ++ [x] := by rw [List.take_add_one, ex]; rfl
    refine ⟨wipe_set, ?_⟩
    refine turn D i x H' _ _ nD ⟨_, hD⟩ ex sm (fun y H4 s4 hp ry => ?_) fun H3 s3 hp => ?_
    · have hD4 := s4 _ _ hD
      refine ⟨ys, hD4, by omega, fun b o e => ?_, ys ++ [y], upd_same, by rw [List.length_append]; simp; omega, ?_⟩
      · rw [upd_ne (ne_of_none e nD)]
        exact s4 _ _ (sm _ _ e)
      · rw [et, List.filter_append]
        have e1 : [x].filter p = [x] := by simp [hp]
        rw [e1]
        have k4 : SameX D H4 (upd H4 D (.lst (ys ++ [y]))) := fun b o n e => by rw [upd_ne n]; exact e
        have kH : SameX D H' (upd H4 D (.lst (ys ++ [y]))) := fun b o n e => k4 b o n (s4 _ _ e)
        exact paired_snoc (Paired.mapP pr fun a b r => hR D a b _ _ nD r kH) (hR D x y _ _ nD ry k4)
    · refine ⟨fun b o e => s3 _ _ (sm _ _ e), ys, s3 _ _ hD, by omega, ?_⟩
      rw [et, List.filter_append]
      have e1 : [x].filter p = [] := by simp [hp]
      rw [e1, List.append_nil]
      exact Paired.mapP pr fun a b r => hR D a b _ _ nD r (fun b o n e => s3 _ _ e)
  · have e : i = xs.length := by omega
    subst e
    rw [List.take_length] at pr
    exact .inl ⟨en.stop _ H okH (Nat.le_refl _), done D H ys nD sm hD pr⟩
/-- a part of the heap -/
def Vw (v : Hp → Hp) : Prop := ∀ D H H', SameX D H H' → SameX D (v H) (v H')
theorem vw_id : Vw fun H => H := fun _ _ _ s => s
theorem vw_hid {F : Addr} {v : Hp → Hp} (h : Vw v) : Vw fun H => hid F (v H) := fun D H H' s b o n e => by
  have e : hid F (v H) b = some o := e
  show hid F (v H') b = some o
  by_cases z : b = F
  · rw [z] at e
    unfold hid at e
    rw [if_pos rfl] at e
    cases e
  · rw [hid_ne z] at e ⊢
    exact h D H H' s b o n e
/-- what has come since B -/
def newOf (B H : Hp) : Hp := fun b => match B b with
  | none => H b
  | some _ => none
theorem newOf_at {B H : Hp} {b : Addr} (h : B b = none) : newOf B H b = H b := by unfold newOf; rw [h]
theorem newOf_in {B H : Hp} {b : Addr} {o : HO} (e : newOf B H b = some o) : B b = none ∧ H b = some o := by
  unfold newOf at e
  cases h : B b with
  | none => rw [h] at e; exact ⟨rfl, e⟩
  | some _ => rw [h] at e; cases e
theorem vw_new {B : Hp} : Vw (newOf B) := fun D H H' s b o n e => by
  obtain ⟨h1, h2⟩ := newOf_in e
  rw [newOf_at h1]
  exact s b o n h2
theorem newOf_sub {B H : Hp} : Same (newOf B H) H := fun b o e => (newOf_in e).2
theorem newOf_hid {B H : Hp} {D : Addr} {o : HO} (h : B D = some o) : Same (newOf B H) (hid D H) := fun b x e => by
  obtain ⟨h1, h2⟩ := newOf_in e
  rw [hid_ne (fun z => by rw [z, h] at h1; cases h1)]
  exact h2
theorem newOf_mono {B B' H : Hp} (s : Same B B') : Same (newOf B' H) (newOf B H) := fun b x e => by
  obtain ⟨h1, h2⟩ := newOf_in e
  rw [newOf_at (s.free h1)]
  exact h2
theorem Vw.same {v : Hp → Hp} (h : Vw v) {H H' : Hp} (s : Same H H') : Same (v H) (v H') := fun b o e => by
  obtain ⟨D, hD⟩ : ∃ D : Addr, D ≠ b := ⟨Nat.succ b, Nat.succ_ne_self b⟩
  exact h D H H' (fun c x _ z => s c x z) b o (fun z => hD z.symm) e
/-- .. without a test, its elements data -/
theorem lc_dat {K : PySem.W.Frag} {J : It} {ok : Hp → Prop} {xs : List V} (en : Enum J ok xs) {j : Nat} {te : TE} {σ : St} {H1 : Hp} {Q : Addr → Hp → Prop} {v : Hp → Hp} (hv : Vw v) (f : V → PyData)
    (hok : ∀ D H, H1 D = none → SameX D H1 H → ok H) (hlen : xs.length < sizeLine)
    (turn : ∀ (D : Addr) (i : Nat) (x : V) (H : Hp) (Cy : VK), H1 D = none → (∃ l, H D = some (.lst l)) → xs[i]? = some x → Same H1 H → (∀ y H', Same H H' → Dp K (hid D (v H')) y (f x) → Cy y H') → te ((wipe σ [j]).set j (some x)) H Cy)
    (done : ∀ D H ys, H1 D = none → Same H1 H → H D = some (.lst ys) → DpAll K (hid D (v H)) ys (xs.map f) → Q D H) :
    ∀ D, H1 D = none → ∃ W : Nat → Nat → Hp → Prop, (∃ m, W 0 m (upd H1 D (.lst []))) ∧ ∀ i m H, W i m H →
      (J.stop i H ∧ Q D H) ∨ (J.go i H ∧ ∃ Nx : Hp → Prop, (∀ H', Nx H' → ∃ m', m' < m ∧ W (i + 1) m' H') ∧ ∀ x H', J.yld i H x H' → gName j x (wipe σ [j]) H' fun σ2 H2 => wipe σ2 [j] = wipe σ [j] ∧ tYes σ2 H2 fun b H3 =>
        if b = true then te σ2 H3 fun y H4 => ∃ acc, H4 D = some (.lst acc) ∧ acc.length < sizeLine ∧ Nx (upd H4 D (.lst (acc ++ [y]))) else Nx H3) := by
  refine lc_relD en (fun _ => true) (fun D x y H => Dp K (hid D (v H)) y (f x)) hok hlen (fun D x y H H' _ r s => dp_same r (hid_same (hv D H H' s))) (fun D i x H Cy Cn nD hD ex sm h1 _ => by
      show if true = true then te ((wipe σ [j]).set j (some x)) H Cy else Cn H
      rw [if_pos rfl]
      exact turn D i x H Cy nD hD ex sm fun y H' s r => h1 y H' s rfl r) fun D H ys nD sm hD pr => done D H ys nD sm hD ?_
  rw [List.filter_eq_self.mpr (fun _ _ => rfl)] at pr
  have go : ∀ {xs ys : List V}, Paired (fun x y => Dp K (hid D (v H)) y (f x)) xs ys → DpAll K (hid D (v H)) ys (xs.map f) := fun {xs ys} h => by
    induction h with
    | nil => exact .nil
    | cons r _ ih => exact .cons r ih
  exact go pr
/-! ### names with two letters ahead -/
def zz (n : Str) : Str := ("zz" : Str) ++ n
theorem zz_cps (n : Str) : (zz n).cps.toList = [122, 122] ++ n.cps.toList := by
  show (("zz" : Str).cps ++ n.cps).toList = _
  rw [Array.toList_append]
  rfl
theorem zz_size (n : Str) : (zz n).cps.size = 2 + n.cps.size := by
  have := congrArg List.length (zz_cps n)
  rw [List.length_append, Array.length_toList, Array.length_toList] at this
  rw [this]
  rfl
theorem zz_inj {a b : Str} (h : zz a = zz b) : a = b := by
  have h1 : (zz a).cps.toList = (zz b).cps.toList := by rw [h]
  rw [zz_cps, zz_cps] at h1
  exact str_ext (List.append_cancel_left h1)
theorem zz_name {n : Str} (h : nameS n = true) (h2 : n.cps.size = 2) : nameS (zz n) = true := by
  simp only [nameS, Bool.and_eq_true, decide_eq_true_eq] at h ⊢
  refine ⟨⟨by rw [zz_size]; omega, by rw [zz_size]; omega⟩, ?_⟩
  rw [zz_cps, List.all_append, h.2]
  decide +kernel
theorem not_zz {a b : Str} (ha : a.cps.size = 2) (hb : b.cps.size = 2) : a ≠ zz b := fun e => by
  have := zz_size b
  rw [← e] at this
  omega
/-- behind the first names of L: those, and each again with zz -/
structure ZzAt (P : PM) (L : List Str) (M : PM) : Prop where
  z : ∃ Z : PM, namesOf Z = L.map zz ∧ M.Perm ((L.map fun n => (n, ptOf P n)) ++ Z)
theorem ZzAt.names {P : PM} {L : List Str} {M : PM} (h : ZzAt P L M) : (namesOf M).Perm (L ++ L.map zz) := by
  obtain ⟨Z, e, p⟩ := h.z
  have := names_perm p
  have e2 : namesOf ((L.map fun n => (n, ptOf P n)) ++ Z) = namesOf (L.map fun n => (n, ptOf P n)) ++ namesOf Z := List.map_append
  rw [e2, names_of_pairs, e] at this
  exact this
theorem ZzAt.put {P : PM} {L : List Str} {M A : PM} {n : Str} {q : Pt} (h : ZzAt P L M) (hA : A.Perm (M ++ [(n, ptOf P n)] ++ [(zz n, q)])) : ZzAt P (L ++ [n]) A := by
  obtain ⟨Z, e, p⟩ := h.z
  refine ⟨Z ++ [(zz n, q)], ?_, hA.trans ?_⟩
  · have e2 : namesOf (Z ++ [(zz n, q)]) = namesOf Z ++ [zz n] := names_app _ _ _
    rw [e2, e, List.map_append]; rfl
  · rw [List.map_append]
    have h1 : (M ++ [(n, ptOf P n)] ++ [(zz n, q)]).Perm (((L.map fun n => (n, ptOf P n)) ++ Z) ++ [(n, ptOf P n)] ++ [(zz n, q)]) := (p.append_right _).append_right _
    refine h1.trans ?_
    have h2 : (((L.map fun n => (n, ptOf P n)) ++ Z) ++ [(n, ptOf P n)]).Perm (((L.map fun n => (n, ptOf P n)) ++ [(n, ptOf P n)]) ++ Z) := by
      rw [List.append_assoc, List.append_assoc]
      exact List.Perm.append_left _ List.perm_append_comm
    refine (h2.append_right _).trans ?_
    rw [List.append_assoc]
    exact List.Perm.refl _
/-- moved there and back -/
theorem move_back {M : PM} {n m : Str} {p p' q : Pt} (hn : n ∉ namesOf M) (hm : n ≠ m) : (dropP (dropP (M ++ [(n, p)] ++ [(m, q)]) n ++ [(n, p')]) n ++ [(n, p)]).Perm (M ++ [(n, p)] ++ [(m, q)]) := by
  have h1 : dropP [(m, q)] n = [(m, q)] := dropP_none (by intro z; exact hm (List.mem_singleton.mp z))
  have e1 : dropP (M ++ [(n, p)] ++ [(m, q)]) n = M ++ [(m, q)] := by
    rw [dropP_app, dropP_app, dropP_none hn, dropP_one, h1, List.append_nil]
  rw [e1, dropP_app, dropP_app, dropP_none hn, dropP_one, h1, List.append_nil, List.append_assoc, List.append_assoc]
  exact List.Perm.append_left _ List.perm_append_comm
/-- the marks with zz go -/
structure ZzLeft (P : PM) (S L : List Str) (M : PM) : Prop where
  z : ∃ Z : PM, namesOf Z = L.map zz ∧ M.Perm ((S.map fun n => (n, ptOf P n)) ++ Z)
theorem ZzLeft.drop {P : PM} {S L : List Str} {M : PM} {n : Str} (h : ZzLeft P S (n :: L) M) (hn : n ∉ L) (hS : ∀ m ∈ S, m ≠ zz n) : zz n ∈ namesOf M ∧ ZzLeft P S L (dropP M (zz n)) := by
  obtain ⟨Z, e, p⟩ := h.z
  cases Z with
  | nil => cases e
  | cons zq Z =>
    obtain ⟨z0, q⟩ := zq
    have e : z0 :: namesOf Z = zz n :: L.map zz := e
    injection e with e1 e2
    subst e1
    have nZ : zz n ∉ namesOf Z := fun z => by
      rw [e2] at z
      obtain ⟨m, hm, e3⟩ := List.mem_map.mp z
      exact hn (by rw [← zz_inj e3]; exact hm)
    refine ⟨(names_perm p).mem_iff.mpr ?_, ⟨Z, e2, ?_⟩⟩
    · exact List.mem_map.mpr ⟨(zz n, q), by simp, rfl⟩
    · have := dropP_perm p (zz n)
      rw [dropP_app, dropP_cons _ _ nZ, dropP_none (M := S.map fun n => (n, ptOf P n)) (by rw [names_of_pairs]; exact fun z => hS _ z rfl)] at this
      exact this
end NM

namespace NM
open PySem PySem.Spec PyProof.Rows L2 HotX L2H
/-! ### boxes that are handed in -/
def goodBx (xs : List V) : Bool := decide (xs.length = 4) && xs.all (isCount 0 4095)
def ordBx : List V → Bool
  | [.int l, .int t, .int r, .int b] => decide (l ≤ r) && decide (t ≤ b)
  | _ => false
def isBoxB (H : Hp) (v : V) : Bool := match tupOf H v with
  | some xs => goodBx xs && ordBx xs
  | none => false
structure BoxOk (b : Bx) : Prop where
  l0 : 0 ≤ b.1
  l1 : b.1 ≤ 4095
  t0 : 0 ≤ b.2.1
  t1 : b.2.1 ≤ 4095
  r0 : 0 ≤ b.2.2.1
  r1 : b.2.2.1 ≤ 4095
  b0 : 0 ≤ b.2.2.2
  b1 : b.2.2.2 ≤ 4095
  lr : b.1 ≤ b.2.2.1
  tb : b.2.1 ≤ b.2.2.2
theorem goodBx_of {xs : List V} (h : goodBx xs = true) : ∃ b : Bx, xs = boxV b ∧ (0 ≤ b.1 ∧ b.1 ≤ 4095) ∧ (0 ≤ b.2.1 ∧ b.2.1 ≤ 4095) ∧ (0 ≤ b.2.2.1 ∧ b.2.2.1 ≤ 4095) ∧ (0 ≤ b.2.2.2 ∧ b.2.2.2 ≤ 4095) := by
  simp only [goodBx, Bool.and_eq_true, decide_eq_true_eq, List.all_eq_true] at h
  obtain ⟨h1, h2⟩ := h
  match xs, h1, h2 with
  | [x, y, z, w], _, h2 =>
    obtain ⟨i, rfl, hi⟩ := count_int (h2 x (by simp))
    obtain ⟨j, rfl, hj⟩ := count_int (h2 y (by simp))
    obtain ⟨k, rfl, hk⟩ := count_int (h2 z (by simp))
    obtain ⟨l, rfl, hl⟩ := count_int (h2 w (by simp))
    exact ⟨(i, j, k, l), rfl, hi, hj, hk, hl⟩
theorem isBoxB_of {H : Hp} {t : Addr} {b : Bx} (h : H t = some (.tup (boxV b))) (ok : BoxOk b) : isBoxB H (.ref t) = true := by
  unfold isBoxB
  rw [tupOf_ref h]
  simp [goodBx, ordBx, boxV, isCount, ok.l0, ok.l1, ok.t0, ok.t1, ok.r0, ok.r1, ok.b0, ok.b1, ok.lr, ok.tb]
theorem isBoxB_same {H H' : Hp} {v : V} (d : PD H v) (s : Same H H') : isBoxB H' v = isBoxB H v := by
  unfold isBoxB
  rw [tupOf_same d.1 s]
theorem isBoxB_box {H : Hp} {v : V} (h : isBoxB H v = true) : ∃ (t : Addr) (b : Bx), v = .ref t ∧ H t = some (.tup (boxV b)) ∧ BoxOk b := by
  unfold isBoxB at h
  cases e : tupOf H v with
  | none => rw [e] at h; cases h
  | some xs =>
    rw [e] at h
    have h : (goodBx xs && ordBx xs) = true := h
    rw [Bool.and_eq_true] at h
    obtain ⟨a, rfl, ha⟩ := tupOf_some e
    obtain ⟨b, rfl, h1, h2, h3, h4⟩ := goodBx_of h.1
    have h5 := h.2
    simp only [ordBx, boxV, Bool.and_eq_true, decide_eq_true_eq] at h5
    exact ⟨a, b, rfl, ha, ⟨h1.1, h1.2, h2.1, h2.2, h3.1, h3.2, h4.1, h4.2, h5.1, h5.2⟩⟩
def inBx (b : Bx) (p : Pt) : Bool := (decide (b.1 ≤ p.1) && decide (p.1 ≤ b.2.2.1)) && (decide (b.2.1 ≤ p.2) && decide (p.2 ≤ b.2.2.2))
/-! ### how often -/
def ddup (hs : List Str) : List Str := hs.foldl (fun acc h => if h ∈ acc then acc else acc ++ [h]) []
theorem ddup_snoc (hs : List Str) (h : Str) : ddup (hs ++ [h]) = if h ∈ ddup hs then ddup hs else ddup hs ++ [h] := by
  unfold ddup
  rw [List.foldl_append]
  rfl
theorem snoc_ind {α : Type} {p : List α → Prop} (h0 : p []) (h1 : ∀ l x, p l → p (l ++ [x])) : ∀ l, p l := fun l => by
  have : ∀ n, ∀ l : List α, l.length = n → p l := fun n => by
    induction n with
    | zero => intro l hl; rw [List.length_eq_zero_iff.mp hl]; exact h0
    | succ n ih =>
      intro l hl
      rcases snoc_cases l with e | ⟨L, b, e⟩
      · rw [e] at hl; simp at hl
      · subst e
        refine h1 L b (ih L ?_)
        rw [List.length_append] at hl
        simpa using hl
  exact this _ l rfl
theorem mem_ddup {h : Str} (hs : List Str) : h ∈ ddup hs ↔ h ∈ hs := by
  refine snoc_ind (p := fun hs => h ∈ ddup hs ↔ h ∈ hs) (by simp [ddup]) (fun l x ih => ?_) hs
  rw [ddup_snoc]
  by_cases c : x ∈ ddup l
  · rw [if_pos c, ih]
    constructor
    · exact fun z => List.mem_append_left _ z
    · intro z
      rcases List.mem_append.mp z with z | z
      · exact z
      · rw [List.mem_singleton.mp z] at ih ⊢
        exact ih.mp c
  · rw [if_neg c, List.mem_append, List.mem_append, ih]
theorem ddup_nodup (hs : List Str) : (ddup hs).Nodup := by
  refine snoc_ind (p := fun hs => (ddup hs).Nodup) (by simp [ddup]) (fun l x ih => ?_) hs
  rw [ddup_snoc]
  by_cases c : x ∈ ddup l
  · rw [if_pos c]; exact ih
  · rw [if_neg c]
    exact List.nodup_append.mpr ⟨ih, by simp, fun a ha b hb e => c (by rw [List.mem_singleton.mp hb] at e; rw [← e]; exact ha)⟩
theorem ddup_len (hs : List Str) : (ddup hs).length ≤ hs.length := by
  refine snoc_ind (p := fun hs => (ddup hs).length ≤ hs.length) (by simp [ddup]) (fun l x ih => ?_) hs
  rw [ddup_snoc]
  split
  · rw [List.length_append]; omega
  · rw [List.length_append, List.length_append]; simp; omega
/-- a dict of counts -/
def cntK (hs : List Str) : List (Key × V) := (ddup hs).map fun k => (Sum.inr k, V.int (hs.count k : Nat))
theorem cntK_nil : cntK [] = [] := rfl
theorem cntK_keys (hs : List Str) : (cntK hs).map (·.1) = (ddup hs).map Sum.inr := by unfold cntK; rw [List.map_map]; rfl
theorem cntK_len (hs : List Str) : (cntK hs).length ≤ hs.length := by unfold cntK; rw [List.length_map]; exact ddup_len hs
theorem valS_map {f : Str → V} {h : Str} : ∀ {ks : List Str}, h ∈ ks → valV (ks.map fun k => ((Sum.inr k : Key), f k)) (Sum.inr h : Key) = some (f h)
  | k :: ks, hm => by
    by_cases e : k = h
    · rw [List.map_cons, valV_pos (by rw [e]), e]
    · rw [List.map_cons, valV_neg (fun z => e (Sum.inr.inj z))]
      exact valS_map ((List.mem_cons.mp hm).elim (fun z => absurd z.symm e) id)
theorem valS_none {f : Str → V} {h : Str} : ∀ {ks : List Str}, h ∉ ks → valV (ks.map fun k => ((Sum.inr k : Key), f k)) (Sum.inr h : Key) = none
  | [], _ => rfl
  | k :: ks, hm => by
    have e : k ≠ h := fun z => hm (by rw [z]; simp)
    rw [List.map_cons, valV_neg (fun z => e (Sum.inr.inj z))]
    exact valS_none fun z => hm (List.mem_cons_of_mem _ z)
theorem cntK_val {hs : List Str} {h : Str} (hm : h ∈ hs) : valV (cntK hs) (Sum.inr h) = some (.int (hs.count h : Nat)) := valS_map (f := fun k => V.int (hs.count k : Nat)) ((mem_ddup hs).mpr hm)
theorem cntK_get (hs : List Str) (h : Str) : (valV (cntK hs) (Sum.inr h)).getD (.int 0) = .int (hs.count h : Nat) := by
  by_cases c : h ∈ hs
  · rw [cntK_val c]; rfl
  · have e : valV (cntK hs) (Sum.inr h) = none := valS_none fun z => c ((mem_ddup hs).mp z)
    rw [e, List.count_eq_zero_of_not_mem c]; rfl
theorem cntK_put (hs : List Str) (h : Str) : putK (cntK hs) (Sum.inr h) (.int ((hs.count h : Nat) + 1)) = cntK (hs ++ [h]) := by
  have cnt : ∀ k, (hs ++ [h]).count k = if k = h then hs.count h + 1 else hs.count k := fun k => by
    rw [List.count_append]
    by_cases e : k = h
    · rw [if_pos e, e]; simp
    · rw [if_neg e]
      have : [h].count k = 0 := List.count_eq_zero_of_not_mem (by simpa using e)
      omega
  have any : ((cntK hs).any fun kv => decide (kv.1 = Sum.inr h)) = decide (h ∈ ddup hs) := by
    rw [valV_any]
    by_cases c : h ∈ ddup hs
    · rw [show valV (cntK hs) (Sum.inr h) = some _ from valS_map (f := fun k => V.int (hs.count k : Nat)) c, decide_eq_true c]; rfl
    · rw [show valV (cntK hs) (Sum.inr h) = none from valS_none c, decide_eq_false c]; rfl
  unfold putK
  rw [any]
  unfold cntK
  rw [ddup_snoc]
  by_cases c : h ∈ ddup hs
  · rw [if_pos (decide_eq_true c), if_pos c, List.map_map]
    refine List.map_congr_left fun k _ => ?_
    show (if (Sum.inr k : Key) = Sum.inr h then ((Sum.inr k : Key), V.int ((hs.count h : Nat) + 1)) else (Sum.inr k, V.int (hs.count k : Nat))) = _
    rw [cnt]
    by_cases e : k = h
    · rw [if_pos (by rw [e]), if_pos e]; rfl
    · rw [if_neg (fun z => e (Sum.inr.inj z)), if_neg e]
  · rw [if_neg (by simpa using c), if_neg c, List.map_append]
    have e1 : ((ddup hs).map fun k => ((Sum.inr k : Key), V.int (hs.count k : Nat))) = (ddup hs).map fun k => (Sum.inr k, V.int ((hs ++ [h]).count k : Nat)) := List.map_congr_left fun k hk => by
      rw [cnt, if_neg (fun z => c (by rw [← z]; exact hk))]
    rw [e1]
    congr 1
    show [((Sum.inr h : Key), V.int ((hs.count h : Nat) + 1))] = [(Sum.inr h, V.int ((hs ++ [h]).count h : Nat))]
    rw [cnt, if_pos rfl]; rfl
/-- the counts, by their texts -/
def cntL (hs : List Str) : List (Str × Int) := (sortS (ddup hs)).map fun h => (h, (hs.count h : Nat))
theorem ddup_perm {hs hs' : List Str} (h : hs.Perm hs') : (ddup hs).Perm (ddup hs') := (List.perm_ext_iff_of_nodup (ddup_nodup _) (ddup_nodup _)).mpr fun a => by rw [mem_ddup, mem_ddup, h.mem_iff]
theorem cntL_perm {hs hs' : List Str} (h : hs.Perm hs') : cntL hs = cntL hs' := by
  unfold cntL
  rw [sortS_perm' (ddup_perm h)]
  exact List.map_congr_left fun k _ => by rw [h.count_eq]
theorem cntL_len (hs : List Str) : (cntL hs).length = (ddup hs).length := by unfold cntL; rw [List.length_map, sortS_len]
/-- pairs of a text and a number, in tuples -/
def SPairs (H : Hp) (ts : List Addr) (ps : List (Str × Int)) : Prop := Paired (fun t p => H t = some (.tup [.str p.1, .int p.2])) ts ps
theorem SPairs.keepT {H H' : Hp} {ts : List Addr} {ps : List (Str × Int)} (h : SPairs H ts ps) (k : KeepT H H') : SPairs H' ts ps := Paired.mapP h fun _ _ z => k _ _ z
def spairD (p : Str × Int) : PyData := .tuple [.str p.1, .int p.2]
theorem spairs_dp {K : PySem.W.Frag} {H : Hp} : ∀ {ts : List Addr} {ps : List (Str × Int)}, SPairs H ts ps → DpAll K H (ts.map V.ref) (ps.map spairD)
  | _, _, .nil => .nil
  | _, _, .cons h t => .cons (.tup (sqT h) (.cons (.str _) (.cons (.int _) .nil))) (spairs_dp t)
theorem lay_spairs {ps : List (Str × Int)} (h : ∀ p ∈ ps, nameS p.1 = true) : Lay 2 (.list (ps.map spairD)) := lay_list (n := 1) (lay_map fun p hp => lay_tuple (n := 0) (lay_cons (lay_str (nameS_ok (h p hp))) (lay_cons (lay_int _) lay_nil)))
theorem pairs_cnt {H : Hp} {f : Str → Int} : ∀ {L : List Str} {ys : List V}, Paired (fun x y => ∃ n t, x = V.str n ∧ y = V.ref t ∧ H t = some (.tup [.str n, .int (f n)])) (L.map V.str) ys → ∃ ts, ys = ts.map V.ref ∧ SPairs H ts (L.map fun n => (n, f n))
  | [], _, .nil => ⟨[], rfl, .nil⟩
  | n :: L, _, .cons r t => by
    obtain ⟨n', a, e1, rfl, h⟩ := r
    cases e1
    obtain ⟨ps, rfl, p⟩ := pairs_cnt t
    exact ⟨a :: ps, rfl, .cons h p⟩
/-! ### what is seen -/
noncomputable def seenH (M : PM) (z : Nat) (b : Bx) (L : List Str) : List Str := (L.filter fun n => inBx b (ptOf M n)).map (hd (nearR M z) (namesOf M))
noncomputable def seenL (M : PM) (z : Nat) (b : Bx) : List (Str × Int) := cntL (seenH M z b (namesOf M))
theorem seenH_len (M : PM) (z : Nat) (b : Bx) (L : List Str) : (seenH M z b L).length ≤ L.length := by
  unfold seenH
  rw [List.length_map]
  exact List.length_filter_le _ _
theorem seenH_mem {M : PM} {z : Nat} {b : Bx} {L : List Str} (hL : ∀ n ∈ L, n ∈ namesOf M) : ∀ h ∈ seenH M z b L, h ∈ namesOf M := fun h hh => by
  obtain ⟨n, hn, rfl⟩ := List.mem_map.mp hh
  exact hd_mem (hL n (List.mem_filter.mp hn).1)
theorem seenL_names {M : PM} (ok : PMOk M) {z : Nat} {b : Bx} : ∀ p ∈ seenL M z b, nameS p.1 = true := fun p hp => by
  obtain ⟨h, hh, rfl⟩ := List.mem_map.mp hp
  exact ok.name (seenH_mem (fun _ z => z) h ((mem_ddup _).mp (mem_sortS.mp hh)))
theorem seenL_len (M : PM) (z : Nat) (b : Bx) : (seenL M z b).length ≤ (namesOf M).length := by
  unfold seenL
  rw [cntL_len]
  exact Nat.le_trans (ddup_len _) (seenH_len M z b (namesOf M))
/-- the least size at which no more are seen -/
noncomputable def bestOf (M : PM) (b : Bx) (most : Int) : Nat := ((List.range 14).find? fun z => decide (((seenL M z b).length : Int) ≤ most)).getD 13
theorem best_found {M : PM} {b : Bx} {most : Int} {z : Nat} (hz : z < 14) (h : ((seenL M z b).length : Int) ≤ most) (hl : ∀ y < z, ¬ ((seenL M y b).length : Int) ≤ most) : bestOf M b most = z := by
  unfold bestOf
  have : (List.range 14).find? (fun z => decide (((seenL M z b).length : Int) ≤ most)) = some z := by
    rw [List.find?_eq_some_iff_append]
    refine ⟨decide_eq_true h, List.range z, (List.range' (z + 1) (14 - (z + 1))), ?_, fun y hy => ?_⟩
    · rw [List.range_eq_range', List.range_eq_range']
      have h1 : List.range' 0 14 = List.range' 0 z ++ List.range' z (14 - z) := by
        have := List.range'_append_1 (s := 0) (m := z) (n := 14 - z)
        rw [Nat.zero_add] at this
        rw [this]
        congr 1
        omega
      rw [h1]
      congr 1
      have h2 : 14 - z = (14 - (z + 1)) + 1 := by omega
      rw [h2, List.range'_succ]
    · have := List.mem_range.mp hy
      simp [hl y this]
  rw [this]; rfl
theorem best_none {M : PM} {b : Bx} {most : Int} (hl : ∀ y < 14, ¬ ((seenL M y b).length : Int) ≤ most) : bestOf M b most = 13 := by
  unfold bestOf
  have : (List.range 14).find? (fun z => decide (((seenL M z b).length : Int) ≤ most)) = none := by
    rw [List.find?_eq_none]
    intro y hy
    simp [hl y (List.mem_range.mp hy)]
  rw [this]; rfl
end NM

namespace NM
open PySem PySem.Spec PyProof.Rows L2 HotX L2H
open LamX (ExtN Tabs)
theorem pdT {H : Hp} {a : Addr} {xs : List V} (h : H a = some (.tup xs)) (hl : xs.length ≤ 1000) (hf : xs.all flatV = true) : PD H (.ref a) := ⟨.inl ⟨xs, h⟩, fun ys e => by
  rw [tupOf_ref h] at e
  cases e
  exact ⟨hl, fun x hx => dat_flat (List.all_eq_true.mp hf x hx)⟩⟩
theorem pdN {H : Hp} : PD H .non := ⟨trivial, fun xs e => nomatch e⟩
theorem isBoxB_tup {H : Hp} {a : Addr} {xs : List V} (h : H a = some (.tup xs)) : isBoxB H (.ref a) = (goodBx xs && ordBx xs) := by
  unfold isBoxB
  rw [tupOf_ref h]
theorem isBoxB_lst {H : Hp} {a : Addr} {xs : List V} (h : H a = some (.lst xs)) : isBoxB H (.ref a) = false := by
  have e0 : tupOf H (.ref a) = none := by simp [tupOf, h]
  unfold isBoxB
  rw [e0]
theorem isBoxB_ext {H H' : Hp} {v : V} (d : PD H v) (s : ExtN H H') : isBoxB H' v = isBoxB H v := by
  unfold isBoxB
  rw [tupOf_ext d.1 s]
theorem rep_words {K : PySem.W.Frag} {H : Hp} {w : Addr} {nm : Str} (h : H w = some (.tup [.str "refused", .str nm])) : ∀ n : Nat, DpAll K H ((List.replicate n [V.ref w]).flatten) ((List.replicate n nm).map wordD)
  | 0 => .nil
  | n + 1 => by
    rw [List.replicate_succ, List.replicate_succ, List.flatten_cons, List.map_cons]
    exact .cons (dp_word h) (rep_words h n)
theorem tabs_upd' {T : List (Addr × Str)} {H : Hp} {l : Addr} {kvs : List (Key × V)} {o : HO} (t : Tabs T H) (h : H l = some (.dK kvs)) : Tabs T (upd H l o) := fun p hp => by
  obtain ⟨ps, h1, h2, h3⟩ := t p hp
  refine ⟨ps, ?_, h2, fun pos cv hc => ?_⟩
  · rw [upd_ne (ne_of h1 h (by intro z; cases z))]
    exact h1
  · obtain ⟨c, e1, e2⟩ := h3 pos cv hc
    refine ⟨c, e1, ?_⟩
    rw [upd_ne (ne_of e2 h (fun z => by unfold LamX.CodeO at z; cases z))]
    exact e2
/-! ### sixty names -/
def sixty (j : Nat) : List Str := (List.range j).map fun i => nameOf (i : Nat)
theorem sixty_succ (j : Nat) : sixty (j + 1) = sixty j ++ [nameOf (j : Nat)] := by unfold sixty; rw [List.range_succ, List.map_append]; rfl
theorem sixty_nodup : (sixty 60).Nodup := by decide +kernel
theorem sixty_sorted : (sixty 60).Pairwise (fun a b => leS a b = true) := by
  have : (sixty 60).Pairwise (fun a b => (!ltS b a) = true) := by decide +kernel
  exact this
theorem sixty_new {j : Nat} (h : j < 60) : nameOf (j : Nat) ∉ sixty j := fun z => by
  have nd : (sixty (j + 1)).Nodup := by
    refine sixty_nodup.sublist ?_
    unfold sixty
    exact (List.range_sublist.mpr (by omega)).map _
  rw [sixty_succ] at nd
  exact (List.nodup_append.mp nd).2.2 _ z _ (by simp) rfl
theorem sixty_aa : (sixty 60)[0]? = some ("aa" : Str) := by decide +kernel
theorem sixty_ab : ("ab" : Str) ∈ sixty 60 := by decide +kernel
theorem sixty_zz : ("zz" : Str) ∉ sixty 60 := by decide +kernel
/-- at size 13 the least is the one head -/
theorem head13 {M : PM} (ok : PMOk M) {a b : Str} (ha : a ∈ namesOf M) (hlt : ltS a b = true) : b ∉ headsOf (nearR M 13) (namesOf M) := fun hb => by
  obtain ⟨hbL, e⟩ := mem_headsOf.mp hb
  have h1 : hd (nearR M 13) (namesOf M) a = b := by
    rw [hd_eq (nearR_symm M 13) (Rch.one ha hbL (near_all ok a ha b hbL))]; exact e
  have h2 := hd_le (R := nearR M 13) (.refl ha)
  rw [h1] at h2
  unfold leS at h2
  rw [hlt] at h2
  cases h2
theorem paired_append {α β : Type} {F : α → β → Prop} : ∀ {l l' : List α} {m m' : List β}, Paired F l m → Paired F l' m' → Paired F (l ++ l') (m ++ m')
  | _, _, _, _, .nil, h => h
  | _, _, _, _, .cons r t, h => .cons r (paired_append t h)
/-- a list of refusals and one more, in a new list -/
theorem sm_cat {Hb H1 H2 : Hp} {tl : List (Addr × Str)} {l l2 p : Addr} {rs rs2 : List Addr} {ws ws2 : List Str} (m : Sm Hb H1 tl l rs ws) (m2 : Sm H1 H2 tl l2 rs2 ws2) (h : H2 l = some (.lst (rs.map V.ref))) (hw : WordsAt H2 rs ws) (np : H2 p = none) (hf : rs.length + rs2.length ≤ 100 := by omega) :
    Sm Hb (upd H2 p (.lst (rs.map V.ref ++ rs2.map V.ref))) tl p (rs ++ rs2) (ws ++ ws2) :=
  have sP := same_upd (o := .lst (rs.map V.ref ++ rs2.map V.ref)) np
  ⟨(m.ext.trans m2.ext).trans sP.ext, m2.tabs.ext sP, by rw [upd_same, List.map_append], paired_append (hw.keepT sP.keepT) (m2.wds.keepT sP.keepT), ⟨H2, m.ext.trans m2.ext, np⟩, by rw [List.length_append]; exact hf⟩
end NM

namespace NM
open PySem PySem.Spec PyProof.Rows L2 HotX L2H
/-! ### points and boxes mirrored, or with both ways exchanged -/
def turnF (w : Nat) : Pt → Pt := fun p => if w = 0 then (4095 - p.1, p.2) else (p.2, p.1)
def turnB (w : Nat) : Bx → Bx := fun b => if w = 0 then (4095 - b.2.2.1, b.2.1, 4095 - b.1, b.2.2.2) else (b.2.1, b.1, b.2.2.2, b.2.2.1)
theorem turn_dist (w : Nat) (p q : Pt) : dist (turnF w p) (turnF w q) = dist p q := by
  unfold turnF
  split
  · unfold dist
    dsimp only
    rw [show 4095 - p.1 - (4095 - q.1) = -(p.1 - q.1) by omega, iabs_neg]
  · unfold dist imax
    dsimp only
    split <;> split <;> omega
theorem turn_ok {w : Nat} {p : Pt} (h : PtOk p) : PtOk (turnF w p) := by
  obtain ⟨h1, h2, h3, h4⟩ := h
  unfold turnF
  split
  · exact ⟨by show 0 ≤ 4095 - p.1; omega, by show 4095 - p.1 ≤ 4095; omega, h3, h4⟩
  · exact ⟨h3, h4, h1, h2⟩
theorem turnB_ok {w : Nat} {b : Bx} (h : BoxOk b) : BoxOk (turnB w b) := by
  obtain ⟨h1, h2, h3, h4, h5, h6, h7, h8, h9, h10⟩ := h
  unfold turnB
  split
  · exact ⟨by dsimp only; omega, by dsimp only; omega, h3, h4, by dsimp only; omega, by dsimp only; omega, h7, h8, by dsimp only; omega, h10⟩
  · exact ⟨h3, h4, h1, h2, h7, h8, h5, h6, h10, h9⟩
theorem turn_in (w : Nat) (b : Bx) (p : Pt) : inBx (turnB w b) (turnF w p) = inBx b p := by
  unfold turnB turnF inBx
  split
  · have e1 : decide (4095 - b.2.2.1 ≤ 4095 - p.1) = decide (p.1 ≤ b.2.2.1) := decide_eq_decide.mpr (by omega)
    have e2 : decide (4095 - p.1 ≤ 4095 - b.1) = decide (b.1 ≤ p.1) := decide_eq_decide.mpr (by omega)
    dsimp only
    rw [e1, e2, Bool.and_comm (decide (p.1 ≤ b.2.2.1))]
  · dsimp only
    rw [Bool.and_comm]
/-- the marks of one are those of the other, turned -/
structure TurnR (w : Nat) (M1 M2 : PM) : Prop where
  nms : (namesOf M1).Perm (namesOf M2)
  pts : ∀ n ∈ namesOf M1, ptOf M2 n = turnF w (ptOf M1 n)
theorem TurnR.of {w : Nat} {P M1 M2 : PM} (nd : (namesOf P).Nodup) (h1 : P.Perm M1) (h2 : (mapP (turnF w) P).Perm M2) : TurnR w M1 M2 := by
  have nd' : (namesOf (mapP (turnF w) P)).Nodup := by rw [mapP_names]; exact nd
  refine ⟨?_, fun n hn => ?_⟩
  · have := names_perm h2
    rw [mapP_names] at this
    exact (names_perm h1).symm.trans this
  · have hP := (names_perm h1).mem_iff.mpr hn
    rw [← ptOf_perm h2 nd' (by rw [mapP_names]; exact hP), mapP_pt nd hP, ptOf_perm h1 nd hP]
theorem TurnR.like {w : Nat} {M1 M2 : PM} (t : TurnR w M1 M2) : Like M1 M2 := ⟨t.nms, fun s a ha b hb => by
  unfold nearR
  rw [t.pts a ha, t.pts b hb, turn_dist]⟩
theorem sum_mirror (f : Str → Int) : ∀ L : List Str, (L.map fun n => 4095 - f n).sum = (L.length : Int) * 4095 - (L.map f).sum
  | [] => rfl
  | n :: L => by
    rw [List.map_cons, List.map_cons, List.sum_cons, List.sum_cons, sum_mirror f L, List.length_cons]
    have : ((L.length + 1 : Nat) : Int) * 4095 = (L.length : Int) * 4095 + 4095 := by omega
    omega
theorem TurnR.way {w : Nat} {M1 M2 : PM} (t : TurnR w M1 M2) {L : List Str} (hL : ∀ n ∈ L, n ∈ namesOf M1) {n : Str} (hn : n ∈ L) : wayI M2 L n = wayI M1 L n := by
  unfold wayI
  by_cases c : w = 0
  · have ex : xsOf M2 L = L.map fun n => 4095 - (ptOf M1 n).1 := List.map_congr_left fun m hm => by rw [t.pts m (hL m hm)]; unfold turnF; rw [if_pos c]
    have ey : ysOf M2 L = ysOf M1 L := List.map_congr_left fun m hm => by rw [t.pts m (hL m hm)]; unfold turnF; rw [if_pos c]
    rw [ex, ey, t.pts n (hL n hn), sum_mirror]
    have e1 : turnF w (ptOf M1 n) = (4095 - (ptOf M1 n).1, (ptOf M1 n).2) := by unfold turnF; rw [if_pos c]
    rw [e1]
    unfold dist
    dsimp only
    have e2 : (L.length : Int) * (4095 - (ptOf M1 n).1) - ((L.length : Int) * 4095 - (L.map fun n => (ptOf M1 n).1).sum) = -((L.length : Int) * (ptOf M1 n).1 - (xsOf M1 L).sum) := by
      unfold xsOf
      rw [Int.mul_sub]
      omega
    rw [e2, iabs_neg]
  · have ex : xsOf M2 L = ysOf M1 L := List.map_congr_left fun m hm => by rw [t.pts m (hL m hm)]; unfold turnF; rw [if_neg c]
    have ey : ysOf M2 L = xsOf M1 L := List.map_congr_left fun m hm => by rw [t.pts m (hL m hm)]; unfold turnF; rw [if_neg c]
    rw [ex, ey, t.pts n (hL n hn)]
    have e1 : turnF w (ptOf M1 n) = ((ptOf M1 n).2, (ptOf M1 n).1) := by unfold turnF; rw [if_neg c]
    rw [e1]
    unfold dist imax
    dsimp only
    split <;> split <;> omega
theorem TurnR.mid {w : Nat} {M1 M2 : PM} (t : TurnR w M1 M2) {L : List Str} (hL : ∀ n ∈ L, n ∈ namesOf M1) {n : Str} (h : IsMid M2 L n) : IsMid M1 L n :=
  ⟨h.mem, fun m hm => by rw [← t.way hL h.mem, ← t.way hL hm]; exact h.le m hm⟩
theorem min_neg {m : Int} {f : Str → Int} {L : List Str} (h : IsMax m (L.map f)) : IsMin (4095 - m) (L.map fun n => 4095 - f n) := by
  obtain ⟨h1, h2⟩ := h
  obtain ⟨n, hn, e⟩ := List.mem_map.mp h1
  refine ⟨List.mem_map.mpr ⟨n, hn, by rw [e]⟩, fun y hy => ?_⟩
  obtain ⟨k, hk, rfl⟩ := List.mem_map.mp hy
  have := h2 (f k) (List.mem_map.mpr ⟨k, hk, rfl⟩)
  omega
theorem max_neg {m : Int} {f : Str → Int} {L : List Str} (h : IsMin m (L.map f)) : IsMax (4095 - m) (L.map fun n => 4095 - f n) := by
  obtain ⟨h1, h2⟩ := h
  obtain ⟨n, hn, e⟩ := List.mem_map.mp h1
  refine ⟨List.mem_map.mpr ⟨n, hn, by rw [e]⟩, fun y hy => ?_⟩
  obtain ⟨k, hk, rfl⟩ := List.mem_map.mp hy
  have := h2 (f k) (List.mem_map.mpr ⟨k, hk, rfl⟩)
  omega
theorem TurnR.box {w : Nat} {M1 M2 : PM} (t : TurnR w M1 M2) {L : List Str} (hL : ∀ n ∈ L, n ∈ namesOf M1) {b : Bx} (h : IsBox M1 L b) : IsBox M2 L (turnB w b) := by
  by_cases c : w = 0
  · have ex : xsOf M2 L = L.map fun n => 4095 - (ptOf M1 n).1 := List.map_congr_left fun m hm => by rw [t.pts m (hL m hm)]; unfold turnF; rw [if_pos c]
    have ey : ysOf M2 L = ysOf M1 L := List.map_congr_left fun m hm => by rw [t.pts m (hL m hm)]; unfold turnF; rw [if_pos c]
    have eb : turnB w b = (4095 - b.2.2.1, b.2.1, 4095 - b.1, b.2.2.2) := by unfold turnB; rw [if_pos c]
    rw [eb]
    exact ⟨by rw [ex]; exact min_neg h.r, by rw [ey]; exact h.t, by rw [ex]; exact max_neg h.l, by rw [ey]; exact h.b⟩
  · have ex : xsOf M2 L = ysOf M1 L := List.map_congr_left fun m hm => by rw [t.pts m (hL m hm)]; unfold turnF; rw [if_neg c]
    have ey : ysOf M2 L = xsOf M1 L := List.map_congr_left fun m hm => by rw [t.pts m (hL m hm)]; unfold turnF; rw [if_neg c]
    have eb : turnB w b = (b.2.1, b.1, b.2.2.2, b.2.2.1) := by unfold turnB; rw [if_neg c]
    rw [eb]
    exact ⟨by rw [ex]; exact h.t, by rw [ey]; exact h.l, by rw [ex]; exact h.b, by rw [ey]; exact h.r⟩
theorem IsBox.ok {M : PM} {L : List Str} {b : Bx} (h : IsBox M L b) (hL : ∀ n ∈ L, PtOk (ptOf M n)) : BoxOk b := by
  have px : ∀ {x}, x ∈ xsOf M L → 0 ≤ x ∧ x ≤ 4095 := fun {x} hx => by
    obtain ⟨n, hn, rfl⟩ := List.mem_map.mp hx
    exact ⟨(hL n hn).1, (hL n hn).2.1⟩
  have py : ∀ {x}, x ∈ ysOf M L → 0 ≤ x ∧ x ≤ 4095 := fun {x} hx => by
    obtain ⟨n, hn, rfl⟩ := List.mem_map.mp hx
    exact ⟨(hL n hn).2.2.1, (hL n hn).2.2.2⟩
  exact ⟨(px h.l.1).1, (px h.l.1).2, (py h.t.1).1, (py h.t.1).2, (px h.r.1).1, (px h.r.1).2, (py h.b.1).1, (py h.b.1).2, h.l.2 _ h.r.1, h.t.2 _ h.b.1⟩
theorem Like.split {P M : PM} (h : Like P M) (L : List Str) (y : Nat) : splitR P L y = splitR M L y := by
  unfold splitR
  rw [h.hd y]
theorem Like.open {P M : PM} (h : Like P M) {L : List Str} {z : Nat} {n : Str} {y : Nat} {hs : List Str} (o : IsOpen M L z n y hs) : IsOpen P L z n y hs := by
  unfold IsOpen at o ⊢
  simp only [h.split]
  exact o
theorem Like.rowAt {P M : PM} (h : Like P M) (n : Str) : NM.rowAt P n = NM.rowAt M n := by
  funext s
  unfold NM.rowAt
  rw [h.row s, h.hd s]
theorem TurnR.seen {w : Nat} {M1 M2 : PM} (t : TurnR w M1 M2) (z : Nat) (b : Bx) : seenL M2 z (turnB w b) = seenL M1 z b := by
  unfold seenL
  refine cntL_perm ?_
  unfold seenH
  rw [t.like.hd z]
  refine List.Perm.map _ ?_
  have h1 : (namesOf M1).filter (fun n => inBx (turnB w b) (ptOf M2 n)) = (namesOf M1).filter fun n => inBx b (ptOf M1 n) := filter_congr' fun n hn => by rw [t.pts n hn, turn_in]
  rw [← h1]
  exact t.nms.symm.filter _
theorem TurnR.best {w : Nat} {M1 M2 : PM} (t : TurnR w M1 M2) (b : Bx) (most : Int) : bestOf M2 (turnB w b) most = bestOf M1 b most := by
  unfold bestOf
  simp only [t.seen]
theorem cut_mem {xs : List V} {lo hi : Option Int} {x : V} (h : x ∈ cutV xs lo hi) : x ∈ xs := List.mem_of_mem_drop (List.mem_of_mem_take h)
theorem rd_same {H H' : Hp} {d : Addr} {u : HO} (r : Rd H d u) (s : Same H H') : Rd H' d u := by
  rcases r with r | ⟨od, r⟩
  · exact .inl (s _ _ r)
  · exact .inr ⟨od, s _ _ r⟩
theorem dget_same {H H' : Hp} {d : Addr} {k : V} {o : Option V} (g : DGet H d k o) (s : Same H H') : DGet H' d k o := by
  rcases g with ⟨kvs, k', r, e, h⟩ | ⟨kvs, k', b, r, e, hb, h⟩
  · exact .inl ⟨kvs, k', rd_same r s, e, h⟩
  · exact .inr ⟨kvs, k', b, rd_same r s, e, s _ _ hb, h⟩
end NM

namespace NM
open PySem PySem.Spec PyProof.Rows L2 HotX L2H
open TL (tl spl numL)
/-! ### a method whose refusals a try of the same def looks at -/
def tMethAt (C : Addr) (m : Str) (sp : Sp) (E : St → XK) (ta : TE) (t : TA) : TE := fun σ H Q => ta σ H fun x H1 => ∃ a dx fs, x = .ref a ∧ H1 a = some (.ins C dx fs) ∧ fs.lookup m = none ∧ t σ H1 fun vs H2 => sp (x :: vs) H2 Q (E σ)
section
variable {X : Cx} {CX : CXT} {k : Nat} {f C : Addr} {fd : FuncData} {ps : List Str} {sp : Sp} {E : St → XK} {m : Str} {pos apos : Pos} {e o : Expr} {es : List Expr} {ta : TE} {t : TA}
theorem pe_methAt {pl : Sem Bool} (he : PE X o ta) (c : Cls X.K C) (hm : Meth X.K C m f) (F : FnOk X.prog X.w X.K X.mg X.base CX k f fd ps sp) (hr : Room k X.A) (hb : Binds X.K fd ps []) (hx : ∀ σ, PassesAt CX X σ (E σ)) (ha : PA X (e :: es) t)
    (hst : starEach (e :: es) X.env = (false, eval e X.env) :: starEach es X.env := by rfl) (hpl : (backTo pos (starEach es X.env)).any (·.1) = false := by rfl)
    (ht : eval (.Call (.Attribute o m apos) (e :: es) [] pos) X.env = (do
      let ov ← eval o X.env
      standAt apos.atName
      let (f, first) ← holding [ov] (getMethod ov m pl)
      callWith pos f first (backTo pos (starEach (e :: es) X.env)) (backToKw pos (keywordEach [] X.env))) := by rfl) :
    PE X (.Call (.Attribute o m apos) (e :: es) [] pos) (tMethAt C m sp E ta t) := by
  refine ⟨fun pins s σ H Q I h => ?_⟩
  refine PySem.W.methodCall_KW (pl := pl) (thn (he.run pins s σ H _ I h) fun u s1 ⟨x, H1, I1, rx, a, dx, fs, ex, ea, l, q⟩ => ?_) ht
  subst ex
  obtain rfl : u = Value.ref a := rx
  refine getmeth_ok I1 ea c hm l ?_
  refine PySem.W.callWith_K (first := [.ref a]) (h₀ := X.base) I.ok.mod.kin hm.kp (thn (ha.run pos pins s1 σ H1 _ I1 q) fun us s2 ⟨vs, H2, I2, r, q2⟩ => ⟨I2.kIn, ?_⟩) hst hpl
  exact run_fnS (us := .ref a :: us) (vs := .ref a :: vs) F hr hb (hx σ) I2 (.cons rfl r) q2
end
/-! ### texts as rows of signs -/
def ofL (l : List Nat) : Str := ⟨l.toArray⟩
theorem tl_ofL (l : List Nat) : tl (ofL l) = l := rfl
theorem ofL_tl (x : Str) : ofL (tl x) = x := TL.mk_tl x
theorem ofL_inj {a b : List Nat} (h : ofL a = ofL b) : a = b := by
  have := congrArg (fun s : Str => tl s) h
  exact this
def splS (s : Nat) (x : Str) : List Str := (spl [s] 0 [] (tl x)).map ofL
theorem split_S {y : Str} {s : Nat} (ey : tl y = [s]) (hs : s < 256) (x : Str) : Txt.split x y = splS s x := by
  have h1 := TL.split_spl x y (by rw [ey]; simp) (TL.kind_ok (by
    have : y = ofL [s] := by rw [← ey, ofL_tl]
    rw [this]
    simp [ofL, hs]))
  rw [ey] at h1
  unfold splS
  rw [← h1, List.map_map]
  conv => lhs; rw [← List.map_id (Txt.split x y)]
  exact List.map_congr_left fun z _ => (ofL_tl z).symm
theorem spl_len (s : Nat) : ∀ (l acc : List Nat), (spl [s] 0 acc l).length = l.count s + 1
  | [], acc => by rw [TL.spl_nil]; rfl
  | c :: r, acc => by
    by_cases h : c = s
    · rw [TL.spl_hit (by simp [TL.pre, h]), List.length_cons]
      show (spl [s] 0 [] r).length + 1 = _
      rw [spl_len s r [], List.count_cons, if_pos (by simp [h])]
    · rw [TL.spl_miss (by simp [TL.pre, h]), spl_len s r, List.count_cons, if_neg (by simp [h])]
theorem splS_len (s : Nat) (x : Str) : (splS s x).length = (tl x).count s + 1 := by unfold splS; rw [List.length_map, spl_len]
/-! ### numbers -/
def digB (c : Nat) : Bool := decide (48 ≤ c) && decide (c ≤ 57)
def numB (l : List Nat) : Bool := (decide (1 ≤ l.length) && decide (l.length ≤ 4) && l.all digB) && (decide (l = [48]) || !decide (l.head? = some 48))
def numV (l : List Nat) : Nat := NumText.digitsVal l
theorem numB_digits {l : List Nat} (h : l.all digB = true) : NumText.AllDigits l := fun c hc => by
  have := List.all_eq_true.mp h c hc
  simp only [digB, Bool.and_eq_true, decide_eq_true_eq] at this
  exact this
theorem numB_canon {l : List Nat} (h : numB l = true) : l = numL (numV l) ∧ numV l < 10000 := by
  simp only [numB, Bool.and_eq_true, decide_eq_true_eq, Bool.or_eq_true] at h
  obtain ⟨⟨⟨h1, h4⟩, hd⟩, h0⟩ := h
  have ad := numB_digits hd
  have e : l = numL (numV l) := by
    unfold numL numV
    rw [NumText.toDigits_digitsVal (l.length - 1) l (by omega) ad ?_, List.map_map]
    · conv => lhs; rw [← List.map_id l]
      refine List.map_congr_left fun c hc => ?_
      have := ad c hc
      have hv : ∀ d < 10, (Char.ofNat (48 + d)).toNat = 48 + d := by decide
      show c = (Char.ofNat c).toNat
      have h2 := hv (c - 48) (by omega)
      rw [show 48 + (c - 48) = c by omega] at h2
      exact h2.symm
    · cases l with
      | nil => simp at h1
      | cons c r =>
        rcases h0 with h0 | h0
        · left
          rw [h0]; rfl
        · right
          have hc := ad c (by simp)
          have : c ≠ 48 := fun z => by rw [z] at h0; simp at h0
          exact ⟨c, r, rfl, by omega⟩
  refine ⟨e, ?_⟩
  have hb : ∀ (l : List Nat), l.all digB = true → NumText.digitsVal l < 10 ^ l.length := by
    refine snoc_ind (by decide) fun L c ih hL => ?_
    rw [List.all_append, Bool.and_eq_true] at hL
    rw [NumText.digitsVal_snoc, List.length_append]
    have := ih hL.1
    have hc := numB_digits hL.2 c (by simp)
    show _ < 10 ^ (L.length + 1)
    rw [Nat.pow_succ]
    omega
  have h5 := hb l hd
  have h6 : 10 ^ l.length ≤ 10 ^ 4 := Nat.pow_le_pow_right (by decide) h4
  unfold numV
  omega
theorem numB_num {n : Nat} (h : n < 10000) : numB (numL n) = true ∧ numV (numL n) = n := by
  have hl : (numL n).length ≤ 4 := TL.numL_len (by decide) h
  have hne := TL.numL_ne n
  have hd := TL.numL_digits n
  refine ⟨?_, TL.numL_val n⟩
  simp only [numB, Bool.and_eq_true, decide_eq_true_eq, Bool.or_eq_true]
  refine ⟨⟨⟨by cases e : numL n with | nil => exact absurd e hne | cons a b => simp, hl⟩, List.all_eq_true.mpr fun c hc => ?_⟩, ?_⟩
  · have := hd c hc
    simp only [digB, Bool.and_eq_true, decide_eq_true_eq]
    exact this
  · by_cases z : n = 0
    · left; rw [z]; rfl
    · right
      have hh : ∀ n : Nat, 0 < n → (numL n).head? ≠ some 48 := fun n => by
        induction n using Nat.strongRecOn with
        | _ n ih =>
          intro hn
          by_cases h : n < 10
          · rw [TL.numL_lt h]
            simp
            omega
          · rw [TL.numL_step (by omega), List.head?_append]
            have := ih (n / 10) (by omega) (by omega)
            cases e : numL (n / 10) with
            | nil => exact absurd e (TL.numL_ne _)
            | cons a b =>
              rw [e] at this
              simpa using this
      simpa using hh n (by omega)
/-! ### rows, and texts read -/
def rowS (row : Str) : Option (Str × Pt) := match splS 32 row with
  | [a, b, c] => if numB (tl b) && numB (tl c) then some (a, ((numV (tl b) : Nat), (numV (tl c) : Nat))) else none
  | _ => none
def okB (p : Pt) : Bool := decide (p.1 ≤ 4095) && decide (p.2 ≤ 4095)
def putS (M : PM) (r : Str × Pt) : Bool := nameS r.1 && !decide (r.1 ∈ namesOf M) && decide (M.length < 60) && okB r.2
def stepS (M : PM) (row : Str) : Option PM := match rowS row with
  | some r => if putS M r then some (M ++ [r]) else none
  | none => none
def readS : List Str → PM → Option PM
  | [], M => some M
  | row :: rows, M => match stepS M row with
    | some M' => readS rows M'
    | none => none
def endB (l : List Nat) : Bool := decide (l = []) || decide (l.getLast? = some 10)
def readT (x : Str) : Option PM := if endB (tl x) then readS (splS 10 x).dropLast [] else none
/-- a row, without its end -/
def rowL (r : Str × Pt) : List Nat := tl r.1 ++ 32 :: (numL r.2.1.toNat ++ 32 :: numL r.2.2.toNat)
theorem name_free {n : Str} (h : nameS n = true) {s : Nat} (hs : s < 97) : s ∉ tl n := fun hm => by
  simp only [nameS, Bool.and_eq_true, decide_eq_true_eq] at h
  have h1 : s ∈ smallS.cps.toList := of_decide_eq_true (List.all_eq_true.mp h.2 s hm)
  have h2 : ∀ c ∈ smallS.cps.toList, 97 ≤ c := by decide +kernel
  have := h2 s h1
  omega
theorem spl1 (s : Nat) {p : List Nat} (h : s ∉ p) (acc rest : List Nat) : spl [s] 0 acc (p ++ s :: rest) = (acc ++ p) :: spl [s] 0 [] rest := TL.spl_part1 (S := []) h
theorem spl0 (s : Nat) {p : List Nat} (h : s ∉ p) (acc : List Nat) : spl [s] 0 acc p = [acc ++ p] := TL.spl_last1 (S := []) h
/-- a row that is read is one that is written -/
theorem rowS_row {r : Str × Pt} (hn : nameS r.1 = true) (hp : PtOk r.2) : rowS (ofL (rowL r)) = some r := by
  obtain ⟨n, x, y⟩ := r
  obtain ⟨h1, h2, h3, h4⟩ := hp
  have hx : ∃ a : Nat, x = a ∧ a ≤ 4095 := ⟨x.toNat, by show x = _; have : (0 : Int) ≤ x := h1; omega, by have : x ≤ 4095 := h2; omega⟩
  have hy : ∃ a : Nat, y = a ∧ a ≤ 4095 := ⟨y.toNat, by show y = _; have : (0 : Int) ≤ y := h3; omega, by have : y ≤ 4095 := h4; omega⟩
  obtain ⟨a, rfl, ha⟩ := hx
  obtain ⟨b, rfl, hb⟩ := hy
  have e : splS 32 (ofL (rowL (n, ((a : Int), (b : Int))))) = [n, ofL (numL a), ofL (numL b)] := by
    unfold splS
    rw [tl_ofL]
    unfold rowL
    dsimp only
    rw [Int.toNat_natCast, Int.toNat_natCast, spl1 32 (name_free hn (by decide)), spl1 32 (TL.numL_free (by decide)), spl0 32 (TL.numL_free (by decide))]
    simp only [List.nil_append, List.map_cons, List.map_nil]
    rw [ofL_tl]
  unfold rowS
  rw [e]
  have na := numB_num (n := a) (by omega)
  have nb := numB_num (n := b) (by omega)
  simp only [tl_ofL, na.1, nb.1, na.2, nb.2, Bool.and_self, if_true]
/-- what a row tells, it writes -/
theorem row_of {row : Str} {r : Str × Pt} (h : rowS row = some r) : tl row = rowL r := by
  unfold rowS at h
  have join : ∀ (l acc : List Nat) (a b c : List Nat), spl [32] 0 acc l = [a, b, c] → acc ++ l = a ++ 32 :: (b ++ 32 :: c) := by
    have j1 : ∀ (l acc a : List Nat), spl [32] 0 acc l = [a] → acc ++ l = a := by
      intro l
      induction l with
      | nil => intro acc a h; rw [TL.spl_nil] at h; injection h with h; rw [List.append_nil, h]
      | cons x l ih =>
        intro acc a h
        by_cases e : x = 32
        · rw [TL.spl_hit (by simp [TL.pre, e])] at h
          injection h with _ h
          have := spl_len 32 l []
          have h' : spl [32] 0 [] l = [] := h
          rw [h'] at this
          simp at this
        · rw [TL.spl_miss (by simp [TL.pre, e])] at h
          have := ih _ _ h
          rw [← this]; simp
    have j2 : ∀ (l acc a b : List Nat), spl [32] 0 acc l = [a, b] → acc ++ l = a ++ 32 :: b := by
      intro l
      induction l with
      | nil => intro acc a b h; rw [TL.spl_nil] at h; injection h with _ h; cases h
      | cons x l ih =>
        intro acc a b h
        by_cases e : x = 32
        · rw [TL.spl_hit (by simp [TL.pre, e])] at h
          injection h with h1 h2
          have := j1 l [] b h2
          rw [h1, e, ← this]; simp
        · rw [TL.spl_miss (by simp [TL.pre, e])] at h
          have := ih _ _ _ h
          rw [← this]; simp
    intro l
    induction l with
    | nil => intro acc a b c h; rw [TL.spl_nil] at h; injection h with _ h; cases h
    | cons x l ih =>
      intro acc a b c h
      by_cases e : x = 32
      · rw [TL.spl_hit (by simp [TL.pre, e])] at h
        injection h with h1 h2
        have := j2 l [] b c h2
        rw [h1, e, ← this]; simp
      · rw [TL.spl_miss (by simp [TL.pre, e])] at h
        have := ih _ _ _ _ h
        rw [← this]; simp
  split at h
  · rename_i a b c e
    split at h
    · rename_i hb
      rw [Bool.and_eq_true] at hb
      have e2 := Option.some.inj h
      subst e2
      have h1 := numB_canon hb.1
      have h2 := numB_canon hb.2
      unfold splS at e
      have e3 : spl [32] 0 [] (tl row) = [tl a, tl b, tl c] := by
        have : ((spl [32] 0 [] (tl row)).map ofL).map tl = [tl a, tl b, tl c] := by rw [e]; rfl
        rw [List.map_map] at this
        rw [← this]
        conv => lhs; rw [← List.map_id (spl [32] 0 [] (tl row))]
        rfl
      have := join _ _ _ _ _ e3
      rw [List.nil_append] at this
      rw [this]
      unfold rowL
      dsimp only
      rw [Int.toNat_natCast, Int.toNat_natCast, ← h1.1, ← h2.1]
    · cases h
  · cases h
theorem rowS_ok {row : Str} {r : Str × Pt} (h : rowS row = some r) (ho : okB r.2 = true) : PtOk r.2 := by
  unfold rowS at h
  simp only [okB, Bool.and_eq_true, decide_eq_true_eq] at ho
  split at h
  · split at h
    · have e2 := Option.some.inj h
      subst e2
      exact ⟨by show (0 : Int) ≤ ((_ : Nat) : Int); omega, ho.1, by show (0 : Int) ≤ ((_ : Nat) : Int); omega, ho.2⟩
    · cases h
  · cases h
/-- the rows of a text that is read -/
theorem readS_rows : ∀ {rows : List Str} {M0 M : PM}, PMOk M0 → readS rows M0 = some M → PMOk M ∧ ∃ N, M = M0 ++ N ∧ rows.map tl = N.map rowL
  | [], M0, M, ok, h => by
    have := Option.some.inj h
    subst this
    exact ⟨ok, [], by simp, rfl⟩
  | row :: rows, M0, M, ok, h => by
    unfold readS at h
    split at h
    · rename_i M' e
      unfold stepS at e
      split at e
      · rename_i r er
        split at e
        · rename_i hp
          have e2 := Option.some.inj e
          subst e2
          simp only [putS, Bool.and_eq_true, decide_eq_true_eq, Bool.not_eq_true', decide_eq_false_iff_not] at hp
          obtain ⟨⟨⟨p1, p2⟩, p3⟩, p4⟩ := hp
          have ok' : PMOk (M0 ++ [r]) := by
            have := ok.put p3 p1 (rowS_ok er p4)
            rw [putP_new p2] at this
            exact this
          obtain ⟨okM, N, eN, er2⟩ := readS_rows ok' h
          refine ⟨okM, r :: N, by rw [eN]; simp, ?_⟩
          rw [List.map_cons, List.map_cons, er2, row_of er]
        · cases e
      · cases e
    · cases h
/-- the rows of a map, read in any order -/
theorem readS_all : ∀ {N M0 : PM}, PMOk (M0 ++ N) → readS (N.map fun r => ofL (rowL r)) M0 = some (M0 ++ N)
  | [], M0, ok => by rw [List.append_nil]; rfl
  | r :: N, M0, ok => by
    have hr := ok.ok r (by simp)
    have nd := ok.nodup
    have hl := ok.len
    have hn : r.1 ∉ namesOf M0 := fun z => by
      have e : namesOf (M0 ++ r :: N) = namesOf M0 ++ r.1 :: namesOf N := List.map_append
      rw [e] at nd
      exact (List.nodup_append.mp nd).2.2 _ z _ (by simp) rfl
    have e1 : stepS M0 (ofL (rowL r)) = some (M0 ++ [r]) := by
      unfold stepS
      rw [rowS_row hr.2 hr.1]
      have : putS M0 r = true := by
        simp only [putS, Bool.and_eq_true, decide_eq_true_eq, Bool.not_eq_true', decide_eq_false_iff_not, okB]
        refine ⟨⟨⟨hr.2, hn⟩, ?_⟩, hr.1.2.1, hr.1.2.2.2⟩
        rw [List.length_append, List.length_cons] at hl
        omega
      show (if putS M0 r = true then some (M0 ++ [r]) else none) = _
      rw [if_pos this]
    rw [List.map_cons]
    unfold readS
    rw [e1]
    have := readS_all (N := N) (M0 := M0 ++ [r]) (by rw [List.append_assoc]; exact ok)
    rw [List.append_assoc] at this
    exact this
/-! ### whole texts -/
def textL (N : PM) : List Nat := (N.map fun r => rowL r ++ [10]).flatten
theorem rowL_free {r : Str × Pt} (hn : nameS r.1 = true) : 10 ∉ rowL r := fun h => by
  unfold rowL at h
  rcases List.mem_append.mp h with h | h
  · exact name_free hn (by decide) h
  · rcases List.mem_cons.mp h with h | h
    · exact absurd h (by decide)
    · rcases List.mem_append.mp h with h | h
      · exact TL.numL_free (by decide) h
      · rcases List.mem_cons.mp h with h | h
        · exact absurd h (by decide)
        · exact TL.numL_free (by decide) h
theorem spl_text : ∀ {N : PM}, (∀ r ∈ N, nameS r.1 = true) → spl [10] 0 [] (textL N) = N.map rowL ++ [[]]
  | [], _ => rfl
  | r :: N, h => by
    have e : textL (r :: N) = rowL r ++ 10 :: textL N := by unfold textL; rw [List.map_cons, List.flatten_cons]; simp
    rw [e, spl1 10 (rowL_free (h r (by simp))), spl_text fun q hq => h q (List.mem_cons_of_mem _ hq)]
    simp
theorem text_end (N : PM) : endB (textL N) = true := by
  unfold endB
  rcases snoc_cases N with e | ⟨L, b, e⟩
  · rw [e]; rfl
  · have : textL N = (textL L ++ rowL b) ++ [10] := by rw [e]; unfold textL; rw [List.map_append, List.flatten_append]; simp
    rw [this, List.getLast?_concat]; simp
theorem readT_text {N : PM} (ok : PMOk N) : readT (ofL (textL N)) = some N := by
  unfold readT
  rw [tl_ofL, text_end, if_pos rfl]
  have e : (splS 10 (ofL (textL N))).dropLast = N.map fun r => ofL (rowL r) := by
    unfold splS
    rw [tl_ofL, spl_text fun r hr => (ok.ok r hr).2, List.map_append]
    show (List.map ofL (List.map rowL N) ++ [ofL []]).dropLast = _
    rw [List.dropLast_concat, List.map_map]
    rfl
  rw [e]
  have := readS_all (N := N) (M0 := []) ok
  exact this
/-- a text that is read has just the rows of what is written -/
theorem readT_rows {x : Str} {M : PM} (h : readT x = some M) : PMOk M ∧ splS 10 x = (M.map fun r => ofL (rowL r)) ++ [ofL []] := by
  unfold readT at h
  split at h
  · rename_i he
    obtain ⟨ok, N, eN, er⟩ := readS_rows pmOk_nil h
    rw [List.nil_append] at eN
    subst eN
    refine ⟨ok, ?_⟩
    have hne : splS 10 x ≠ [] := fun z => by
      have := splS_len 10 x
      rw [z] at this
      simp at this
    have lastE : (splS 10 x).getLast? = some (ofL []) := by
      have lst : ∀ (l acc : List Nat), l ≠ [] → l.getLast? = some 10 → (spl [10] 0 acc l).getLast? = some [] := by
        intro l
        induction l with
        | nil => intro acc h; exact absurd rfl h
        | cons c r ih =>
          intro acc _ hl
          by_cases e : c = 10
          · rw [TL.spl_hit (by simp [TL.pre, e])]
            show (acc :: spl [10] 0 [] r).getLast? = _
            cases r with
            | nil => rw [TL.spl_nil]; rfl
            | cons d r' =>
              have h2 := ih [] (by simp) (by rw [List.getLast?_cons_cons] at hl; exact hl)
              rw [List.getLast?_cons, h2]; rfl
          · rw [TL.spl_miss (by simp [TL.pre, e])]
            cases r with
            | nil => simp at hl; exact absurd hl e
            | cons d r' => exact ih _ (by simp) (by rw [List.getLast?_cons_cons] at hl; exact hl)
      unfold splS
      rw [List.getLast?_map]
      simp only [endB, Bool.or_eq_true, decide_eq_true_eq] at he
      rcases he with he | he
      · rw [he, TL.spl_nil]; rfl
      · by_cases z : tl x = []
        · rw [z, TL.spl_nil]; rfl
        · rw [lst _ _ z he]; rfl
    have hd : splS 10 x = (splS 10 x).dropLast ++ [ofL []] := by
      rcases snoc_cases (splS 10 x) with e | ⟨L, b, e⟩
      · exact absurd e hne
      · rw [e, List.getLast?_concat] at lastE
        rw [e, List.dropLast_concat, Option.some.inj lastE]
    rw [hd]
    congr 1
    have : ((splS 10 x).dropLast.map tl).map ofL = (M.map rowL).map ofL := by rw [er]
    rw [List.map_map, List.map_map] at this
    conv => lhs; rw [← List.map_id (splS 10 x).dropLast]
    rw [show (id : Str → Str) = ofL ∘ tl from funext fun z => (ofL_tl z).symm, this]
    rfl
  · cases h
/-- the marks, by their names -/
def sortP (M : PM) : PM := (sortS (namesOf M)).map fun n => (n, ptOf M n)
theorem sortP_perm {M : PM} (nd : (namesOf M).Nodup) : (sortP M).Perm M := by
  conv => rhs; rw [pm_names nd]
  exact (sortS_perm _).map _
theorem sortP_eq {P M : PM} (h : P.Perm M) (nd : (namesOf P).Nodup) : sortP P = sortP M := by
  unfold sortP
  rw [sortS_perm' (names_perm h)]
  exact List.map_congr_left fun n hn => by rw [ptOf_perm h nd ((names_perm h).mem_iff.mpr (mem_sortS.mp hn))]
/-- a map written -/
def writeS (M : PM) : Str := ofL (textL (sortP M))
/-! ### a comprehension whose target is any -/
theorem lc_relG {J : It} {ok : Hp → Prop} {xs : List V} (en : Enum J ok xs) {own : List Nat} {g : TG} {tt : TT} {te : TE} {σ : St} {H1 : Hp} {Q : Addr → Hp → Prop} (p : V → Bool) (R : V → V → Hp → Prop)
    (hok : ∀ D H, H1 D = none → SameX D H1 H → ok H) (hlen : xs.length < sizeLine)
    (hR : ∀ x y H H' D, H1 D = none → R x y H → (∀ b o, H b = some o → b ≠ D → H' b = some o) → (∃ l, H D = some (.lst l)) → R x y H')
    (turn : ∀ (i : Nat) (x : V) (H : Hp) (Cy : VK) (Cn : Hp → Prop), xs[i]? = some x → Same H1 H → (∀ y H', Same H H' → p x = true → R x y H' → Cy y H') → (∀ H', Same H H' → p x = false → Cn H') →
      g x (wipe σ own) H fun σ2 H2 => wipe σ2 own = wipe σ own ∧ tt σ2 H2 fun b H3 => if b = true then te σ2 H3 Cy else Cn H3)
    (done : ∀ D H ys, H1 D = none → Same H1 H → H D = some (.lst ys) → Paired (fun x y => R x y H) (xs.filter p) ys → Q D H) :
    ∀ D, H1 D = none → ∃ W : Nat → Nat → Hp → Prop, (∃ m, W 0 m (upd H1 D (.lst []))) ∧ ∀ i m H, W i m H →
      (J.stop i H ∧ Q D H) ∨ (J.go i H ∧ ∃ Nx : Hp → Prop, (∀ H', Nx H' → ∃ m', m' < m ∧ W (i + 1) m' H') ∧ ∀ x H', J.yld i H x H' → g x (wipe σ own) H' fun σ2 H2 => wipe σ2 own = wipe σ own ∧ tt σ2 H2 fun b H3 =>
        if b = true then te σ2 H3 fun y H4 => ∃ acc, H4 D = some (.lst acc) ∧ acc.length < sizeLine ∧ Nx (upd H4 D (.lst (acc ++ [y]))) else Nx H3) := by
  intro D nD
  let Pv : Nat → Hp → Prop := fun i H => Same H1 H ∧ ∃ ys, H D = some (.lst ys) ∧ ys.length ≤ i ∧ Paired (fun x y => R x y H) ((xs.take i).filter p) ys
  have sm0 : Same H1 (upd H1 D (.lst [])) := fun b o e => by rw [upd_ne (ne_of_none e nD)]; exact e
  refine ⟨fun i m H => m = xs.length - i ∧ i ≤ xs.length ∧ Pv i H, ⟨xs.length, by simp, Nat.zero_le _, sm0, [], upd_same, Nat.le_refl _, by simp; exact .nil⟩, ?_⟩
  rintro i m H ⟨rfl, hi, sm, ys, hD, hy, pr⟩
  have okH : ok H := hok D H nD fun b o _ e => sm b o e
  by_cases hlt : i < xs.length
  · refine .inr ⟨en.go i H okH hlt, Pv (i + 1), fun H' p' => ⟨xs.length - (i + 1), by omega, rfl, hlt, p'⟩, fun x H' y => ?_⟩
    obtain ⟨e, ex⟩ := en.yld i H x H' okH hlt y
    subst e
    have et : xs.take (i + 1) = xs.take i ++ [x] := by rw [List.take_add_one, ex]; rfl
    refine turn i x H' _ _ ex sm (fun y H4 s4 hp ry => ?_) fun H3 s3 hp => ?_
    · have hD4 := s4 _ _ hD
      refine ⟨ys, hD4, by omega, fun b o e => ?_, ys ++ [y], upd_same, by rw [List.length_append]; simp; omega, ?_⟩
      · rw [upd_ne (ne_of_none e nD)]
        exact s4 _ _ (sm _ _ e)
      · rw [et, List.filter_append]
        have e1 : [x].filter p = [x] := by simp [hp]
        rw [e1]
        have k4 : ∀ b o, H4 b = some o → b ≠ D → (upd H4 D (.lst (ys ++ [y]))) b = some o := fun b o e n => by rw [upd_ne n]; exact e
        have kH : ∀ b o, H' b = some o → b ≠ D → (upd H4 D (.lst (ys ++ [y]))) b = some o := fun b o e n => k4 b o (s4 _ _ e) n
        exact paired_snoc (Paired.mapP pr fun a b r => hR a b _ _ D nD r kH ⟨_, hD⟩) (hR x y _ _ D nD ry k4 ⟨_, hD4⟩)
    · refine ⟨fun b o e => s3 _ _ (sm _ _ e), ys, s3 _ _ hD, by omega, ?_⟩
      rw [et, List.filter_append]
      have e1 : [x].filter p = [] := by simp [hp]
      rw [e1, List.append_nil]
      exact Paired.mapP pr fun a b r => hR a b _ _ D nD r (fun b o e n => s3 _ _ e) ⟨_, hD⟩
  · have e : i = xs.length := by omega
    subst e
    rw [List.take_length] at pr
    exact .inl ⟨en.stop _ H okH (Nat.le_refl _), done D H ys nD sm hD pr⟩
theorem lc_mapG {J : It} {ok : Hp → Prop} {xs : List V} (en : Enum J ok xs) {own : List Nat} {g : TG} {te : TE} {σ : St} {H1 : Hp} {Q : Addr → Hp → Prop} (R : V → V → Hp → Prop)
    (hok : ∀ D H, H1 D = none → SameX D H1 H → ok H) (hlen : xs.length < sizeLine)
    (hR : ∀ x y H H' D, H1 D = none → R x y H → (∀ b o, H b = some o → b ≠ D → H' b = some o) → (∃ l, H D = some (.lst l)) → R x y H')
    (turn : ∀ (i : Nat) (x : V) (H : Hp) (Cy : VK), xs[i]? = some x → Same H1 H → (∀ y H', Same H H' → R x y H' → Cy y H') → g x (wipe σ own) H fun σ2 H2 => wipe σ2 own = wipe σ own ∧ te σ2 H2 Cy)
    (gm : ∀ x σ H (A B : St → Hp → Prop), (∀ σ2 H2, A σ2 H2 → B σ2 H2) → g x σ H A → g x σ H B)
    (done : ∀ D H ys, H1 D = none → Same H1 H → H D = some (.lst ys) → Paired (fun x y => R x y H) xs ys → Q D H) :
    ∀ D, H1 D = none → ∃ W : Nat → Nat → Hp → Prop, (∃ m, W 0 m (upd H1 D (.lst []))) ∧ ∀ i m H, W i m H →
      (J.stop i H ∧ Q D H) ∨ (J.go i H ∧ ∃ Nx : Hp → Prop, (∀ H', Nx H' → ∃ m', m' < m ∧ W (i + 1) m' H') ∧ ∀ x H', J.yld i H x H' → g x (wipe σ own) H' fun σ2 H2 => wipe σ2 own = wipe σ own ∧ tYes σ2 H2 fun b H3 =>
        if b = true then te σ2 H3 fun y H4 => ∃ acc, H4 D = some (.lst acc) ∧ acc.length < sizeLine ∧ Nx (upd H4 D (.lst (acc ++ [y]))) else Nx H3) :=
  lc_relG en (fun _ => true) R hok hlen hR (fun i x H Cy Cn ex sm h1 _ => gm _ _ _ _ _ (fun σ2 H2 h => ⟨h.1, by
      show if true = true then te σ2 H2 Cy else Cn H2
      rw [if_pos rfl]
      exact h.2⟩) (turn i x H Cy ex sm fun y H' s r => h1 y H' s rfl r)) fun D H ys nD sm hD pr => done D H ys nD sm hD (by
    rw [List.filter_eq_self.mpr (fun _ _ => rfl)] at pr
    exact pr)
/-! ### cuts -/
theorem cut_last {α : Type} (f : α → V) (xs : List α) : cutV (xs.map f) none (some (-1)) = xs.dropLast.map f := by
  unfold cutV
  have e0 : HT.sIx (xs.map f).length 0 none = 0 := rfl
  have e1 : HT.sIx (xs.map f).length (xs.map f).length (some (-1)) = xs.length - 1 := by
    rw [List.length_map]
    unfold HT.sIx
    simp <;> omega
  rw [e0, e1, List.drop_zero, Nat.sub_zero, List.dropLast_eq_take, List.map_take]
theorem joinL_nil : ∀ ls : List (List Nat), TL.joinL [] ls = ls.flatten
  | [] => rfl
  | [a] => by simp [TL.joinL]
  | a :: b :: r => by
    have ih := joinL_nil (b :: r)
    rw [List.flatten_cons, ← ih]
    simp [TL.joinL]
theorem join_text (ls : List (List Nat)) : Txt.join (Str.ofString "") (ls.map ofL) = ofL ls.flatten := by
  rw [TL.join_eq]
  refine TL.ext_tl ?_
  rw [TL.tl_join, List.map_map]
  have e : (tl ∘ ofL) = id := rfl
  rw [e, List.map_id, tl_ofL]
  exact joinL_nil ls
theorem spl_mem_len (s : Nat) : ∀ (l acc p : List Nat), p ∈ spl [s] 0 acc l → p.length ≤ acc.length + l.length
  | [], acc, p, h => by rw [TL.spl_nil] at h; rw [List.mem_singleton.mp h]; simp
  | c :: r, acc, p, h => by
    by_cases e : c = s
    · rw [TL.spl_hit (by simp [TL.pre, e])] at h
      rcases List.mem_cons.mp h with h | h
      · rw [h]; omega
      · have := spl_mem_len s r [] p h
        simp at this ⊢; omega
    · rw [TL.spl_miss (by simp [TL.pre, e])] at h
      have := spl_mem_len s r _ p h
      simp at this ⊢; omega
theorem splS_mem_len {s : Nat} {x p : Str} (h : p ∈ splS s x) : p.length ≤ x.length := by
  obtain ⟨l, hl, rfl⟩ := List.mem_map.mp h
  have := spl_mem_len s _ _ _ hl
  rw [TL.len_tl, tl_ofL, TL.len_tl]
  simpa using this
theorem rowL_len {r : Str × Pt} (hn : nameS r.1 = true) (hp : PtOk r.2) : (rowL r).length ≤ 16 := by
  unfold rowL
  have h1 : (tl r.1).length ≤ 6 := by rw [Array.length_toList]; exact nameS_len hn
  have h2 : (numL r.2.1.toNat).length ≤ 4 := TL.numL_len (by decide) (by have := hp.2.1; have := hp.1; omega)
  have h3 : (numL r.2.2.toNat).length ≤ 4 := TL.numL_len (by decide) (by have := hp.2.2.2; have := hp.2.2.1; omega)
  simp only [List.length_append, List.length_cons]
  omega
theorem textL_len : ∀ {N : PM}, (∀ r ∈ N, nameS r.1 = true ∧ PtOk r.2) → (textL N).length ≤ 17 * N.length
  | [], _ => by simp [textL]
  | r :: N, h => by
    have e : textL (r :: N) = (rowL r ++ [10]) ++ textL N := by unfold textL; rw [List.map_cons, List.flatten_cons]
    have h1 := rowL_len (h r (by simp)).1 (h r (by simp)).2
    have h2 := textL_len fun q hq => h q (List.mem_cons_of_mem _ hq)
    rw [e, List.length_append, List.length_append, List.length_cons]
    simp
    omega
/-- a row's text, as it is put together -/
theorem row_text {n : Str} {p : Pt} (hp : PtOk p) : n ++ Str.ofString " " ++ Str.ofString (toString p.1) ++ Str.ofString " " ++ Str.ofString (toString p.2) ++ Str.ofString "\n" = ofL (rowL (n, p) ++ [10]) := by
  obtain ⟨x, y⟩ := p
  obtain ⟨h1, _, h3, _⟩ := hp
  have hx : x = ((x.toNat : Nat) : Int) := by have : (0 : Int) ≤ x := h1; omega
  have hy : y = ((y.toNat : Nat) : Int) := by have : (0 : Int) ≤ y := h3; omega
  refine TL.ext_tl ?_
  rw [tl_ofL]
  unfold rowL
  dsimp only
  rw [TL.tl_append, TL.tl_append, TL.tl_append, TL.tl_append, TL.tl_append]
  have e1 : tl (Str.ofString (toString x)) = numL x.toNat := by rw [hx, TL.tl_num, Int.toNat_natCast]
  have e2 : tl (Str.ofString (toString y)) = numL y.toNat := by rw [hy, TL.tl_num, Int.toNat_natCast]
  rw [e1, e2]
  have e3 : tl (Str.ofString " ") = [32] := rfl
  have e4 : tl (Str.ofString "\n") = [10] := rfl
  rw [e3, e4]
  simp
theorem pg_tupK {X : Cx} {K : PySem.W.Frag} {es : List Expr} {k : Nat} {t : TGs} {n : Nat} {pos : Pos} (hK : X.K = K) (hc : X.calm = true) (h : PGs X es t)
    (hn : (assignEach es X.env).length = n := by rfl) (hst : (assignEach es X.env).findIdx? (·.1) = none := by rfl) : PG X (.Tuple es k pos) (gTup K n t) := hK ▸ pg_tup hc h hn hst
/-- a pair, taken apart -/
theorem gTup2_mono {K : PySem.W.Frag} {i j : Nat} : ∀ x σ H (A B : St → Hp → Prop), (∀ σ2 H2, A σ2 H2 → B σ2 H2) → gTup K 2 (gCons (gName i) (gCons (gName j) gNil)) x σ H A → gTup K 2 (gCons (gName i) (gCons (gName j) gNil)) x σ H B := by
  rintro x σ H A B hAB ⟨a, xs, e, hs, hl, v, vr, e1, w, wr, e2, h1, h2⟩
  exact ⟨a, xs, e, hs, hl, v, vr, e1, w, wr, e2, h1, hAB _ _ h2⟩
end NM

namespace NM
open PySem PySem.Spec PyProof.Rows L2 HotX L2H
section
variable {X : Cx}
/-- x not in a tuple whose items are data of any depth -/
def rNotInT (K : PySem.W.Frag) : R2 := fun x y H Q => ∃ d ds, Dp K H x d ∧ Dp K H y (.tuple ds) ∧ SeqAt.shaped d = true ∧ SeqAt.shaped (.tuple ds) = true ∧ Q (.bl (!ds.any fun z => PyData.eqv z d)) H
theorem op_notInT (hu : X.A.units + 65 < cLine) : OpR X (compareOp .NotIn) (rNotInT X.K) := by
  intro pins s σ H x y v u Q I rx ry h
  obtain ⟨d, ds, hd, he, sd, se, q⟩ := h
  obtain ⟨as, r1⟩ := Dp.reads I d x v hd rx
  obtain ⟨bs, r2⟩ := Dp.reads I (.tuple ds) y u he ry
  exact SeqAt.notIn_tuple_reads r2 r1 (SeqAt.canLay_of_shaped se) (SeqAt.canLay_of_shaped sd) (room_in_shaped sd hu) ⟨.bl _, H, I, rfl, q⟩
theorem units65 {k : Nat} {A : Around} (r : Room k A) : A.units + 65 < cLine := by have := r.un; omega
end
/-! ### spoilt texts -/
open TL (tl spl numL)
def low (l : List Nat) : Prop := ∀ c ∈ l, c < 128
theorem low_row {r : Str × Pt} (hn : nameS r.1 = true) : low (rowL r ++ [10]) := by
  intro c hc
  unfold rowL at hc
  have nm : ∀ c ∈ tl r.1, c < 128 := fun c hm => by
    simp only [nameS, Bool.and_eq_true, decide_eq_true_eq] at hn
    have h1 : c ∈ smallS.cps.toList := of_decide_eq_true (List.all_eq_true.mp hn.2 c hm)
    have h2 : ∀ c ∈ smallS.cps.toList, c < 128 := by decide +kernel
    exact h2 c h1
  have nb : ∀ n, ∀ c ∈ numL n, c < 128 := fun n c hm => by
    have := TL.numL_digits n c hm
    omega
  simp only [List.mem_append, List.mem_cons, List.not_mem_nil, or_false] at hc
  rcases hc with (h | h | h | h | h) | h
  · exact nm c h
  · omega
  · exact nb _ c h
  · omega
  · exact nb _ c h
  · omega
theorem low_text {N : PM} (ok : PMOk N) : low (textL N) := by
  intro c hc
  unfold textL at hc
  obtain ⟨l, hl, hm⟩ := List.mem_flatten.mp hc
  obtain ⟨r, hr, rfl⟩ := List.mem_map.mp hl
  exact low_row (ok.ok r hr).2 c hm
theorem count_text : ∀ {N : PM}, (∀ r ∈ N, nameS r.1 = true) → (textL N).count 10 = N.length
  | [], _ => rfl
  | r :: N, h => by
    have e : textL (r :: N) = (rowL r ++ [10]) ++ textL N := by unfold textL; rw [List.map_cons, List.flatten_cons]
    rw [e, List.count_append, List.count_append, count_text (N := N) fun x hx => h x (List.mem_cons_of_mem _ hx), List.count_eq_zero.mpr (rowL_free (h r List.mem_cons_self))]
    simp
    omega
theorem cutS_sub (z : Str) (lo hi : Option Int) : (tl (cutS z lo hi)).Sublist (tl z) := by
  unfold cutS
  exact (List.take_sublist _ _).trans (List.drop_sublist _ _)
/-- a text that is short, of few rows and of low signs -/
def Few (x : Str) : Prop := x.length ≤ 500 ∧ (tl x).count 10 ≤ 40 ∧ low (tl x)
theorem few_app3 {z : Str} {c : Nat} {lo hi lo2 hi2 : Option Int} (hz : (tl z).length ≤ 240 ∧ (tl z).count 10 ≤ 14 ∧ low (tl z)) (hc : c < 128) : Few (cutS z lo hi ++ ⟨#[c]⟩ ++ cutS z lo2 hi2) := by
  have s1 := cutS_sub z lo hi
  have s2 := cutS_sub z lo2 hi2
  have e : tl (cutS z lo hi ++ (⟨#[c]⟩ : Str) ++ cutS z lo2 hi2) = tl (cutS z lo hi) ++ [c] ++ tl (cutS z lo2 hi2) := by rw [TL.tl_append, TL.tl_append]
  refine ⟨?_, ?_, ?_⟩
  · rw [TL.len_tl, e]
    have := s1.length_le
    have := s2.length_le
    simp only [List.length_append, List.length_cons, List.length_nil]
    omega
  · rw [e, List.count_append, List.count_append]
    have := s1.count_le 10
    have := s2.count_le 10
    have h3 : [c].count 10 ≤ 1 := List.count_le_length
    omega
  · rw [e]
    intro x hx
    rcases List.mem_append.mp hx with hx | hx
    · rcases List.mem_append.mp hx with hx | hx
      · exact hz.2.2 x (s1.subset hx)
      · rw [List.mem_singleton.mp hx]; exact hc
    · exact hz.2.2 x (s2.subset hx)
theorem few_app2 {z : Str} {lo hi lo2 hi2 : Option Int} (hz : (tl z).length ≤ 240 ∧ (tl z).count 10 ≤ 14 ∧ low (tl z)) : Few (cutS z lo hi ++ cutS z lo2 hi2) := by
  have s1 := cutS_sub z lo hi
  have s2 := cutS_sub z lo2 hi2
  have e : tl (cutS z lo hi ++ cutS z lo2 hi2) = tl (cutS z lo hi) ++ tl (cutS z lo2 hi2) := by rw [TL.tl_append]
  refine ⟨?_, ?_, ?_⟩
  · rw [TL.len_tl, e]
    have := s1.length_le
    have := s2.length_le
    simp only [List.length_append]
    omega
  · rw [e, List.count_append]
    have := s1.count_le 10
    have := s2.count_le 10
    omega
  · rw [e]
    intro x hx
    rcases List.mem_append.mp hx with hx | hx
    · exact hz.2.2 x (s1.subset hx)
    · exact hz.2.2 x (s2.subset hx)
theorem spl_mem (s : Nat) : ∀ (l acc p : List Nat), p ∈ spl [s] 0 acc l → ∀ c ∈ p, c ∈ acc ∨ c ∈ l
  | [], acc, p, h, c, hc => by rw [TL.spl_nil] at h; rw [List.mem_singleton.mp h] at hc; exact .inl hc
  | d :: r, acc, p, h, c, hc => by
    by_cases e : d = s
    · rw [TL.spl_hit (by simp [TL.pre, e])] at h
      rcases List.mem_cons.mp h with h | h
      · rw [h] at hc; exact .inl hc
      · rcases spl_mem s r [] p h c hc with h1 | h1
        · cases h1
        · exact .inr (List.mem_cons_of_mem _ h1)
    · rw [TL.spl_miss (by simp [TL.pre, e])] at h
      rcases spl_mem s r _ p h c hc with h1 | h1
      · rcases List.mem_append.mp h1 with h1 | h1
        · exact .inl h1
        · rw [List.mem_singleton.mp h1]; exact .inr List.mem_cons_self
      · exact .inr (List.mem_cons_of_mem _ h1)
theorem few_ok {x p : Str} (h : Few x) (hp : p ∈ splS 10 x) : PyData.strOk p = true := by
  obtain ⟨l, hl, rfl⟩ := List.mem_map.mp hp
  unfold PyData.strOk
  rw [← Array.all_toList]
  refine List.all_eq_true.mpr fun c hc => decide_eq_true ?_
  have hc' : c ∈ l := hc
  rcases spl_mem 10 _ _ _ hl c hc' with h1 | h1
  · cases h1
  · have := h.2.2 c h1
    omega
theorem few_lay {x : Str} (h : Few x) {ys : List Str} (pm : ys.Perm (splS 10 x)) : Lay 1 (.list (ys.map PyData.str)) := lay_list (lay_map fun y hy => lay_str (few_ok h (pm.mem_iff.mp hy)))
/-- a text that is read: its rows are those of what is written of it -/
theorem read_perm {x : Str} {M : PM} (h : readT x = some M) : (splS 10 (writeS M)).Perm (splS 10 x) := by
  obtain ⟨ok, e⟩ := readT_rows h
  have okS : PMOk (sortP M) := ok.perm (sortP_perm ok.nodup).symm
  obtain ⟨_, e2⟩ := readT_rows (readT_text okS)
  unfold writeS
  rw [e, e2]
  exact (((sortP_perm ok.nodup).map _).append_right _)
theorem len_write {M : PM} (ok : PMOk M) : (writeS M).length ≤ 1020 := by
  have okS : PMOk (sortP M) := ok.perm (sortP_perm ok.nodup).symm
  unfold writeS
  rw [TL.len_tl, tl_ofL]
  have h2 := textL_len (N := sortP M) fun r hr => ⟨(okS.ok r hr).2, (okS.ok r hr).1⟩
  have := okS.len
  omega
end NM

namespace NM
open PySem PySem.Spec PyProof.Rows L2 HotX L2H
/-! ### what is seen, by the rows -/
theorem count_filter_map {α : Type} (f : α → Str) (p : α → Bool) (h : Str) : ∀ L : List α, ((L.filter p).map f).count h = (L.filter fun n => p n && decide (f n = h)).length
  | [] => rfl
  | x :: L => by
    have ih := count_filter_map f p h L
    cases c : p x with
    | false =>
      rw [List.filter_cons, if_neg (by rw [c]; decide), List.filter_cons, if_neg (by rw [c]; simp)]
      exact ih
    | true =>
      rw [List.filter_cons, if_pos c, List.map_cons, List.count_cons, ih, List.filter_cons]
      by_cases e : f x = h
      · rw [if_pos (by simp [e]), if_pos (by simp [c, e])]
        rfl
      · rw [if_neg (by simp [e]), if_neg (by simp [e])]
        rfl
/-- the marks of a heap that lie within -/
noncomputable def seenN (M : PM) (z : Nat) (b : Bx) (h : Str) : Nat := ((rowOf (nearR M z) (namesOf M) h).filter fun n => inBx b (ptOf M n)).length
theorem seenN_count (M : PM) (z : Nat) (b : Bx) (h : Str) : seenN M z b h = (seenH M z b (namesOf M)).count h := by
  unfold seenN seenH rowOf
  rw [count_filter_map, List.filter_filter]
  exact ((sortS_perm (namesOf M)).filter _).length_eq
theorem seenH_heads {M : PM} {z : Nat} {b : Bx} {h : Str} (hh : h ∈ seenH M z b (namesOf M)) : h ∈ headsOf (nearR M z) (namesOf M) := by
  obtain ⟨n, hn, rfl⟩ := List.mem_map.mp hh
  have hn := (List.mem_filter.mp hn).1
  exact mem_headsOf.mpr ⟨hd_mem hn, hd_hd (nearR_symm M z) hn⟩
/-- the law's own -/
noncomputable def dueL (M : PM) (z : Nat) (b : Bx) : List (Str × Int) := ((headsOf (nearR M z) (namesOf M)).map fun h => (h, ((seenN M z b h : Nat) : Int))).filter fun p => decide (p.2 > 0)
theorem seen_due {M : PM} (ok : PMOk M) (z : Nat) (b : Bx) : seenL M z b = dueL M z b := by
  have e1 : sortS (ddup (seenH M z b (namesOf M))) = (headsOf (nearR M z) (namesOf M)).filter fun h => decide (((seenN M z b h : Nat) : Int) > 0) := by
    symm
    refine sortS_of ?_ (heads_sorted.filter _)
    refine (List.perm_ext_iff_of_nodup ((heads_nodup ok.nodup).filter _) (ddup_nodup _)).mpr fun h => ?_
    rw [mem_ddup, List.mem_filter, seenN_count, decide_eq_true_iff]
    constructor
    · rintro ⟨_, c⟩
      exact List.count_pos_iff.mp (by omega)
    · intro c
      have := List.count_pos_iff.mpr c
      exact ⟨seenH_heads c, by omega⟩
  unfold seenL cntL dueL
  rw [e1, List.filter_map]
  show _ = List.map _ (List.filter (fun h => decide (((seenN M z b h : Nat) : Int) > 0)) _)
  exact List.map_congr_left fun h _ => by rw [seenN_count]
theorem sum_cnt (hs : List Str) : ∀ {D : List Str}, D.Nodup → (∀ h ∈ hs, h ∈ D) → (D.map fun h => ((hs.count h : Nat) : Int)).sum = (hs.length : Nat) := by
  induction hs with
  | nil =>
    intro D _ _
    have : ∀ D : List Str, (D.map fun h => ((([] : List Str).count h : Nat) : Int)).sum = 0 := fun D => by
      induction D with
      | nil => rfl
      | cons d D ih => rw [List.map_cons, List.sum_cons, ih]; rfl
    rw [this]; rfl
  | cons x hs ih =>
    intro D nd hm
    have ih := ih nd fun h hh => hm h (List.mem_cons_of_mem _ hh)
    have hx := hm x (List.mem_cons_self ..)
    have add : ∀ D : List Str, (D.map fun h => (((x :: hs).count h : Nat) : Int)).sum = (D.map fun h => ((hs.count h : Nat) : Int)).sum + (D.count x : Nat) := by
      intro D
      induction D with
      | nil => rfl
      | cons d D ih2 =>
        rw [List.map_cons, List.sum_cons, ih2, List.map_cons, List.sum_cons, List.count_cons, List.count_cons]
        by_cases e : x = d
        · rw [if_pos (by simp [e]), if_pos (by simp [e])]; omega
        · rw [if_neg (by simpa using e), if_neg (by simpa using fun z => e z.symm)]; omega
    rw [add, ih, nd.count, if_pos hx]
    simp
theorem due_sum {M : PM} (ok : PMOk M) (z : Nat) (b : Bx) : ((dueL M z b).map (·.2)).sum = (((namesOf M).filter fun n => inBx b (ptOf M n)).length : Nat) := by
  rw [← seen_due ok]
  unfold seenL cntL
  rw [List.map_map]
  have := sum_cnt (seenH M z b (namesOf M)) (D := sortS (ddup (seenH M z b (namesOf M)))) (sortS_nodup (ddup_nodup _)) fun h hh => mem_sortS.mpr ((mem_ddup _).mpr hh)
  refine Eq.trans this ?_
  unfold seenH
  rw [List.length_map]
/-! ### greater sizes never show more -/
theorem nodup_le : ∀ {l m : List Str}, l.Nodup → (∀ x ∈ l, x ∈ m) → l.length ≤ m.length
  | [], _, _, _ => Nat.zero_le _
  | x :: l, m, nd, h => by
    have hx := h x (List.mem_cons_self ..)
    have h1 := nodup_le (l := l) (m := m.erase x) (List.nodup_cons.mp nd).2 fun y hy => (List.mem_erase_of_ne fun e => (List.nodup_cons.mp nd).1 (by rw [← e]; exact hy)).mpr (h y (List.mem_cons_of_mem _ hy))
    have h2 := List.length_erase_of_mem hx
    have h3 := List.length_pos_of_mem hx
    rw [List.length_cons]
    omega
theorem ddup_map_le (g : Str → Str) (l : List Str) : (ddup (l.map g)).length ≤ (ddup l).length := by
  have h1 : ((ddup (l.map g))).length ≤ ((ddup l).map g).length := by
    refine nodup_le (ddup_nodup _) fun x hx => ?_
    obtain ⟨y, hy, rfl⟩ := List.mem_map.mp ((mem_ddup _).mp hx)
    exact List.mem_map.mpr ⟨y, (mem_ddup _).mpr hy, rfl⟩
  rw [List.length_map] at h1
  exact h1
theorem seen_le {M : PM} {s t : Nat} (h1 : s ≤ t) (h2 : t ≤ 13) (b : Bx) : (seenL M t b).length ≤ (seenL M s b).length := by
  unfold seenL
  rw [cntL_len, cntL_len]
  have e : seenH M t b (namesOf M) = (seenH M s b (namesOf M)).map (hd (nearR M t) (namesOf M)) := by
    unfold seenH
    rw [List.map_map]
    refine List.map_congr_left fun n hn => ?_
    have hnL := (List.mem_filter.mp hn).1
    exact hd_eq (nearR_symm M t) ((hd_rch (R := nearR M s) hnL).mono (R' := nearR M t) (fun _ z => z) (near_mono (by omega) (by omega) (by omega)))
  rw [e]
  exact ddup_map_le _ _
theorem seen_13 {M : PM} (ok : PMOk M) (b : Bx) : (seenL M 13 b).length ≤ 1 := by
  unfold seenL
  rw [cntL_len]
  have all : ∀ x ∈ seenH M 13 b (namesOf M), ∀ y ∈ seenH M 13 b (namesOf M), x = y := fun x hx y hy => by
    obtain ⟨n, hn, rfl⟩ := List.mem_map.mp hx
    obtain ⟨m, hm, rfl⟩ := List.mem_map.mp hy
    have hn := (List.mem_filter.mp hn).1
    have hm := (List.mem_filter.mp hm).1
    exact hd_eq (nearR_symm M _) (.one hn hm (near_all ok n hn m hm))
  have nd := ddup_nodup (seenH M 13 b (namesOf M))
  have all2 : ∀ x ∈ ddup (seenH M 13 b (namesOf M)), ∀ y ∈ ddup (seenH M 13 b (namesOf M)), x = y := fun x hx y hy => all x ((mem_ddup _).mp hx) y ((mem_ddup _).mp hy)
  generalize ddup (seenH M 13 b (namesOf M)) = D at nd all2
  match D, nd, all2 with
  | [], _, _ => exact Nat.zero_le _
  | [_], _, _ => exact Nat.le_refl _
  | x :: y :: D, nd, all2 => exact absurd (all2 x (by simp) y (by simp)) (fun e => (List.nodup_cons.mp nd).1 (by rw [e]; simp))
noncomputable def cntsOf (M : PM) (b : Bx) (n : Nat) : List Int := (List.range n).map fun z => ((seenL M z b).length : Int)
theorem cnts_desc (M : PM) (b : Bx) : (cntsOf M b 14).Pairwise (fun x y => y ≤ x) := by
  unfold cntsOf
  rw [List.pairwise_map]
  refine List.Pairwise.imp_of_mem (fun {x y} hx hy h => ?_) List.pairwise_lt_range
  have hy := List.mem_range.mp hy
  have := seen_le (M := M) (s := x) (t := y) (Nat.le_of_lt h) (by omega) b
  omega
theorem desc_rev {xs ns : List Int} (h : xs.Pairwise (fun x y => y ≤ x)) (p : ns.Perm xs) (s : ns.Pairwise (· ≤ ·)) : ns.reverse = xs := by
  have h1 : ns.reverse.Pairwise (fun x y => y ≤ x) := List.pairwise_reverse.mpr s
  exact ((List.reverse_perm ns).trans p).eq_of_pairwise (fun a b _ _ h1 h2 => by omega) h1 h
theorem cnts_at {M : PM} {b : Bx} {z : Nat} (h : z < 14) : ((cntsOf M b 14).map V.int)[z]? = some (.int ((seenL M z b).length : Int)) := by
  unfold cntsOf
  rw [List.map_map, List.getElem?_map, List.getElem?_range h]
  rfl
/-- the first size of those that show no more -/
theorem best_first {M : PM} (ok : PMOk M) {b : Bx} {most : Int} (h1 : 1 ≤ most) : ∃ tl, ((List.range 14).filter fun z => decide (((seenL M z b).length : Int) ≤ most)) = bestOf M b most :: tl := by
  unfold bestOf
  have e : (List.range 14).find? (fun z => decide (((seenL M z b).length : Int) ≤ most)) = ((List.range 14).filter fun z => decide (((seenL M z b).length : Int) ≤ most)).head? := List.head?_filter.symm
  cases f : ((List.range 14).filter fun z => decide (((seenL M z b).length : Int) ≤ most)) with
  | nil =>
    have : (13 : Nat) ∈ ((List.range 14).filter fun z => decide (((seenL M z b).length : Int) ≤ most)) := List.mem_filter.mpr ⟨List.mem_range.mpr (by decide), decide_eq_true (by have := seen_13 ok b; omega)⟩
    rw [f] at this
    cases this
  | cons x tl =>
    refine ⟨tl, ?_⟩
    rw [e, f]
    rfl
theorem seenN_perm {P M : PM} (pm : P.Perm M) (nd : (namesOf P).Nodup) (z : Nat) (b : Bx) (h : Str) : seenN P z b h = seenN M z b h := by
  unfold seenN
  rw [row_perm (names_perm pm) (near_perm pm nd)]
  congr 1
  refine filter_congr' fun n hn => ?_
  have hn := (names_perm pm).mem_iff.mpr (mem_rowOf.mp hn).1
  rw [ptOf_perm pm nd hn]
theorem due_perm {P M : PM} (pm : P.Perm M) (nd : (namesOf P).Nodup) (z : Nat) (b : Bx) : dueL P z b = dueL M z b := by
  unfold dueL
  rw [heads_perm (names_perm pm) (near_perm pm nd)]
  congr 1
  exact List.map_congr_left fun h _ => by rw [seenN_perm pm nd]
/-- the marks of a row that are within -/
theorem seenN_in (P : PM) (z : Nat) (b : Bx) (h : Str) : (((rowOf (nearR P z) (namesOf P) h).filter fun n => decide (n ∈ (namesOf P).filter fun n => inBx b (ptOf P n))).length) = seenN P z b h := by
  unfold seenN
  congr 1
  refine filter_congr' fun n hn => ?_
  have hn := (mem_rowOf.mp hn).1
  by_cases c : inBx b (ptOf P n) = true
  · rw [c]; exact decide_eq_true (List.mem_filter.mpr ⟨hn, c⟩)
  · rw [Bool.eq_false_iff.mpr c]; exact decide_eq_false fun z => c (List.mem_filter.mp z).2
def posB (H : Hp) : V → Bool
  | .ref t => match H t with
    | some (.tup [.str _, .int n]) => decide (n > 0)
    | _ => false
  | _ => false
def secV (H : Hp) : V → V
  | .ref t => match H t with
    | some (.tup [.str _, .int n]) => .int n
    | _ => .non
  | _ => .non
theorem posB_at {H : Hp} {t : Addr} {x : Str} {n : Int} (h : H t = some (.tup [.str x, .int n])) : posB H (.ref t) = decide (n > 0) := by
  show (match H t with | some (.tup [.str _, .int n]) => decide (n > 0) | _ => false) = _
  rw [h]
theorem secV_at {H : Hp} {t : Addr} {x : Str} {n : Int} (h : H t = some (.tup [.str x, .int n])) : secV H (.ref t) = .int n := by
  show (match H t with | some (.tup [.str _, .int n]) => V.int n | _ => .non) = _
  rw [h]
theorem spairs_at {H : Hp} : ∀ {ts : List Addr} {ps : List (Str × Int)} {i : Nat} {v : V}, SPairs H ts ps → (ts.map V.ref)[i]? = some v → ∃ (t : Addr) (p : Str × Int), v = .ref t ∧ H t = some (.tup [.str p.1, .int p.2])
  | _, _, _, _, .nil, e => by simp at e
  | _, _, 0, v, .cons (a := t) (b := p) h _, e => by simp at e; exact ⟨t, p, e.symm, h⟩
  | _, _, i + 1, v, .cons _ r, e => spairs_at (i := i) r (by simpa using e)
theorem spairs_pos {H : Hp} : ∀ {ts : List Addr} {ps : List (Str × Int)}, SPairs H ts ps → ∃ us, (ts.map V.ref).filter (posB H) = us.map V.ref ∧ SPairs H us (ps.filter fun p => decide (p.2 > 0))
  | _, _, .nil => ⟨[], rfl, .nil⟩
  | _, _, .cons (a := t) (b := p) h r => by
    obtain ⟨us, e, q⟩ := spairs_pos r
    rw [List.map_cons, List.filter_cons, posB_at h, List.filter_cons]
    by_cases c : p.2 > 0
    · rw [if_pos (decide_eq_true c), if_pos (decide_eq_true c), e]
      exact ⟨t :: us, rfl, .cons h q⟩
    · rw [if_neg (by simpa using c), if_neg (by simpa using c), e]
      exact ⟨us, rfl, q⟩
theorem spairs_sec {H : Hp} : ∀ {ts : List Addr} {ps : List (Str × Int)}, SPairs H ts ps → (ts.map V.ref).map (secV H) = (ps.map (·.2)).map V.int
  | _, _, .nil => rfl
  | _, _, .cons h r => by
    rw [List.map_cons, List.map_cons, secV_at h, spairs_sec r]
    rfl
theorem spairs_len {H : Hp} {ts : List Addr} {ps : List (Str × Int)} (h : SPairs H ts ps) : ts.length = ps.length := paired_len h
theorem due_len (M : PM) (z : Nat) (b : Bx) : (dueL M z b).length ≤ (namesOf M).length := by
  unfold dueL
  refine Nat.le_trans (List.length_filter_le _ _) ?_
  rw [List.length_map]
  unfold headsOf
  exact Nat.le_trans (List.length_filter_le _ _) (by rw [sortS_len]; exact Nat.le_refl _)
theorem due_names {M : PM} (ok : PMOk M) {z : Nat} {b : Bx} : ∀ p ∈ dueL M z b, nameS p.1 = true := by
  rw [← seen_due ok]
  exact seenL_names ok
theorem cnts_succ (M : PM) (b : Bx) (z : Nat) : cntsOf M b (z + 1) = cntsOf M b z ++ [((seenL M z b).length : Int)] := by
  unfold cntsOf
  rw [List.range_succ, List.map_append]; rfl
theorem lay_ints (xs : List Int) : Lay 1 (.list (xs.map PyData.int)) := lay_list (lay_map fun x _ => lay_int x)
theorem dp_ints {K : PySem.W.Frag} {H : Hp} : ∀ xs : List Int, DpAll K H (xs.map V.int) (xs.map PyData.int)
  | [] => .nil
  | x :: xs => .cons (.int x) (dp_ints xs)
noncomputable def bstB (M : PM) (b : Bx) (most : Int) : V → Bool
  | .int i => decide (((seenL M i.toNat b).length : Int) ≤ most)
  | _ => false
theorem range_best {M : PM} (ok : PMOk M) {b : Bx} {most : Int} (h1 : 1 ≤ most) : ∃ tl, (rangeV 0 14).filter (bstB M b most) = .int (bestOf M b most : Nat) :: tl := by
  obtain ⟨tl, e⟩ := best_first ok (b := b) h1
  unfold rangeV
  rw [List.filter_map]
  have e2 : (List.range 14).filter (bstB M b most ∘ fun k : Nat => V.int (0 + (k : Int))) = (List.range 14).filter fun z => decide (((seenL M z b).length : Int) ≤ most) := filter_congr' fun k _ => by
    show decide (((seenL M (0 + (k : Int)).toNat b).length : Int) ≤ most) = _
    rw [Int.zero_add, Int.toNat_natCast]
  rw [e2, e, List.map_cons, Int.zero_add]
  exact ⟨_, rfl⟩
theorem four_most {i : Nat} {v : V} (h : [V.int 1, V.int 2, V.int 5, V.int 60][i]? = some v) : ∃ m : Int, v = .int m ∧ 1 ≤ m ∧ m ≤ 60 := by
  have := List.mem_of_getElem? h
  simp only [List.mem_cons, List.not_mem_nil, or_false] at this
  rcases this with rfl | rfl | rfl | rfl
  · exact ⟨1, rfl, by decide, by decide⟩
  · exact ⟨2, rfl, by decide, by decide⟩
  · exact ⟨5, rfl, by decide, by decide⟩
  · exact ⟨60, rfl, by decide, by decide⟩
end NM

namespace NM
open PySem PySem.Spec PyProof.Rows L2 HotX L2H
/-! ### x[::-1] of a text -/
def tRevS (te tk : TE) : TE := fun σ H Q => te σ H fun x H1 => tk σ H1 fun y H2 => y = .int (-1) ∧ ∃ z : Str, x = .str z ∧ z.length ≤ sizeLine ∧ ∀ z' : Str, Q (.str z') H2
theorem revIx (n : Nat) : Builtin.Str.strSliceIndices none none (-1) n = (List.range n).reverse := by
  rw [← PySem.W.krv_range, ← PySem.W.krv_sliceRange]
  rfl
section
variable {X : Cx}
theorem pe_revS {e k : Expr} {te tk : TE} {p2 pos : Pos} (he : PE X e te) (hk : PE X k tk) (hlt : ∀ o r, letTemporaryGo e o r = pure () := by intro _ _; rfl) : PE X (.Subscript e (.Slice none none (some k) p2) pos) (tRevS te tk) := by
  refine ⟨fun pins s σ H Q I h => ?_⟩
  refine Subscript_ (thn (he.run pins s σ H _ I h) fun v s1 ⟨x, H1, I1, r1, q1⟩ => ?_)
  refine wpAny_Slice ?_
  rw [evalPart_none]
  refine wpAny_pure (wpAny_pure ?_)
  rw [evalPart_some]
  refine thn (hk.run pins s1 σ H1 _ I1 q1) fun vk s2 ⟨y, H2, I2, rk, ek, z, ex, hz, q⟩ => ?_
  subst ek ex
  obtain ⟨t, rfl⟩ := rk
  obtain ⟨tz, rfl⟩ := r1
  have I3 : Inv X pins σ H2 { s2 with heap := s2.heap.push { cls := .type "slice", data := .fields #[.none, .none, .int (-1) t] } } := I2.kept (t' := s2.toks) fun b ob q => Heap.get?_push_of_some _ q
  show wpAny (model X.prog X.w) X.A (subscriptTail e (.Slice none none (some k) p2) (.str z tz) (.ref s2.heap.objs.size)) (EP X pins σ Q) X.xe { s2 with heap := s2.heap.push { cls := .type "slice", data := .fields #[.none, .none, .int (-1) t] } }
  refine tail_any (ops := [.str z tz, .ref s2.heap.objs.size]) (typeIs_str _ _ _) F.slot_str_getitem.lookup ?_ (by with_unfolding_all rfl)
  refine wpAny_getItem_str_slice (l := none) (u := none) (st := some (-1, t)) ⟨_, Heap.get?_push_size _ rfl, rfl, rfl⟩ rfl ?_
  show Made.post (.str ⟨((Builtin.Str.strSliceIndices none none (-1) z.length).filterMap (z.cps[·]?)).toArray⟩) (EP X pins σ Q) _
  refine ⟨?_, .str _, H2, I3.tok _, ⟨_, rfl⟩, q _⟩
  rw [revIx]
  show ((List.range z.length).reverse.filterMap (z.cps[·]?)).toArray.size ≤ sizeLine
  rw [List.size_toArray]
  exact Nat.le_trans (List.length_filterMap_le _ _) (by rw [List.length_reverse, List.length_range]; exact hz)
end
/-! ### a lambda of one parameter, called -/
section
variable {X : Cx} {pins : List (Addr × Obj)} {σ : L2.St} {H : Hp} {s : Shared}
theorem lam_run1 {P : Program} {w : World} {K : PySem.W.Frag} {mg : Str → Option Value} {base : Heap} {k : Nat} {f c' : Addr} {qual : Str} {params : Arguments} {body : Expr} {scope : Scope} {pm ctv : Value} {N : List Str} {a : Str} {A : Around} {outer : List Env} {s : Shared} {H : Hp} {x : V} {v : Value} {Q : VK} {tb : TE}
    (hf : s.heap.get? f = some (PySem.W.kla_obj "<lambda>" qual params body scope [] pm c' ctv)) (hc : H c' = some (LamX.CodeO c' qual)) (S : FnScope N [a] scope) (hr : Room (k + 1) A) (e0 : Env0 P w K mg base A outer s H)
    (hbind : bindArgs (PySem.W.kla_fn "<lambda>" qual params body scope [] pm (.ref c') ctv) ⟨[v], []⟩ = pure [(a, v)]) (r : RelV x v)
    (hbody : Room k (A.deeper (envOfC qual scope s.heap.objs.size f (.ref c'))) → PE (cxOf C8.CX0 P w K mg base N qual scope f (.ref c') A outer s H C8.E0) body tb) (hq : tb (L2.start N [x]) H Q) :
    codeAny (model P w) A (.call (.ref f) ⟨[v], []⟩) (CR C8.CX0 outer P w H s Q C8.E0) s := by
  have lim : s.heap.NoLimit := e0.mod.nolimit.keeps fun b o e => (e0.bs b o e).1
  have hkind : ∀ y ∈ [a].zip [v], scope.names.lookup y.1 = some .local ∨ (scope.names.lookup y.1 = some .cell ∧ ((cellsFrom (s.heap.objs.size + 1) scope.names []).lookup y.1).isSome = true) := fun ⟨n, v⟩ hy => by
    rcases S.par n (List.of_mem_zip hy).1 with q | q
    · exact .inl q
    · exact .inr ⟨q, PySem.W.cellsFrom_some _ _ _ (.inl q)⟩
  obtain ⟨⟨oc, vs, t, hoc, hdc, hvc⟩, _, _⟩ := e0.hok c' _ hc
  refine PySem.W.kla_callFunE hr.depth hf rfl S.co S.gen rfl ⟨c', oc, vs, t, rfl, hoc, hdc, hvc⟩ ?_
  rw [hbind]
  refine wpAny_pure (wpAny_newFunctionEnv_cells S.kind hkind fun env he s1 x1 => ?_)
  subst he
  refine ⟨lim.keeps x1.toInCall.keep, PySem.W.kla_codeExpr ?_⟩
  have I : Inv (cxOf C8.CX0 P w K mg base N qual scope f (.ref c') A outer s H C8.E0) [] (L2.start N [x]) H s1 := inv_start S hr.hd e0 rfl (.cons r .nil) x1
  refine wpAny_mono ((hbody (hr.deeper _)).run [] s1 _ H Q I hq) (fun v s' hs => ?_) fun e s' hs => hs
  obtain ⟨w', H', J, rv, q⟩ := hs
  exact ⟨w', H', J.os, J.bare, J.base, J.hok, rv, q⟩
theorem lam_call1 {A : Around} {k : Nat} {f c' : Addr} {qual : Str} {params : Arguments} {body : Expr} {scope : Scope} {pm ctv : Value} {N : List Str} {a : Str} {x : V} {v : Value} {Q : VK} {tb : TE} {E : Value → Shared → Prop} (I : Inv X pins σ H s)
    (hf : s.heap.get? f = some (PySem.W.kla_obj "<lambda>" qual params body scope [] pm c' ctv)) (hc : H c' = some (LamX.CodeO c' qual)) (S : FnScope N [a] scope) (hr : Room (k + 1) A) (e0 : Env0 X.prog X.w X.K X.mg X.base A X.stack s H)
    (hbind : bindArgs (PySem.W.kla_fn "<lambda>" qual params body scope [] pm (.ref c') ctv) ⟨[v], []⟩ = pure [(a, v)]) (r : RelV x v)
    (hbody : Room k (A.deeper (envOfC qual scope s.heap.objs.size f (.ref c'))) → PE (cxOf C8.CX0 X.prog X.w X.K X.mg X.base N qual scope f (.ref c') A X.stack s H C8.E0) body tb) (hq : tb (L2.start N [x]) H Q) :
    wpAny (model X.prog X.w) A (call (.ref f) [v]) (fun u s' => EP X pins σ Q u s' ∧ ∀ b o, s.heap.get? b = some o → H b = none → b ∉ frs X.stack → s'.heap.get? b = some o) E s := by
  refine wpAny_call (codeAny_mono (lam_run1 hf hc S hr e0 hbind r hbody hq) fun r s2 hq => ?_)
  cases r with
  | error e => exact (show False from hq).elim
  | ok fl =>
    cases fl with
    | ret u => exact ⟨I.after hq, fun b o e n nf => by
        obtain ⟨v, H', _, _, un, _⟩ := hq
        exact un.keep b o e n nf (fun z => nomatch z)⟩
    | next => exact False.elim hq
    | brk => exact False.elim hq
    | cont => exact False.elim hq
end
/-! ### sorted by a key -/
def ExO (a : Addr) (o : Obj) : HO := .ext fun h => h.get? a = some o
theorem exO_ok {P : Program} {w : World} {H : Hp} {h : Heap} {a : Addr} {o : Obj} (e : h.get? a = some o) : ObjOk P w H h a (ExO a o) := ⟨e, ⟨o, e⟩, fun h1 h2 q k => k _ q⟩
theorem strs_perm {l l' : List Value} (p : l'.Perm l) : ∀ {m : List Str}, StrsAre l m → ∃ m', StrsAre l' m' ∧ m'.Perm m := by
  induction p with
  | nil => intro m h; cases h; exact ⟨[], .nil, .nil⟩
  | cons x _ ih =>
    intro m h
    cases h with
    | cons y t h =>
      obtain ⟨m', h1, h2⟩ := ih h
      exact ⟨y :: m', .cons y t h1, h2.cons y⟩
  | swap x y l =>
    intro m h
    cases h with
    | cons y1 t1 h =>
      cases h with
      | cons y2 t2 h => exact ⟨_, .cons y2 t2 (.cons y1 t1 h), .swap ..⟩
  | trans _ _ ih1 ih2 =>
    intro m h
    obtain ⟨m1, h1, p1⟩ := ih2 h
    obtain ⟨m2, h2, p2⟩ := ih1 h1
    exact ⟨m2, h2, p2.trans p1⟩
theorem strs_snoc {x : Str} {t : Tok} : ∀ {vs : List Value} {zs : List Str}, StrsAre vs zs → StrsAre (vs ++ [.str x t]) (zs ++ [x])
  | _, _, .nil => .cons x t .nil
  | _, _, .cons y u h => .cons y u (strs_snoc h)
theorem strs_len : ∀ {vs : List Value} {zs : List Str}, StrsAre vs zs → vs.length = zs.length
  | _, _, .nil => rfl
  | _, _, .cons y u h => by rw [List.length_cons, List.length_cons, strs_len h]
theorem strs_get : ∀ {vs : List Value} {zs : List Str}, StrsAre vs zs → ∀ {i : Nat} {v : Value}, vs[i]? = some v → ∃ x t, v = .str x t ∧ zs[i]? = some x
  | _, _, .nil, i, v, e => by simp at e
  | _, _, .cons y u h, 0, v, e => by simp at e; exact ⟨y, u, e.symm, rfl⟩
  | _, _, .cons y u h, i + 1, v, e => strs_get h (i := i) (by simpa using e)
section
variable {X : Cx} {pins : List (Addr × Obj)} {σ : L2.St} {H : Hp} {s : Shared} {E : Value → Shared → Prop}
theorem exO_get {a : Addr} {o : Obj} (I : Inv X pins σ H s) (e : H a = some (ExO a o)) : s.heap.get? a = some o := (I.hok a _ e).1
theorem exO_write {a : Addr} {o o' : Obj} {h' : Heap} {t' : Nat} (I : Inv X pins σ H s) (e : H a = some (ExO a o)) (sb : Heap.SameBut a s.heap h') (e' : h'.get? a = some o') : Inv X pins σ (upd H a (ExO a o')) { s with heap := h', toks := t' } :=
  I.write (e := a) (by rw [e]; exact True.intro) (.inl rfl) (fun b u hb q => (sb.2 b hb).trans q) ⟨_, e'⟩ (exO_ok e')
/-- the promise of the sort -/
def SortQ (X : Cx) (pins : List (Addr × Obj)) (σ : L2.St) (H : Hp) (a kS : Addr) (ks : List Str) (P : PySem.Fin → Shared → Prop) : Prop :=
  ∀ (s' : Shared) (H' : Hp) (ys : List Str), Inv X pins σ H' s' → (∀ b o, b ≠ a → b ≠ kS → H b = some o → H' b = some o) → H' a = some (.lst (ys.map V.str)) → ys.Perm ks → P (.done (.ret .none)) s'
theorem ksk_tailI {A : Around} {a kS : Addr} {e e1 : Nat} {keys : Array Value} {vs : List Value} {ks : List Str} {st : SortSt} {P : PySem.Fin → Shared → Prop} (I : Inv X pins σ H s) (ha : H a = some (ExO a (seqObj "list" #[] e1))) (hk : H kS = some (ExO kS (seqObj "list" keys e))) (hne : kS ≠ a)
    (hks : keys.size = vs.length) (hv : StrsAre vs ks) (h64 : ks.length < 64) (hp : (arrOf st).Perm (keys.zip vs.toArray)) (hfl : failedOf st = none) (h : SortQ X pins σ H a kS ks P) :
    wpAny (model X.prog X.w) A (ksk_tail a false e1 (.ref kS) st) P E s := by
  have nk := exO_get I hk
  have na := exO_get I ha
  have hvl := strs_len hv
  have s1 := Heap.SameBut.update s.heap kS (Obj.mapSeq fun _ => (#[] : Array Value))
  have na1 : (s.heap.update kS (Obj.mapSeq fun _ => (#[] : Array Value))).get? a = some (seqObj "list" #[] e1) := (s1.2 a hne.symm).trans na
  obtain ⟨ck, hck⟩ : ∃ ck, (s.heap.update kS (Obj.mapSeq fun _ => (#[] : Array Value))).get? kS = some (seqObj "list" #[] ck) := ⟨_, get?_update_seq nk fun _ => #[]⟩
  have pm : ((arrOf st).map (·.2)).toList.Perm vs := by
    have h1 := (Array.perm_iff_toList_perm.mp hp).map (fun p : Keyed => p.2)
    rw [ksk_zip, List.map_snd_zip (by have := Array.length_toList (xs := keys); omega)] at h1
    rw [Array.toList_map]
    exact h1
  unfold ksk_tail
  try dsimp only
  simp only [Bool.false_eq_true, if_false]
  generalize (arrOf st).map (·.2) = out at pm ⊢
  have s2 := Heap.SameBut.update (s.heap.update kS (Obj.mapSeq fun _ => (#[] : Array Value))) a (Obj.mapSeq fun _ => out)
  obtain ⟨c2, hc2⟩ : ∃ c2, ((s.heap.update kS (Obj.mapSeq fun _ => (#[] : Array Value))).update a (Obj.mapSeq fun _ => out)).get? a = some (seqObj "list" out c2) :=
    ⟨_, get?_update_seq na1 fun _ => out⟩
  have hout : out.size ≤ sizeLine := by
    have := pm.length_eq
    rw [Array.length_toList] at this
    rw [this, hvl]
    exact small64 h64
  obtain ⟨ys, hy, py⟩ := strs_perm pm hv
  refine wpAny_bind (listUpdate_at nk rfl ?_ (by rw [hks, hvl]; exact small64 h64) (Nat.zero_le _))
  refine wpAny_bind (wpAny_letGo ?_)
  refine wpAny_bind (seqEpoch_at na1 rfl ?_)
  refine wpAny_bind (listUpdate_at na1 rfl ?_ (Nat.zero_le _) (Nat.le_trans hout (Nat.le_succ _)))
  rw [hfl]
  simp only [bne_self_eq_false, Bool.false_eq_true, if_false]
  have I1 := exO_write (t' := s.toks) I hk s1 hck
  have ha1 : upd H kS (ExO kS (seqObj "list" #[] ck)) a = some (ExO a (seqObj "list" #[] e1)) := by rw [upd_ne hne.symm]; exact ha
  have I2 := I1.write (e := a) (o := .lst (ys.map V.str)) (h' := (s.heap.update kS (Obj.mapSeq fun _ => (#[] : Array Value))).update a (Obj.mapSeq fun _ => out)) (t' := s.toks) (by rw [ha1]; exact True.intro) (.inl rfl) (fun b u hb q => (s2.2 b hb).trans q) ⟨_, hc2⟩
    (show ObjOk X.prog X.w _ _ _ (.lst (ys.map V.str)) from ⟨by rw [List.length_map, py.length_eq]; exact small64 h64, out.toList, c2, vals_of_strs hy, by rw [Array.toArray_toList]; exact hc2⟩)
  exact wpAny_pure (h _ _ ys I2 (fun b o h1 h2 e => by rw [upd_ne h1, upd_ne h2]; exact e) upd_same py)
theorem ksk_endI {A : Around} {a kS : Addr} {e e1 : Nat} {keys : Array Value} {vs : List Value} {ks zs : List Str} {P : PySem.Fin → Shared → Prop} (I : Inv X pins σ H s) (ha : H a = some (ExO a (seqObj "list" #[] e1))) (hk : H kS = some (ExO kS (seqObj "list" keys e))) (hne : kS ≠ a)
    (hz : StrsAre keys.toList zs) (hzl : zs.length = ks.length) (hv : StrsAre vs ks) (h64 : ks.length < 64) (h : SortQ X pins σ H a kS ks P) :
    wpAny (model X.prog X.w) A (ksk_end a false vs.toArray e1 (.ref kS) keys) P E s := by
  have hvl := strs_len hv
  have hks : keys.size = vs.length := by
    have := strs_len hz
    rw [Array.length_toList] at this
    rw [this, hzl, hvl]
  have hzs : (keys.zip vs.toArray).size = vs.length := by rw [Array.size_zip, hks, List.size_toArray, Nat.min_self]
  unfold ksk_end
  try dsimp only
  simp only [Bool.false_eq_true, if_false]
  by_cases h2 : vs.toArray.size < 2
  · rw [if_pos h2, if_pos h2]
    refine wpAny_bind (wpAny_pure ?_)
    rw [StateT.run_pure]
    refine wpAny_bind (wpAny_pure ?_)
    try dsimp only
    exact ksk_tailI (st := SortSt.mk' general' (keys.zip vs.toArray) #[] 7 none) I ha hk hne hks hv h64 (Array.Perm.refl _) rfl h
  · rw [if_neg h2, if_neg h2]
    rw [List.size_toArray] at h2
    have hkk : keyKind' keys = pure oneType' := by
      obtain ⟨l, rfl⟩ : ∃ l, keys = List.toArray l := ⟨keys.toList, by rw [Array.toArray_toList]⟩
      rw [List.toList_toArray] at hz
      rw [List.size_toArray] at hks
      match l, hz, hks with
      | [], _, e => exact absurd e (by rw [List.length_nil]; omega)
      | [_], _, e => exact absurd e (by rw [List.length_singleton]; omega)
      | v₁ :: v₂ :: rest, hz, _ => exact keyKind_strs hz
    rw [hkk]
    refine wpAny_bind (wpAny_pure ?_)
    have hKO : KeysOf strKind (keys.zip vs.toArray) := by
      intro p hp
      rw [ksk_zip] at hp
      obtain ⟨x, t, e⟩ := hz.all _ (List.of_mem_zip hp).1
      exact ⟨x.cps.toList, by rw [e]⟩
    refine wpAny_bind (wpAny_mono (wpS_sortRunsK (κ := strKind) strKind_oneLt (a₀ := keys.zip vs.toArray) (st := SortSt.mk' oneType' (keys.zip vs.toArray) #[] 7 none)
      (Q := fun _ st' => (arrOf st').Perm (keys.zip vs.toArray) ∧ failedOf st' = none)
      hKO ⟨Array.Perm.refl _, rfl, rfl, rfl⟩ (by rw [hzs]; omega) (by rw [hzs, hvl]; exact h64) fun st' a1 a2 _ => ⟨a1, a2⟩) ?_ fun _ _ e => e)
    rintro ⟨⟨⟩, st'⟩ s' ⟨rfl, hp, hf⟩
    try dsimp only
    exact ksk_tailI I ha hk hne hks hv h64 hp hf h
/-- what calling the key's function gives: a text, and nothing is changed -/
def KeyCall (X : Cx) (A : Around) (f : Addr) (ks : List Str) (φ : Shared → Hp → Prop) : Prop :=
  ∀ (pins : List (Addr × Obj)) (σ : L2.St) (H : Hp) (s : Shared) (x : Str) (t : Tok) (E : Value → Shared → Prop), x ∈ ks → Inv X pins σ H s → φ s H →
    wpAny (model X.prog X.w) A (call (.ref f) [.str x t]) (fun u s' => (∃ z u', u = .str z u') ∧ Inv X pins σ H s' ∧ φ s' H) E s
theorem ksk_restI {A : Around} {a kS f : Addr} {e1 : Nat} {vs : List Value} {ks : List Str} {φ : Shared → Hp → Prop} {P : PySem.Fin → Shared → Prop} (I : Inv X pins σ H s) (ha : H a = some (ExO a (seqObj "list" #[] e1))) (hk : H kS = some (ExO kS (seqObj "list" #[] 0))) (hne : kS ≠ a)
    (hv : StrsAre vs ks) (h64 : ks.length < 64) (hφ : φ s H) (hc : KeyCall X A f ks φ) (hφw : ∀ (s : Shared) (H : Hp) (h' : Heap) (t' : Nat) (o : Obj), φ s H → Heap.SameBut kS s.heap h' → φ { s with heap := h', toks := t' } (upd H kS (ExO kS o))) (h : SortQ X pins σ H a kS ks P) :
    wpAny (model X.prog X.w) A (ksk_rest a (.ref f) false vs.toArray e1 (.ref kS)) P E s := by
  have hvl := strs_len hv
  unfold ksk_rest
  refine wpAny_bind (wpAny_rule ?_)
  rw [List.forIn_toArray]
  refine wpAny_bind (ksk_fold (fun i s' => ∃ kA e zs, Inv X pins σ (upd H kS (ExO kS (seqObj "list" kA e))) s' ∧ StrsAre kA.toList zs ∧ zs.length = i ∧ φ s' (upd H kS (ExO kS (seqObj "list" kA e)))) vs 0 s ?start ?step ?done)
  case start =>
    have e0 : upd H kS (ExO kS (seqObj "list" #[] 0)) = H := by
      funext b
      by_cases hb : b = kS
      · rw [hb, upd_same, hk]
      · rw [upd_ne hb]
    exact ⟨#[], 0, [], by rw [e0]; exact I, .nil, rfl, by rw [e0]; exact hφ⟩
  case step =>
    rintro j x s' hx ⟨kA, e, zs, I1, hz, hzl, h1⟩
    obtain ⟨y, t, rfl, hy⟩ := strs_get hv hx
    have hj : j < ks.length := (List.getElem?_eq_some_iff.mp hy).1
    refine wpAny_bind (wpAny_attempt (wpAny_mono (hc pins σ _ s' y t (fun _ _ => False) (List.mem_of_getElem? hy) I1 h1) (fun u s2 he => ?_) fun _ _ hF => hF.elim))
    obtain ⟨⟨z, u', rfl⟩, I2, h2⟩ := he
    try dsimp only
    have nk := exO_get I2 (a := kS) upd_same
    have s1 := Heap.SameBut.update s2.heap kS (Obj.mapSeq (·.push (.str z u')))
    obtain ⟨c2, hc2⟩ : ∃ c2, (s2.heap.update kS (Obj.mapSeq (·.push (.str z u')))).get? kS = some (seqObj "list" (kA.push (.str z u')) c2) := ⟨_, get?_update_seq nk (·.push (.str z u'))⟩
    have hzk : kA.size = j := by
      have := strs_len hz
      rw [Array.length_toList, hzl, Nat.zero_add] at this
      exact this
    refine wpAny_bind (listUpdate_at nk rfl ?_ (by rw [hzk]; exact small64 (by omega)) (Nat.le_trans (Nat.le_of_eq (Array.size_push ..)) (by rw [hzk]; exact Nat.le_trans (small64 (n := j + 1) (by omega)) (Nat.le_succ _))))
    have I3 := exO_write (t' := s2.toks) I2 (a := kS) upd_same s1 hc2
    have h3 := hφw _ _ _ s2.toks (seqObj "list" (kA.push (.str z u')) c2) h2 s1
    rw [L2.upd_upd] at I3 h3
    refine wpAny_pure ⟨rfl, kA.push (.str z u'), c2, zs ++ [z], I3, ?_, ?_, h3⟩
    · rw [Array.toList_push]
      exact strs_snoc hz
    · rw [List.length_append, hzl]; rfl
  case done =>
    rintro s' ⟨kA, e, zs, I1, hz, hzl, h1⟩
    have nk := exO_get I1 (a := kS) upd_same
    try dsimp only
    refine wpAny_bind (listItems_at nk rfl ?_)
    exact ksk_endI I1 (by rw [upd_ne hne.symm]; exact ha) upd_same hne hz (by rw [hzl, Nat.zero_add, hvl]) hv h64 (fun s2 H2 ys J k1 k2 k3 => h s2 H2 ys J (fun b o n1 n2 q => k1 b o n1 n2 (by rw [upd_ne n2]; exact q)) k2 k3)
/-- sorted(d, key=lambda a: body) of a dict with fewer than 64 keys, all texts; the key is a text -/
def SortK (T : List (Addr × Str)) (Q : VK) (vs : List V) (H0 : Hp) : Prop := LamX.Tabs T H0 ∧ ∃ (p : Addr) (kvs : List (Key × V)) (ks : List Str), vs = [.ref p] ∧ H0 p = some (.dK kvs) ∧ kvs.map (·.1) = ks.map Sum.inr ∧ ks.length < 64 ∧ (∀ k ∈ ks, k.length ≤ sizeLine) ∧
  ∀ H1, LamX.ExtN H0 H1 → LamX.Tabs T H1 → ∀ (ys : List Str) (l : Addr) (H2 : Hp), Same H1 H2 → H1 l = none → H2 l = some (.lst (ys.map V.str)) → ys.Perm ks → Q (.ref l) H2
def tSortKey (T : List (Addr × Str)) (t : TA) : TE := fun σ H Q => t σ H (SortK T Q)
theorem pe_sortKey {T : List (Addr × Str)} {e : Expr} {params : Arguments} {body : Expr} {scope : Scope} {p lpos pos kpos : Pos} {c P : Addr} {k : Nat} {N : List Str} {a : Str} {tb : TE} {t : TA} (hg : Gl X "sorted") (hm : X.mg "sorted" = none) (ha : PA X [e] t)
    (TB : LamX.TabB X.base X.mg c P) (hcode : X.env.code = .ref c) (hmT : (P, X.env.qual ++ "<lambda>") ∈ T) (hu : ∀ p ∈ T, p.1 = P → p.2 = X.env.qual ++ "<lambda>") (hcalm : X.calm = true) (hr : Room (k + 3) X.A) (S : FnScope N [a] scope) (hdef : defaultsOf params X.env = ([], []))
    (hcl : ∀ cells : List (Str × Addr), cloFrom cells scope.names [] = [])
    (hbind : ∀ (q : Str) (pm cv ctv v : Value), bindArgs (PySem.W.kla_fn "<lambda>" q params body scope [] pm cv ctv) ⟨[v], []⟩ = pure [(a, v)])
    (hbody : ∀ (A : Around) (s : Shared) (H : Hp) (f c' : Addr), Room k (A.deeper (envOfC (X.env.qual ++ "<lambda>") scope s.heap.objs.size f (.ref c'))) → PE (cxOf C8.CX0 X.prog X.w X.K X.mg X.base N (X.env.qual ++ "<lambda>") scope f (.ref c') A X.stack s H C8.E0) body tb)
    (htb : ∀ (H : Hp) (x : Str), x.length ≤ sizeLine → tb (L2.start N [.str x]) H (fun v H' => (∃ z, v = .str z) ∧ H' = H))
    (hes : backTo pos (starEach [e] X.env) = (false, eval e X.env) :: backTo pos (starEach [] X.env) := by rfl) (hpl : (backTo pos (starEach [e] X.env)).any (·.1) = false := by rfl) :
    PE X (.Call (.Name "sorted" p) [e] [⟨some "key", .Lambda params body scope lpos, kpos⟩] pos) (tSortKey T t) := by
  refine ⟨fun pins s σ H Q I h => ?_⟩
  refine wpAny_Call_Name_kw (ld_blt I hg hm (show bootBuiltins "sorted" = some (.builtin "sorted") by decide +kernel) ?_ (by decide) (by decide))
  refine PyProof.Rows.callWith_kw (thn (ha.run pos pins s σ H (SortK T Q) I h) fun us s1 ⟨vs, H0, I0, r0, hT, d, kvs, ks, ed, hd, hks, h64, hkl, q⟩ => ?_) hes hpl (by rfl) (by rfl)
  subst ed
  obtain rfl := Vals.ref1 r0
  show wpAny _ _ (evalAll ((do let v ← eval (.Lambda params body scope lpos) X.env; standAt pos; pure v) :: [])) _ _ s1
  refine wpAny_evalAll_cons (wpAny_bind (LamX.lam_make2 I0 TB hcode hmT hu hT hdef (fun y hy e => absurd e (S.nofree y hy)) fun f c' pm ctv H1 s2 I1 eN T1 hf hfn hfr hco => wpAny_bind (wpAny_standAt (wpAny_pure (wpAny_evalAll_nil ?_)))))
  rw [hcl] at hf
  have hd1 : H1 d = some (.dK kvs) := eN _ _ hd (fun _ => nofun)
  show wpAny (model X.prog X.w) X.A (call (.builtin "sorted") [.ref d] [(Str.ofString "key", .ref f)]) (EP X pins σ Q) X.xe s2
  obtain ⟨z, lo, vs, rel, dd⟩ := dk_rd I1.hok (.inl hd1)
  obtain ⟨ep, hat⟩ := dd.dictAt
  have hkeys : vs.map (·.1) = ks.map Sum.inr := rel.keys.symm.trans hks
  have hl : vs.length = ks.length := by
    have e := congrArg List.length hkeys
    rw [List.length_map, List.length_map] at e
    exact e
  have h16 : vs.length ≤ sizeLine := by rw [hl, sizeLine_eq]; omega
  refine call_function_entry_kw PyProof.Rows.kind_sorted PyProof.Rows.plain_sorted PyProof.Rows.entry_sorted (ksk_s1 _ _) ?_
  unfold Builtin.«sorted»
  refine wpAny_bind (m := checkCount "sorted" 1 1 _) (wpAny_pure ?_)
  refine wpAny_bind (PySem.W.kdu_collect (A := X.A.in1) (PySem.W.kdl_dict (knd := mixKind X.prog X.w) (kvs := vs) (ep := ep) lo) (I1.ok.hd hcalm) hat h16 fun h' tk acc hk hacc => ?_)
  have hal : acc.toList.length = ks.length := by rw [Array.length_toList, hacc.1, hl]
  have hS : StrsAre acc.toList ks := strs_at hal fun j v e => by
    obtain ⟨k, x, e1, e2⟩ := hacc.2 j v (by rw [← Array.getElem?_toList]; exact e)
    have e3 : (vs.map (·.1))[j]? = some k := by rw [List.getElem?_map, e1]; all_goals rfl
    rw [hkeys, List.getElem?_map] at e3
    cases e4 : ks[j]? with
    | none => rw [e4] at e3; cases e3
    | some y =>
      rw [e4] at e3
      have e5 : Sum.inr y = k := Option.some.inj e3
      subst e5
      obtain ⟨t, ev⟩ := Value.isStrOf_shape (x := y) (v := v) e2
      exact ⟨y, t, rfl, ev⟩
  have I2 : Inv X pins σ H1 { s2 with heap := h', toks := tk } := I1.kept hk
  have hf2 : h'.get? f = some _ := hk _ _ hf
  refine wpAny_bind (wpAny_newList ?_ (by rw [hal, sizeLine_eq]; omega))
  have hoL : (h'.push (seqObj "list" acc.toList.toArray 0)).get? h'.objs.size = some (seqObj "list" acc.toList.toArray 0) := Heap.get?_push_size _ rfl
  have nL : H1 h'.objs.size = none := I2.hok.fresh (Nat.le_refl _)
  have I3 : Inv X pins σ (upd H1 h'.objs.size (ExO h'.objs.size (seqObj "list" acc.toList.toArray 0))) { s2 with heap := h'.push (seqObj "list" acc.toList.toArray 0), toks := tk } :=
    I2.laid (fun b u e => Heap.get?_push_of_some _ e) (Nat.le_refl _) (exO_ok hoL)
  have hf3 : (h'.push (seqObj "list" acc.toList.toArray 0)).get? f = some _ := Heap.get?_push_of_some _ hf2
  have fL : f ≠ h'.objs.size := Nat.ne_of_lt (Heap.lt_size hf2)
  show wpAny _ _ _ _ _ { s2 with heap := h'.push (seqObj "list" acc.toList.toArray 0), toks := tk }
  generalize h'.objs.size = L at hoL nL I3 fL ⊢
  generalize h'.push (seqObj "list" acc.toList.toArray 0) = h3 at hoL I3 hf3 ⊢
  refine wpAny_bind (wpAny_holding (wpAny_call_entry_kw PyProof.Rows.slot_list_sort ⟨_, hoL, rfl⟩ PyProof.Rows.entry_list_sort ?_ (ksk_l1 _ _)))
  rw [ksk_t1]
  unfold ksk_tree
  have sb1 := Heap.SameBut.update h3 L (Obj.mapSeq fun _ => (#[] : Array Value))
  obtain ⟨e1, ho1⟩ : ∃ e1, (h3.update L (Obj.mapSeq fun _ => (#[] : Array Value))).get? L = some (seqObj "list" #[] e1) := ⟨_, get?_update_seq hoL fun _ => #[]⟩
  refine wpAny_bind (listItems_at hoL rfl ?_)
  refine wpAny_bind (listUpdate_at hoL rfl ?_ (by rw [List.size_toArray, hal]; exact small64 h64) (Nat.zero_le _))
  refine wpAny_bind (seqEpoch_at ho1 rfl ?_)
  have I4 := exO_write (t' := tk) I3 (a := L) upd_same sb1 ho1
  rw [L2.upd_upd] at I4
  have hf4 := (sb1.2 f fL).trans hf3
  show wpAny _ _ _ _ _ { s2 with heap := h3.update L (Obj.mapSeq fun _ => (#[] : Array Value)), toks := tk }
  generalize h3.update L (Obj.mapSeq fun _ => (#[] : Array Value)) = h4 at ho1 I4 hf4 ⊢
  refine wpAny_bind (wpAny_newTuple ?_ (by show acc.toList.length ≤ _; rw [hal]; exact small64 h64))
  have I5 : Inv X pins σ (upd H1 L (ExO L (seqObj "list" #[] e1))) { s2 with heap := h4.push (seqObj "tuple" acc.toList.toArray 0), toks := tk } := I4.kept (t' := tk) (fun b u e => Heap.get?_push_of_some _ e)
  have hf5 : (h4.push (seqObj "tuple" acc.toList.toArray 0)).get? f = some _ := Heap.get?_push_of_some _ hf4
  have hL5 : L < (h4.push (seqObj "tuple" acc.toList.toArray 0)).objs.size := Heap.lt_size (Heap.get?_push_of_some _ ho1)
  show wpAny _ _ _ _ _ { s2 with heap := h4.push (seqObj "tuple" acc.toList.toArray 0), toks := tk }
  generalize h4.push (seqObj "tuple" acc.toList.toArray 0) = h5 at I5 hf5 hL5 ⊢
  refine wpAny_bind (wpAny_newList ?_ (Nat.zero_le _))
  have nK : (upd H1 L (ExO L (seqObj "list" #[] e1))) h5.objs.size = none := I5.hok.fresh (Nat.le_refl _)
  have I6 : Inv X pins σ (upd (upd H1 L (ExO L (seqObj "list" #[] e1))) h5.objs.size (ExO h5.objs.size (seqObj "list" #[] 0))) { s2 with heap := h5.push (seqObj "list" #[] 0), toks := tk } :=
    I5.laid (fun b u e => Heap.get?_push_of_some _ e) (Nat.le_refl _) (exO_ok (Heap.get?_push_size _ rfl))
  have hf6 : (h5.push (seqObj "list" #[] 0)).get? f = some _ := Heap.get?_push_of_some _ hf5
  have fK : f ≠ h5.objs.size := Nat.ne_of_lt (Heap.lt_size hf5)
  have nKL : h5.objs.size ≠ L := Nat.ne_of_gt hL5
  refine wpAny_holding ?_
  show wpAny _ _ _ _ _ { s2 with heap := h5.push (seqObj "list" #[] 0), toks := tk }
  generalize h5.objs.size = kS at nK I6 fK nKL ⊢
  generalize h5.push (seqObj "list" #[] 0) = h6 at I6 hf6 ⊢
  have nK1 : H1 kS = none := by rw [upd_ne nKL] at nK; exact nK
  rw [Array.toArray_toList]
  refine ksk_restI (vs := acc.toList) (ks := ks) (f := f) (φ := fun s' H' => s'.heap.get? f = some (PySem.W.kla_obj "<lambda>" (X.env.qual ++ "<lambda>") params body scope [] pm c' ctv) ∧ H' f = none ∧ H' c' = some (LamX.CodeO c' (X.env.qual ++ "<lambda>"))) I6 (by rw [upd_ne nKL.symm, upd_same]) upd_same nKL hS h64 ⟨hf6, ?_, ?_⟩ ?_ ?_ ?_
  · rw [upd_ne fK, upd_ne fL]; exact hfn
  · rw [upd_ne (ne_of_none hco nK1), upd_ne (ne_of_none hco nL)]; exact hco
  · intro pins' σ' H' s' x t E' hx J ⟨j1, j2, j3⟩
    refine wpAny_mono (lam_call1 (A := X.A.in1.in1) (E := E') (k := k) J j1 j3 S hr.in1.in1 J.env0.in1.in1 (hbind _ _ _ _ _) (x := .str x) ⟨t, rfl⟩ (fun hr' => hbody _ _ _ _ _ hr') (htb H' x (hkl x hx))) (fun u s'' he => ?_) fun _ _ e => e
    obtain ⟨⟨v, H'', J2, rv, ⟨z, rfl⟩, rfl⟩, kp⟩ := he
    obtain ⟨u', rfl⟩ := rv
    exact ⟨⟨z, u', rfl⟩, J2, kp _ _ j1 j2 hfr, j2, j3⟩
  · intro s' H' h'' t' o ⟨j1, j2, j3⟩ sb
    refine ⟨(sb.2 f fK).trans j1, by rw [upd_ne fK]; exact j2, ?_⟩
    rw [upd_ne (ne_of_none hco nK1)]
    exact j3
  · intro s' H' ys J k1 k2 k3
    refine ⟨_, rfl, wpAny_pure ⟨_, rfl, .ref L, H', J, rfl, q H1 eN T1 ys L H' (fun b o e => ?_) nL k2 k3⟩⟩
    exact k1 b o (ne_of_none e nL) (ne_of_none e nK1) (by rw [upd_ne (ne_of_none e nK1), upd_ne (ne_of_none e nL)]; exact e)
end
theorem key_rev0 {n : Str} (H : Hp) (x : Str) (h : x.length ≤ sizeLine) : tRevS (tVar 0) (tUn (rU fun i => .int (-i)) (tC (.int 1))) (L2.start [n] [.str x]) H (fun v H' => (∃ z, v = .str z) ∧ H' = H) :=
  ⟨_, rfl, _, rfl, rfl, x, rfl, h, fun z => ⟨⟨z, rfl⟩, rfl⟩⟩
end NM

namespace NM
open PySem PySem.Spec PyProof.Rows L2 HotX L2H
/-! ### data of tuples alone -/
mutual
inductive Tre (H : Hp) : V → PyData → Prop
  | str (x : Str) : Tre H (.str x) (.str x)
  | int (i : Int) : Tre H (.int i) (.int i)
  | tup {t : Addr} {xs : List V} {ds : List PyData} (h : H t = some (.tup xs)) (r : TreAll H xs ds) : Tre H (.ref t) (.tuple ds)
inductive TreAll (H : Hp) : List V → List PyData → Prop
  | nil : TreAll H [] []
  | cons {x : V} {d : PyData} {xs : List V} {ds : List PyData} (h : Tre H x d) (r : TreAll H xs ds) : TreAll H (x :: xs) (d :: ds)
end
theorem treAll_strs {H : Hp} : ∀ L : List Str, TreAll H (L.map V.str) (L.map PyData.str)
  | [] => .nil
  | x :: L => .cons (.str x) (treAll_strs L)
mutual
theorem Tre.keepT {H H' : Hp} {v : V} {d : PyData} (h : Tre H v d) (k : KeepT H H') : Tre H' v d := by
  cases h with
  | str x => exact .str x
  | int i => exact .int i
  | tup h r => exact .tup (k _ _ h) (TreAll.keepT r k)
theorem TreAll.keepT {H H' : Hp} {vs : List V} {ds : List PyData} (h : TreAll H vs ds) (k : KeepT H H') : TreAll H' vs ds := by
  cases h with
  | nil => exact .nil
  | cons h r => exact .cons (Tre.keepT h k) (TreAll.keepT r k)
end
mutual
theorem Tre.dp {K : PySem.W.Frag} {H : Hp} {v : V} {d : PyData} (h : Tre H v d) : Dp K H v d := by
  cases h with
  | str x => exact .str x
  | int i => exact .int i
  | tup h r => exact .tup (sqT h) (TreAll.dp r)
theorem TreAll.dp {K : PySem.W.Frag} {H : Hp} {vs : List V} {ds : List PyData} (h : TreAll H vs ds) : DpAll K H vs ds := by
  cases h with
  | nil => exact .nil
  | cons h r => exact .cons (Tre.dp h) (TreAll.dp r)
end
theorem TreAll.len {H : Hp} : ∀ {vs : List V} {ds : List PyData}, TreAll H vs ds → vs.length = ds.length
  | _, _, .nil => rfl
  | _, _, .cons _ r => congrArg Nat.succ r.len
theorem TreAll.at {H : Hp} : ∀ {vs : List V} {ds : List PyData} {i : Nat} {v : V}, TreAll H vs ds → vs[i]? = some v → ∃ d, ds[i]? = some d ∧ Tre H v d
  | _, _, _, _, .nil, e => by simp at e
  | _, _, 0, _, .cons h _, e => by simp at e; subst e; exact ⟨_, rfl, h⟩
  | _, _, i + 1, _, .cons _ r, e => by
    obtain ⟨d, h1, h2⟩ := TreAll.at (i := i) r (by simpa using e)
    exact ⟨d, by simpa using h1, h2⟩
theorem treAll_paired {H : Hp} {f : Str → PyData} : ∀ {L : List Str} {ys : List V}, Paired (fun x y => ∃ n, x = V.str n ∧ Tre H y (f n)) (L.map V.str) ys → TreAll H ys (L.map f)
  | [], _, .nil => .nil
  | n :: L, _, .cons r t => by
    obtain ⟨n', e, h⟩ := r
    cases e
    exact .cons h (treAll_paired t)
/-! ### the tree of a heap -/
noncomputable def treeD (M : PM) : Nat → List Str → PyData
  | 0, L => .tuple (L.map .str)
  | z + 1, L => if 1 < (splitR M L z).length then .tuple [.int z, .tuple ((splitR M L z).map fun h => treeD M z (rowOf (nearR M z) (namesOf M) h))] else treeD M z L
noncomputable def endsT (M : PM) : Nat → List Str → List Str
  | 0, L => L
  | z + 1, L => if 1 < (splitR M L z).length then ((splitR M L z).map fun h => endsT M z (rowOf (nearR M z) (namesOf M) h)).flatten else endsT M z L
theorem treeD_succ (M : PM) (z : Nat) (L : List Str) : treeD M (z + 1) L = if 1 < (splitR M L z).length then .tuple [.int z, .tuple ((splitR M L z).map fun h => treeD M z (rowOf (nearR M z) (namesOf M) h))] else treeD M z L := rfl
theorem endsT_succ (M : PM) (z : Nat) (L : List Str) : endsT M (z + 1) L = if 1 < (splitR M L z).length then ((splitR M L z).map fun h => endsT M z (rowOf (nearR M z) (namesOf M) h)).flatten else endsT M z L := rfl
theorem tree_leaf {M : PM} {L : List Str} : ∀ {z : Nat}, (∀ x < z, (splitR M L x).length ≤ 1) → treeD M z L = .tuple (L.map .str) ∧ endsT M z L = L
  | 0, _ => ⟨rfl, rfl⟩
  | z + 1, h => by
    have h0 := h z (Nat.lt_succ_self z)
    rw [treeD_succ, endsT_succ, if_neg (by omega), if_neg (by omega)]
    exact tree_leaf fun x hx => h x (by omega)
theorem tree_node {M : PM} {L : List Str} {y : Nat} (h1 : 1 < (splitR M L y).length) : ∀ {z : Nat}, y < z → (∀ x, y < x → x < z → (splitR M L x).length ≤ 1) →
    treeD M z L = .tuple [.int y, .tuple ((splitR M L y).map fun h => treeD M y (rowOf (nearR M y) (namesOf M) h))] ∧ endsT M z L = ((splitR M L y).map fun h => endsT M y (rowOf (nearR M y) (namesOf M) h)).flatten
  | 0, h, _ => absurd h (Nat.not_lt_zero _)
  | z + 1, h, h2 => by
    rw [treeD_succ, endsT_succ]
    by_cases e : y = z
    · subst e
      rw [if_pos h1, if_pos h1]
      exact ⟨rfl, rfl⟩
    · have h0 := h2 z (by omega) (Nat.lt_succ_self z)
      rw [if_neg (by omega), if_neg (by omega)]
      exact tree_node h1 (by omega) fun x hx hx2 => h2 x hx (by omega)
theorem split_cases (M : PM) (L : List Str) : ∀ z : Nat, (∀ x < z, (splitR M L x).length ≤ 1) ∨ ∃ y < z, 1 < (splitR M L y).length ∧ ∀ x, y < x → x < z → (splitR M L x).length ≤ 1
  | 0 => .inl fun x hx => absurd hx (Nat.not_lt_zero _)
  | z + 1 => by
    by_cases c : 1 < (splitR M L z).length
    · exact .inr ⟨z, Nat.lt_succ_self z, c, fun x h1 h2 => by omega⟩
    · rcases split_cases M L z with h | ⟨y, hy, h1, h2⟩
      · refine .inl fun x hx => ?_
        by_cases e : x = z
        · rw [e]; omega
        · exact h x (by omega)
      · refine .inr ⟨y, by omega, h1, fun x hx hx2 => ?_⟩
        by_cases e : x = z
        · rw [e]; omega
        · exact h2 x hx (by omega)
theorem split_mem {M : PM} {L : List Str} {y : Nat} {h : Str} (hL : ∀ n ∈ L, n ∈ namesOf M) (hh : h ∈ splitR M L y) : h ∈ headsOf (nearR M y) (namesOf M) := by
  have := List.mem_filter.mp hh
  exact mem_headsOf.mpr ⟨hL h this.1, of_decide_eq_true this.2⟩
theorem row_in {M : PM} {y : Int} {h : Str} : ∀ n ∈ rowOf (nearR M y) (namesOf M) h, n ∈ namesOf M := fun n hn => (mem_rowOf.mp hn).1
theorem perm_flat {α : Type} (f g : α → List Str) : ∀ L : List α, (∀ x ∈ L, (f x).Perm (g x)) → ((L.map f).flatten).Perm ((L.map g).flatten)
  | [], _ => .nil
  | x :: L, h => by
    rw [List.map_cons, List.map_cons, List.flatten_cons, List.flatten_cons]
    exact (h x (List.mem_cons_self ..)).append (perm_flat f g L fun y hy => h y (List.mem_cons_of_mem _ hy))
theorem ends_perm {M : PM} (nd : (namesOf M).Nodup) {z : Nat} : ∀ {h : Str}, z < 14 → (endsT M z (rowOf (nearR M z) (namesOf M) h)).Perm (rowOf (nearR M z) (namesOf M) h) := by
  induction z using Nat.strongRecOn with
  | _ z ih =>
    intro h hz
    rcases split_cases M (rowOf (nearR M z) (namesOf M) h) z with c | ⟨y, hy, h1, h2⟩
    · rw [(tree_leaf c).2]
    · rw [(tree_node h1 hy h2).2]
      exact (perm_flat _ _ _ fun x _ => ih y hy (by omega)).trans (split_rows (Nat.le_of_lt hy) hz nd)
theorem layTree {M : PM} (ok : PMOk M) : ∀ {z : Nat} {L : List Str}, (∀ n ∈ L, n ∈ namesOf M) → Lay (2 * z + 1) (treeD M z L)
  | 0, L, hL => lay_tuple (n := 0) (lay_map fun n hn => lay_str (nameS_ok (ok.name (hL n hn))))
  | z + 1, L, hL => by
    rw [treeD_succ]
    split
    · refine lay_tuple (n := 2 * z + 2) (lay_cons ((lay_int _).mono (Nat.zero_le _)) (lay_cons (lay_tuple (n := 2 * z + 1) (lay_map fun h _ => layTree ok row_in)) lay_nil))
    · exact (layTree ok hL).mono (by omega)
/-! ### the heaps of some marks alone -/
theorem hd_sub {R : Str → Str → Bool} {L N : List Str} (hs : ∀ x ∈ L, x ∈ N) (hc : ∀ a ∈ L, ∀ b ∈ N, R a b = true → b ∈ L) {n : Str} (hn : n ∈ L) : hd R L n = hd R N n := by
  have to : ∀ m, Rch R N n m → Rch R L n m := fun m h => by
    induction h with
    | refl => exact .refl hn
    | step h1 h2 r ih => exact .step ih (hc _ ih.right _ h2 r) r
  have h1 := hd_rch (R := R) hn
  have h2 := hd_rch (R := R) (hs n hn)
  exact leS_antisymm (hd_le (to _ h2)) (hd_le (h1.mono hs fun _ _ _ _ r => r))
def subP (P : PM) (L : List Str) : PM := L.map fun n => (n, ptOf P n)
theorem sub_names (P : PM) (L : List Str) : namesOf (subP P L) = L := names_pairs P L
theorem sub_near {P : PM} {L : List Str} (nd : L.Nodup) {s : Int} : ∀ a ∈ L, ∀ b ∈ L, nearR (subP P L) s a b = nearR P s a b := fun a ha b hb => by
  have e : ∀ n ∈ L, ptOf (subP P L) n = ptOf P n := fun n hn => ptOf_mem (by rw [sub_names]; exact nd) (List.mem_map.mpr ⟨n, hn, rfl⟩)
  unfold nearR
  rw [e a ha, e b hb]
section
variable {M : PM} {z y : Nat} {h : Str}
theorem row_closed (hy : y ≤ z) (hz : z < 14) : ∀ a ∈ rowOf (nearR M z) (namesOf M) h, ∀ b ∈ namesOf M, nearR M y a b = true → b ∈ rowOf (nearR M z) (namesOf M) h := fun a ha b hb r => by
  obtain ⟨haM, e⟩ := mem_rowOf.mp ha
  refine mem_rowOf.mpr ⟨hb, ?_⟩
  rw [← e]
  exact (hd_eq (nearR_symm M z) (.one haM hb (near_mono (by omega) (by omega) (by omega) a haM b hb r))).symm
theorem sub_hd (nd : (namesOf M).Nodup) (hy : y ≤ z) (hz : z < 14) {n : Str} (hn : n ∈ rowOf (nearR M z) (namesOf M) h) : hd (nearR (subP M (rowOf (nearR M z) (namesOf M) h)) y) (rowOf (nearR M z) (namesOf M) h) n = hd (nearR M y) (namesOf M) n := by
  rw [hd_congr (sub_near (row_nodup nd h))]
  exact hd_sub row_in (row_closed hy hz) hn
theorem sub_heads (nd : (namesOf M).Nodup) (hy : y ≤ z) (hz : z < 14) : headsOf (nearR (subP M (rowOf (nearR M z) (namesOf M) h)) y) (namesOf (subP M (rowOf (nearR M z) (namesOf M) h))) = splitR M (rowOf (nearR M z) (namesOf M) h) y := by
  rw [sub_names]
  unfold headsOf splitR
  rw [sortS_self (row_sorted h)]
  exact filter_congr' fun n hn => by rw [sub_hd nd hy hz hn]
theorem sub_row (nd : (namesOf M).Nodup) (hy : y ≤ z) (hz : z < 14) {k : Str} (hk : k ∈ splitR M (rowOf (nearR M z) (namesOf M) h) y) : rowOf (nearR (subP M (rowOf (nearR M z) (namesOf M) h)) y) (namesOf (subP M (rowOf (nearR M z) (namesOf M) h))) k = rowOf (nearR M y) (namesOf M) k := by
  rw [sub_names]
  have e1 : rowOf (nearR (subP M (rowOf (nearR M z) (namesOf M) h)) y) (rowOf (nearR M z) (namesOf M) h) k = (rowOf (nearR M z) (namesOf M) h).filter fun n => decide (hd (nearR M y) (namesOf M) n = k) := by
    have sh := fun n hn => sub_hd (M := M) (z := z) (y := y) (h := h) nd hy hz (n := n) hn
    have ss := sortS_self (row_sorted (R := nearR M z) (L := namesOf M) h)
    generalize rowOf (nearR M z) (namesOf M) h = W at sh ss
    unfold rowOf
    rw [ss]
    exact filter_congr' fun n hn => by rw [sh n hn]
  rw [e1]
  unfold rowOf
  rw [List.filter_filter]
  refine filter_congr' fun n hn => ?_
  have hnM := mem_sortS.mp hn
  by_cases c : hd (nearR M y) (namesOf M) n = k
  · have hkr := (List.mem_filter.mp hk).1
    have hn2 : n ∈ rowOf (nearR M z) (namesOf M) h := by
      have r := (hd_rch (R := nearR M y) hnM).symm (nearR_symm M y)
      rw [c] at r
      exact r.stay (C := fun x => x ∈ rowOf (nearR M z) (namesOf M) h) (fun a b ha _ hb rr => row_closed hy hz a ha b hb rr) hkr
    rw [decide_eq_true c, decide_eq_true (mem_rowOf.mp hn2).2]; rfl
  · rw [decide_eq_false c]; rfl
end
theorem sub_ok {M : PM} (ok : PMOk M) {L : List Str} (hL : ∀ n ∈ L, n ∈ namesOf M) (nd : L.Nodup) : PMOk (subP M L) where
  nodup := by rw [sub_names]; exact nd
  len := by
    have := nodup_le nd hL
    have h2 := ok.lenN
    unfold subP
    rw [List.length_map]
    omega
  ok := fun p hp => by
    obtain ⟨n, hn, rfl⟩ := List.mem_map.mp hp
    exact ⟨ok.pt (hL n hn), ok.name (hL n hn)⟩
theorem treAll_strs_inv {H : Hp} : ∀ {vs : List V} {L : List Str}, TreAll H vs (L.map PyData.str) → vs = L.map V.str
  | _, [], .nil => rfl
  | _, x :: L, .cons h r => by
    cases h
    rw [treAll_strs_inv r]
    rfl
theorem flat_take {α : Type} (f : α → List Str) {L : List α} {i : Nat} {x : α} (h : L[i]? = some x) : ((L.take (i + 1)).map f).flatten = ((L.take i).map f).flatten ++ f x := by
  rw [List.take_add_one, h, List.map_append, List.flatten_append]
  simp
theorem flat_take_le {α : Type} (f : α → List Str) (L : List α) (i : Nat) : ((L.take i).map f).flatten.length ≤ (L.map f).flatten.length := by
  conv => rhs; rw [← List.take_append_drop i L, List.map_append, List.flatten_append, List.length_append]
  omega
end NM

namespace NM
open PySem PySem.Spec PyProof.Rows L2 HotX L2H
/-! ### enumerate(t), t a tuple -/
theorem meets_enum_newT (t : Addr) (items : Array Value) :
    Meets (Builtin.«enumerate.__new__» ⟨[.type "enumerate", .ref t], []⟩) (fun _ R s => s.heap.IsTuple t items ∧
      R (.ok (.ret (.ref (s.heap.push { cls := .type "tuple_iterator", data := .fields #[.ref t, .int 0 0] }).objs.size)))
        { s with heap := (s.heap.push { cls := .type "tuple_iterator", data := .fields #[.ref t, .int 0 0] }).push { cls := .type "enumerate", data := .fields #[.none, .bool false, .ref s.heap.objs.size, rawInt 0, .none, .none] } }) :=
  .of_wp fun prog w A R s h => by
    obtain ⟨hp, g, d, tk, os⟩ := s; obtain ⟨h1, h⟩ := h
    have hsub := sub_enumerate
    have q1 : ∀ {A' : Around} {E : Value → Shared → Prop} {Q : Value → Shared → Prop}, Q (.ref hp.objs.size) ⟨hp.push { cls := .type "tuple_iterator", data := .fields #[.ref t, .int 0 0] }, g, d, tk, os⟩ → wpAny (model prog w) A' (pyIter (.ref t)) Q E ⟨hp, g, d, tk, os⟩ :=
      fun q => wpAny_pyIter_tuple (s := ⟨hp, g, d, tk, os⟩) h1 q
    wp_walk using q1
    refine wpAny_stack_any fun st => wpAny_pure ?_
    split
    · rename_i c _ _ _ _ _
      cases (c == Value.type "enumerate")
      · wp_walk using q1
        exact ⟨_, rfl, h⟩
      · wp_walk using q1
        exact ⟨_, rfl, h⟩
    · wp_walk using q1
      exact ⟨_, rfl, h⟩
section
variable {prog : Program} {w : World} {A : Around} {E : Value → Shared → Prop} {s : Shared}
theorem call_enum_tuple {t : Addr} {items : Array Value} {Q : Value → Shared → Prop} (hT : s.heap.IsTuple t items)
    (h : ∀ h', IsEnum h' (s.heap.objs.size + 1) s.heap.objs.size 0 .none → h'.IsTupleIter s.heap.objs.size t 0 → h'.objs.size = s.heap.objs.size + 2 →
      (∀ b o, s.heap.get? b = some o → h'.get? b = some o) → Q (.ref (s.heap.objs.size + 1)) { s with heap := h' }) :
    wpAny (model prog w) A (call (.type "enumerate") [.ref t]) Q E s := by
  refine callType_new F.called_enumerate (by decide) (F.typeCall_enumerate_1 _) (F.newCall_enumerate_1 _) (fun obj => F.args_object_init_2 obj _) F.entry_enumerate_new
    (meets_enum_newT t items) ⟨hT, ?_⟩
  have hz : (s.heap.push { cls := .type "tuple_iterator", data := .fields #[.ref t, .int 0 0] }).objs.size = s.heap.objs.size + 1 := Heap.size_push ..
  show _ ∧ _
  rw [hz]
  have he : IsEnum ((s.heap.push { cls := .type "tuple_iterator", data := .fields #[.ref t, .int 0 0] }).push
      { cls := .type "enumerate", data := .fields #[.none, .bool false, .ref s.heap.objs.size, rawInt 0, .none, .none] }) (s.heap.objs.size + 1) s.heap.objs.size 0 .none := by
    have := Heap.get?_push_size (s.heap.push { cls := .type "tuple_iterator", data := .fields #[.ref t, .int 0 0] }) (o := { cls := .type "enumerate", data := .fields #[.none, .bool false, .ref s.heap.objs.size, rawInt 0, .none, .none] }) rfl
    rw [hz] at this; exact this
  exact ⟨⟨_, he, rfl⟩, h _ he ⟨_, Heap.get?_push_of_some _ (Heap.get?_push_size _ rfl), rfl, rfl⟩ (by rw [Heap.size_push, hz]) fun b o x => Heap.get?_push_of_some _ (Heap.get?_push_of_some _ x)⟩
theorem enum_endT {e it t : Addr} {i : Nat} {items : Array Value} {old : Value} {Q : Option Value → Shared → Prop} (hh : A.handled = none) (he : IsEnum s.heap e it i old) (hit : s.heap.IsTupleIter it t i) (ht : s.heap.IsTuple t items) (hx : items[i]? = none)
    (hQ : ∀ h', Heap.ExtBut it s.heap h' → Q none { s with heap := h' }) : wpAny (model prog w) A (pyNext (.ref e)) Q E s := by
  have hT : s.TypeIs (.ref e) "enumerate" := ⟨_, he, rfl⟩
  unfold pyNext
  refine wpAny_bind (wpAny_attempt (wpAny_callSpecial?_slot (name := Str.ofString "__next__") hT F.slot_enumerate_next
    (wpAny_call_entry F.slot_enumerate_next hT F.entry_enumerate_next ?_ (F.args_enumerate_next_1 _))))
  show wpAny _ _ (field (.ref e) 2 >>= _) _ _ _
  refine wpAny_bind (wpAny_field he rfl (x := .ref it) rfl ?_)
  refine wpAny_bind (wpAny_nextOf_tuple_end (A := A.in1) hh hit ht hx fun h' x he' hx' => ?_)
  obtain ⟨o, ho, hc⟩ := hx'
  refine wpAny_bind (wpAny_isInstance (T := "StopIteration") (b := true) ⟨o, ho, hc⟩ isSubtype_stop ?_)
  exact wpAny_pure (hQ _ he')
end
def Itet (K : PySem.W.Frag) (a : Addr) : It :=
  ⟨fun i H => ∃ (xs : List V) (x : V), SqT K H a xs ∧ xs[i]? = some x, fun i H v H' => ∃ T x, v = .ref T ∧ H T = none ∧ H' = upd H T (.tup [.int (i : Nat), x]) ∧ ∀ xs, SqT K H a xs → xs[i]? = some x, fun i H => ∃ xs : List V, SqT K H a xs ∧ xs.length ≤ i⟩
theorem turn_enumT {P : Program} {w : World} {K : PySem.W.Frag} {elts : List Expr} {kk : Nat} {tpos : Pos} (a e it : Addr) :
    Turn P w K (.Tuple elts kk tpos) (Itet K a) [e, it] e (fun i h => (∃ old, IsEnum h e it ((i : Nat) : Int) old) ∧ h.IsTupleIter it a i ∧ e ≠ it ∧ e ≠ a ∧ a ≠ it) where
  mem := by simp
  obj := fun i h st b hb => by
    obtain ⟨⟨old, he⟩, ⟨o, ho, hc, hd⟩, _⟩ := st
    have e' : b = e ∨ b = it := by simpa using hb
    rcases e' with z | z
    · rw [z]; exact ⟨_, he, fun v q => nomatch q⟩
    · rw [z]; exact ⟨o, ho, fun v q => by rw [hd] at q; cases q⟩
  keep := fun i h h' st k => let ⟨⟨old, he⟩, hi, hne⟩ := st; ⟨⟨old, k e (by simp) _ he⟩, hi.at fun o q => k it (by simp) o q, hne⟩
  item := by
    intro X hP hw hK hc i pins s σ H E I hf st hg
    subst hP hw hK
    obtain ⟨⟨old, he⟩, hit, hne, hea, hai⟩ := st
    obtain ⟨xs, x, hq, hx⟩ := hg
    obtain ⟨its, rv, p, hz⟩ := I.tuple hq
    obtain ⟨u, hu, ru⟩ := rv.get hx
    have hel : e < s.heap.objs.size := Heap.lt_size he
    have hil : it < s.heap.objs.size := by obtain ⟨_, q, _⟩ := hit; exact Heap.lt_size q
    have hlt : i < its.toArray.size := by
      have := (List.getElem?_eq_some_iff.mp hu).1
      rw [List.size_toArray]; exact this
    refine wpAny_pyNext_enum_itemD (Draws.tuple (prog := X.prog) (w := X.w) (A := X.A.in1) (I.ok.hd hc) it a hai its.toArray) he ⟨hit, show s.heap.IsTuple a its.toArray from p⟩ hlt hne (by simp [hne, hea]) fun x' h' tk hx' ho hst hT hsz hk => ?_
    obtain rfl : x' = u := by
      have h1 : its.toArray[i]? = some u := by simpa using hu
      have hx' : its.toArray[i]? = some x' := hx'
      rw [h1] at hx'
      exact (Option.some.inj hx').symm
    refine ⟨_, rfl, wpAny_letOwnedTupleGo_enum (s := { s with heap := h', toks := tk + 1 }) ho fun h'' he' sb => ?_⟩
    have hT2 : h''.get? s.heap.objs.size = some { cls := .type "tuple", data := .seq #[.int i tk, x'] } := (sb.2 _ (Nat.ne_of_gt hel)).trans hT
    have new : ObjOk X.prog X.w (upd H s.heap.objs.size (.tup [.int (i : Nat), x])) h'' s.heap.objs.size (.tup [.int (i : Nat), x]) :=
      ⟨by show 2 ≤ sizeLine; decide, [.int i tk, x'], .cons ⟨_, rfl⟩ (.cons ru .nil), ⟨_, hT2, rfl, _, rfl⟩⟩
    have I1 : Inv X pins σ (upd H s.heap.objs.size (.tup [.int (i : Nat), x])) { s with heap := h'', toks := tk + 1 } :=
      I.turnedNew (ch := [e, it]) (fun b ob hb q => (sb.2 b (fun z => hb (by simp [z]))).trans (hk b ob (fun z => hb (by simp [z])) (fun z => hb (by simp [z])) q)) hf (Nat.le_refl _) new
    refine ⟨.ref s.heap.objs.size, _, I1, rfl, ⟨_, x, rfl, I.hok.fresh (Nat.le_refl _), rfl, fun ys hy => by rw [I.tuple_inj hy hq]; exact hx⟩, ⟨⟨x', ?_⟩, hst.1.at fun o q => (sb.2 it (Ne.symm hne)).trans q, hne, hea, hai⟩, fun b hb => ?_⟩
    · have e1 : ((i + 1 : Nat) : Int) = (i : Int) + 1 := by omega
      rw [e1]; exact he'
    · have hb' : b < s.heap.objs.size := by
        have e' : b = e ∨ b = it := by simpa using hb
        rcases e' with z | z
        · rw [z]; exact hel
        · rw [z]; exact hil
      rw [upd_ne (Nat.ne_of_lt hb')]
      exact (hf b hb).1
  done := by
    intro X hP hw hK hc i pins s σ H E I hf st hg
    subst hP hw hK
    obtain ⟨⟨old, he⟩, hit, hne, hea, hai⟩ := st
    obtain ⟨xs, hq, hx⟩ := hg
    obtain ⟨its, rv, p, hz⟩ := I.tuple hq
    obtain ⟨f0, f1, f2, f3, f4, f5⟩ := hf it (by simp)
    have hl := rv.length
    exact enum_endT (I.ok.hd hc) he hit (show s.heap.IsTuple a its.toArray from p) (by simp; omega) fun h' eb => ⟨rfl, I.turned (t' := s.toks) (fun b o hb q => eb b o hb q) f0 f1 f3 f4 f5⟩
  self := fun A i s Q E st h => let ⟨⟨_, he⟩, _⟩ := st; wpAny_pyIter_enum he h
def iEnumT (K : PySem.W.Frag) (ta : TA) : TI := fun σ H R => ta σ H fun vs H1 => ∃ a xs, vs = [.ref a] ∧ SqT K H1 a xs ∧ R (Itet K a) H1
theorem pi_enumT {X : Cx} {e : Expr} {ta : TA} {p pos tpos : Pos} {elts : List Expr} {kk : Nat} (hg : Gl X "enumerate") (hm : X.mg "enumerate" = none) (ha : PA X [e] ta) (hs : starEach [e] X.env = [(false, eval e X.env)] := by rfl) :
    PI X (.Tuple elts kk tpos) (.Call (.Name "enumerate" p) [e] [] pos) (iEnumT X.K ta) := by
  refine ⟨fun pins s σ H R I h => ?_⟩
  refine Call_ (ld_blt I hg hm boot_enumerate (PyProof.Rows.callWith_type1 (thn (ha.run pos pins s σ H _ I h) fun us s1 ⟨vs, H1, I1, r1, q1⟩ => ?_) hs rfl))
  obtain ⟨a, xs, ex, hq, q⟩ := q1
  subst ex
  cases r1 with
  | cons r rr =>
    cases rr
    cases r
    obtain ⟨its, rv, p', hz⟩ := I1.tuple hq
    have ha1 : a < s1.heap.objs.size := p'.lt
    refine call_enum_tuple (show s1.heap.IsTuple a its.toArray from p') fun h' he hit hsz hk => wpAny_pyIter_enum he ?_
    have I2 : Inv X pins σ H1 { s1 with heap := h' } := I1.kept (t' := s1.toks) hk
    refine ⟨s1.heap.objs.size + 1, [s1.heap.objs.size + 1, s1.heap.objs.size], _, _, H1, rfl, I2, turn_enumT a (s1.heap.objs.size + 1) s1.heap.objs.size, ⟨⟨.none, he⟩, hit, Nat.succ_ne_self _, Nat.ne_of_gt (Nat.lt_succ_of_lt ha1), Nat.ne_of_lt ha1⟩, fun b hb => ?_, q⟩
    have e' : b = s1.heap.objs.size + 1 ∨ b = s1.heap.objs.size := by simpa using hb
    have hle : s1.heap.objs.size ≤ b := by
      rcases e' with z | z
      · rw [z]; exact Nat.le_add_right _ _
      · rw [z]; exact Nat.le_refl _
    exact I1.fpOk hle (I1.hok.fresh hle)
theorem enumT_itet {K : PySem.W.Frag} {a : Addr} {xs : List V} : EnumT (Itet K a) (fun H => SqT K H a xs) (enumV xs) where
  go := fun i H ok hi => by rw [enumV_len] at hi; exact ⟨xs, xs[i], ok, by simp [hi]⟩
  yld := fun i H x H' ok hi y => by
    rw [enumV_len] at hi
    obtain ⟨T, v, e, hT, e2, hx⟩ := y
    refine ⟨T, [.int (i : Nat), v], ?_, e, hT, e2⟩
    have := hx xs ok
    unfold enumV
    rw [List.getElem?_map, List.getElem?_zipIdx, this]
    simp
  stop := fun i H ok hi => ⟨xs, ok, by rw [enumV_len] at hi; exact hi⟩
end NM

namespace NM
open PySem PySem.Spec PyProof.Rows L2 HotX L2H
/-! ### the widest two -/
def dW (M : PM) (p : Str × Str) : Int := dist (ptOf M p.1) (ptOf M p.2)
def wK (M : PM) (p : Str × Str) : List Key := [Sum.inl (0 - dW M p), Sum.inr p.1, Sum.inr p.2]
/-- the pairs of marks, in their order, of the first i -/
def preW (L : List Str) : Nat → List (Str × Str)
  | 0 => []
  | i + 1 => preW L i ++ (match L[i]? with | some n => (L.drop (i + 1)).map fun m => (n, m) | none => [])
theorem preW_succ {L : List Str} {i : Nat} {n : Str} (h : L[i]? = some n) : preW L (i + 1) = preW L i ++ (L.drop (i + 1)).map fun m => (n, m) := by
  show preW L i ++ (match L[i]? with | some n => (L.drop (i + 1)).map fun m => (n, m) | none => []) = _
  rw [h]
def IsWide (M : PM) (h : Str) (S : List (Str × Str)) (a b : Str) (d : Int) : Prop :=
  (d = 0 ∧ a = h ∧ b = h ∧ ∀ p ∈ S, dW M p ≤ 0) ∨ (0 < d ∧ ∃ S1 S2, S = S1 ++ (a, b) :: S2 ∧ dW M (a, b) = d ∧ (∀ p ∈ S1, dW M p < d) ∧ ∀ p ∈ S2, dW M p ≤ d)
section
variable {M : PM} {h a b : Str} {S : List (Str × Str)} {d : Int}
theorem wide_start : IsWide M h [] h h 0 := .inl ⟨rfl, rfl, rfl, fun p hp => nomatch hp⟩
theorem IsWide.nonneg (w : IsWide M h S a b d) : 0 ≤ d := by
  rcases w with ⟨e, _⟩ | ⟨e, _⟩ <;> omega
theorem IsWide.le (w : IsWide M h S a b d) : ∀ p ∈ S, dW M p ≤ d := fun p hp => by
  rcases w with ⟨e, _, _, al⟩ | ⟨e, S1, S2, rfl, e2, l1, l2⟩
  · have := al p hp; omega
  · rcases List.mem_append.mp hp with z | z
    · have := l1 p z; omega
    · rcases List.mem_cons.mp z with z | z
      · rw [z, e2]; exact Int.le_refl _
      · exact l2 p z
theorem IsWide.gt (w : IsWide M h S a b d) {p : Str × Str} (c : d < dW M p) : IsWide M h (S ++ [p]) p.1 p.2 (dW M p) := by
  have h0 := w.nonneg
  refine .inr ⟨by omega, S, [], by simp, rfl, fun q hq => ?_, fun q hq => nomatch hq⟩
  have := w.le q hq
  omega
theorem IsWide.keep (w : IsWide M h S a b d) {p : Str × Str} (c : ¬ d < dW M p) : IsWide M h (S ++ [p]) a b d := by
  rcases w with ⟨e, e1, e2, al⟩ | ⟨e, S1, S2, rfl, e2, l1, l2⟩
  · refine .inl ⟨e, e1, e2, fun q hq => ?_⟩
    rcases List.mem_append.mp hq with z | z
    · exact al q z
    · rw [List.mem_singleton.mp z]; omega
  · refine .inr ⟨e, S1, S2 ++ [p], by simp, e2, l1, fun q hq => ?_⟩
    rcases List.mem_append.mp hq with z | z
    · exact l2 q z
    · rw [List.mem_singleton.mp z]; omega
def ltP2 (p q : Str × Str) : Bool := ltKs [Sum.inr p.1, Sum.inr p.2] [Sum.inr q.1, Sum.inr q.2]
theorem ltP2_fst {p q : Str × Str} (h : ltS p.1 q.1 = true) : ltP2 p q = true := by
  unfold ltP2 ltKs
  rw [if_neg (fun e => by rw [Sum.inr.inj e, ltS_irrefl] at h; cases h)]
  exact h
theorem ltP2_snd {n x y : Str} (h : ltS x y = true) : ltP2 (n, x) (n, y) = true := by
  unfold ltP2 ltKs
  rw [if_pos rfl]
  unfold ltKs
  rw [if_neg (fun e => by rw [show x = y from Sum.inr.inj e, ltS_irrefl] at h; cases h)]
  exact h
theorem pre_fst {L : List Str} : ∀ {i : Nat} {p : Str × Str}, p ∈ preW L i → ∃ j < i, L[j]? = some p.1 ∧ p.2 ∈ L
  | 0, p, hp => nomatch hp
  | i + 1, p, hp => by
    rcases List.mem_append.mp hp with z | z
    · obtain ⟨j, hj, e⟩ := pre_fst z
      exact ⟨j, by omega, e⟩
    · cases e : L[i]? with
      | none => rw [e] at z; exact nomatch z
      | some n =>
        rw [e] at z
        obtain ⟨m, hm, rfl⟩ := List.mem_map.mp z
        exact ⟨i, by omega, e, List.mem_of_mem_drop hm⟩
theorem pre_lex {L : List Str} (hs : L.Pairwise (fun a b => ltS a b = true)) : ∀ i : Nat, (preW L i).Pairwise (fun p q => ltP2 p q = true)
  | 0 => .nil
  | i + 1 => by
    cases e : L[i]? with
    | none =>
      show (preW L i ++ (match L[i]? with | some n => (L.drop (i + 1)).map fun m => (n, m) | none => [])).Pairwise _
      rw [e, List.append_nil]
      exact pre_lex hs i
    | some n =>
      rw [preW_succ e]
      refine List.pairwise_append.mpr ⟨pre_lex hs i, ?_, fun p hp q hq => ?_⟩
      · rw [List.pairwise_map]
        exact (hs.drop).imp fun h => ltP2_snd h
      · obtain ⟨m, _, rfl⟩ := List.mem_map.mp hq
        obtain ⟨j, hj, ej, _⟩ := pre_fst hp
        have hi := (List.getElem?_eq_some_iff.mp e)
        have hjj := (List.getElem?_eq_some_iff.mp ej)
        obtain ⟨hi1, hi2⟩ := hi
        obtain ⟨hj1, hj2⟩ := hjj
        have := List.pairwise_iff_getElem.mp hs j i hj1 hi1 hj
        rw [hj2, hi2] at this
        exact ltP2_fst this
theorem wide_law (hS : S.Pairwise (fun p q => ltP2 p q = true)) (w : IsWide M h S a b d) {p0 : Str × Str} (h0 : p0 ∈ S) (hmin : ∀ p ∈ S, ltKs (wK M p) (wK M p0) = false) (hd : ∀ p, 0 ≤ dW M p) :
    (0 - dW M p0 < 0 → a = p0.1 ∧ b = p0.2 ∧ d = dW M p0) ∧ (¬ 0 - dW M p0 < 0 → a = h ∧ b = h ∧ d = 0) := by
  have hp := hd p0
  have hle := w.le p0 h0
  rcases w with ⟨e, e1, e2, al⟩ | ⟨e, S1, S2, rfl, e2, l1, l2⟩
  · have := al p0 h0
    exact ⟨fun z => by omega, fun _ => ⟨e1, e2, e⟩⟩
  · have hm := hmin (a, b) (List.mem_append_right _ (List.mem_cons_self ..))
    unfold wK ltKs at hm
    rw [e2] at hm
    have ed : dW M p0 = d := by
      by_cases c : dW M p0 = d
      · exact c
      · rw [if_neg (fun z => c (by have := Sum.inl.inj z; omega))] at hm
        have hm : decide (0 - d < 0 - dW M p0) = false := hm
        have := of_decide_eq_false hm
        omega
    rw [ed, if_pos rfl] at hm
    have hab : p0 = (a, b) := by
      rcases List.mem_append.mp h0 with z | z
      · have := l1 p0 z; omega
      · rcases List.mem_cons.mp z with z | z
        · exact z
        · have := (List.pairwise_cons.mp (List.pairwise_append.mp hS).2.1).1 p0 z
          unfold ltP2 at this
          rw [this] at hm
          cases hm
    subst hab
    exact ⟨fun _ => ⟨rfl, rfl, ed.symm⟩, fun z => by omega⟩
end
theorem dW_nonneg (M : PM) (p : Str × Str) : 0 ≤ dW M p := dist_nonneg _ _
theorem cut_from {xs : List V} {i : Nat} (h : i < xs.length) : cutV xs (some ((i : Int) + 1)) none = xs.drop (i + 1) := by
  have e1 : HT.sIx xs.length 0 (some ((i : Int) + 1)) = i + 1 := by
    unfold HT.sIx
    simp only
    split <;> omega
  have e2 : HT.sIx xs.length xs.length none = xs.length := rfl
  unfold cutV
  rw [e1, e2]
  exact List.take_of_length_le (by rw [List.length_drop]; omega)
theorem take_map_snoc {L : List Str} {n m : Str} {j : Nat} (h : L[j]? = some m) : ((L.take (j + 1)).map fun x => (n, x)) = ((L.take j).map fun x => (n, x)) ++ [(n, m)] := by
  rw [List.take_add_one, h, List.map_append]
  rfl
/-- x in a list whose items are data of any depth -/
def rInL (K : PySem.W.Frag) : R2 := fun x y H Q => ∃ d ds, Dp K H x d ∧ Dp K H y (.list ds) ∧ SeqAt.shaped d = true ∧ SeqAt.shaped (.list ds) = true ∧ Q (.bl (ds.any fun z => PyData.eqv z d)) H
theorem op_inL {X : Cx} (hu : X.A.units + 65 < cLine) : OpR X (compareOp .In) (rInL X.K) := by
  intro pins s σ H x y v u Q I rx ry h
  obtain ⟨d, ds, hd, he, sd, se, q⟩ := h
  obtain ⟨as, r1⟩ := Dp.reads I d x v hd rx
  obtain ⟨bs, r2⟩ := Dp.reads I (.list ds) y u he ry
  exact SeqAt.in_list_reads r2 r1 (SeqAt.canLay_of_shaped se) (SeqAt.canLay_of_shaped sd) (room_in_shaped sd hu) ⟨.bl _, H, I, rfl, q⟩
theorem tree_not_none (M : PM) : ∀ (z : Nat) (L : List Str), PyData.eqv (treeD M z L) .none = false
  | 0, _ => rfl
  | z + 1, L => by
    rw [treeD_succ]
    split
    · rfl
    · exact tree_not_none M z L
theorem ends_all {M : PM} (ok : PMOk M) : (((headsOf (nearR M 13) (namesOf M)).map fun h => endsT M 13 (rowOf (nearR M 13) (namesOf M) h)).flatten).Perm (namesOf M) :=
  (perm_flat _ _ _ fun h _ => ends_perm ok.nodup (z := 13) (by decide)).trans (rows_flat (nearR_symm M 13) ok.nodup)
/-- the tuples of pairs -/
def WRows (H : Hp) (M : PM) (ts : List Addr) (S : List (Str × Str)) : Prop := Paired (fun t p => H t = some (.tup [.int (0 - dW M p), .str p.1, .str p.2])) ts S
theorem WRows.keepT {H H' : Hp} {M : PM} {ts : List Addr} {S : List (Str × Str)} (h : WRows H M ts S) (k : KeepT H H') : WRows H' M ts S := Paired.mapP h fun _ _ z => k _ _ z
theorem WRows.app {H : Hp} {M : PM} : ∀ {ts us : List Addr} {S U : List (Str × Str)}, WRows H M ts S → WRows H M us U → WRows H M (ts ++ us) (S ++ U)
  | _, _, _, _, .nil, h => h
  | _, _, _, _, .cons r t, h => .cons r (WRows.app t h)
theorem WRows.mem {H : Hp} {M : PM} : ∀ {ts : List Addr} {S : List (Str × Str)} {t : Addr}, WRows H M ts S → t ∈ ts → ∃ p ∈ S, H t = some (.tup [.int (0 - dW M p), .str p.1, .str p.2])
  | _, _, _, .nil, h => nomatch h
  | _, _, _, .cons r t, h => by
    rcases List.mem_cons.mp h with e | h
    · rw [e]; exact ⟨_, List.mem_cons_self .., r⟩
    · obtain ⟨p, hp, e⟩ := WRows.mem t h
      exact ⟨p, List.mem_cons_of_mem _ hp, e⟩
theorem WRows.mem' {H : Hp} {M : PM} : ∀ {ts : List Addr} {S : List (Str × Str)} {p : Str × Str}, WRows H M ts S → p ∈ S → ∃ t ∈ ts, H t = some (.tup [.int (0 - dW M p), .str p.1, .str p.2])
  | _, _, _, .nil, h => nomatch h
  | _, _, _, .cons r t, h => by
    rcases List.mem_cons.mp h with e | h
    · rw [e]; exact ⟨_, List.mem_cons_self .., r⟩
    · obtain ⟨p, hp, e⟩ := WRows.mem' t h
      exact ⟨p, List.mem_cons_of_mem _ hp, e⟩
theorem wrows_of {H : Hp} {M : PM} {n : Str} : ∀ {L : List Str} {ys : List V}, Paired (fun x y => ∃ m t, x = V.str m ∧ y = V.ref t ∧ H t = some (.tup [.int (0 - dW M (n, m)), .str n, .str m])) (L.map V.str) ys → ∃ ts, ys = ts.map V.ref ∧ WRows H M ts (L.map fun m => (n, m))
  | [], _, .nil => ⟨[], rfl, .nil⟩
  | m :: L, _, .cons r t => by
    obtain ⟨m', a, e1, rfl, h⟩ := r
    cases e1
    obtain ⟨ps, rfl, p⟩ := wrows_of t
    exact ⟨a :: ps, rfl, .cons h p⟩
def wD (M : PM) (p : Str × Str) : PyData := .tuple [.int (0 - dW M p), .str p.1, .str p.2]
theorem wrows_dp {K : PySem.W.Frag} {H : Hp} {M : PM} : ∀ {ts : List Addr} {S : List (Str × Str)}, WRows H M ts S → DpAll K H (ts.map V.ref) (S.map (wD M))
  | _, _, .nil => .nil
  | _, _, .cons h t => .cons (.tup (sqT h) (.cons (.int _) (.cons (.str _) (.cons (.str _) .nil)))) (wrows_dp t)
theorem lay_wrows {M : PM} {S : List (Str × Str)} (h : ∀ p ∈ S, nameS p.1 = true ∧ nameS p.2 = true) : Lay 2 (.list (S.map (wD M))) := lay_list (n := 1) (lay_map fun p hp => lay_tuple (n := 0) (lay_cons (lay_int _) (lay_cons (lay_str (nameS_ok (h p hp).1)) (lay_cons (lay_str (nameS_ok (h p hp).2)) lay_nil))))
theorem wkeys {H : Hp} {M : PM} {t : Addr} {p : Str × Str} (h : H t = some (.tup [.int (0 - dW M p), .str p.1, .str p.2])) : keysAt H (.ref t) = wK M p := keysAt_tup (ks := wK M p) h
theorem wide_lay {a b : Str} {d : Int} (ha : nameS a = true) (hb : nameS b = true) : Lay 1 (.tuple [.str a, .str b, .int d]) := lay_tuple (n := 0) (lay_cons (lay_str (nameS_ok ha)) (lay_cons (lay_str (nameS_ok hb)) (lay_cons (lay_int _) lay_nil)))
theorem eqv_nilW {ds : List PyData} : PyData.eqv (.list ds) (.list []) = ds.isEmpty := by cases ds <;> rfl
/-- the least of the pairs -/
def IsLeastW (M : PM) (S : List (Str × Str)) (p0 : Str × Str) : Prop := p0 ∈ S ∧ ∀ p ∈ S, ltKs (wK M p) (wK M p0) = false
theorem leastW_uniq {M : PM} {S : List (Str × Str)} {p q : Str × Str} (hp : IsLeastW M S p) (hq : IsLeastW M S q) : p = q := by
  have h1 := hp.2 q hq.1
  have h2 := hq.2 p hp.1
  rcases ltKs_tri (wK M p) (wK M q) with e | e | e
  · unfold wK at e
    simp only [List.cons.injEq, Sum.inr.injEq, and_true] at e
    exact Prod.ext e.2.1 e.2.2
  · rw [e] at h2; cases h2
  · rw [e] at h1; cases h1
theorem sort_head {H : Hp} {M : PM} {ts : List Addr} {S : List (Str × Str)} {ys : List V} (hw : WRows H M ts S) (h0 : 0 < S.length) (pm : ys.Perm (ts.map V.ref)) (pw : ys.Pairwise (fun x y => ltKs (keysAt H y) (keysAt H x) = false)) :
    ∃ t0 p0 rest, ys = .ref t0 :: rest ∧ H t0 = some (.tup [.int (0 - dW M p0), .str p0.1, .str p0.2]) ∧ IsLeastW M S p0 := by
  have lts : ts.length = S.length := paired_len hw
  have ly := pm.length_eq
  rw [List.length_map] at ly
  cases ys with
  | nil => rw [List.length_nil] at ly; omega
  | cons y rest =>
    obtain ⟨t0, ht0, rfl⟩ := List.mem_map.mp (pm.mem_iff.mp (List.mem_cons_self ..))
    obtain ⟨p0, hp0, e0⟩ := hw.mem ht0
    refine ⟨t0, p0, rest, rfl, e0, hp0, fun p hp => ?_⟩
    obtain ⟨t, ht, e⟩ := hw.mem' hp
    have hy : V.ref t ∈ V.ref t0 :: rest := pm.mem_iff.mpr (List.mem_map.mpr ⟨t, ht, rfl⟩)
    rw [← wkeys e, ← wkeys e0]
    rcases List.mem_cons.mp hy with z | z
    · rw [z]; exact ltKs_irrefl _
    · exact (List.pairwise_cons.mp pw).1 _ z
theorem wrows_keys {H : Hp} {M : PM} {ts : List Addr} {S : List (Str × Str)} (hw : WRows H M ts S) : (∀ x ∈ ts.map V.ref, (∃ t, x = V.ref t ∧ H t = some (.tup ((keysAt H x).map kV))) ∧ ∃ y r, keysAt H x = y :: r ∧ y.isLeft = true) ∧ (∀ x ∈ ts.map V.ref, ∀ y ∈ ts.map V.ref, Alike (keysAt H x) (keysAt H y)) := by
  refine ⟨fun x hx => ?_, fun x hx y hy => ?_⟩
  · obtain ⟨t, ht, rfl⟩ := List.mem_map.mp hx
    obtain ⟨p, _, e⟩ := hw.mem ht
    rw [wkeys e]
    exact ⟨⟨t, rfl, e⟩, _, _, rfl, rfl⟩
  · obtain ⟨t, ht, rfl⟩ := List.mem_map.mp hx
    obtain ⟨p, _, e⟩ := hw.mem ht
    obtain ⟨u, hu, rfl⟩ := List.mem_map.mp hy
    obtain ⟨q, _, e2⟩ := hw.mem hu
    rw [wkeys e, wkeys e2]
    exact ⟨rfl, rfl, rfl, trivial⟩
theorem preW_len (L : List Str) : ∀ i : Nat, (preW L i).length ≤ i * L.length
  | 0 => Nat.zero_le _
  | i + 1 => by
    have ih := preW_len L i
    cases e : L[i]? with
    | none =>
      have : preW L (i + 1) = preW L i := by
        show preW L i ++ (match L[i]? with | some n => (L.drop (i + 1)).map fun m => (n, m) | none => []) = _
        rw [e, List.append_nil]
      rw [this, Nat.succ_mul]
      omega
    | some n =>
      rw [preW_succ e, List.length_append, List.length_map, List.length_drop, Nat.succ_mul]
      omega
/-- what is due -/
def DueW (M : PM) (h : Str) (S : List (Str × Str)) (a b : Str) (d : Int) : Prop :=
  (S = [] ∧ a = h ∧ b = h ∧ d = 0) ∨ ∃ p0, IsLeastW M S p0 ∧ ((0 - dW M p0 < 0 ∧ a = p0.1 ∧ b = p0.2 ∧ d = dW M p0) ∨ (¬ 0 - dW M p0 < 0 ∧ a = h ∧ b = h ∧ d = 0))
theorem due_wide {M : PM} {h a b a' b' : Str} {S : List (Str × Str)} {d d' : Int} (hS : S.Pairwise (fun p q => ltP2 p q = true)) (w : IsWide M h S a b d) (u : DueW M h S a' b' d') : a' = a ∧ b' = b ∧ d' = d := by
  rcases u with ⟨rfl, rfl, rfl, rfl⟩ | ⟨p0, l0, u⟩
  · rcases w with ⟨e, e1, e2, _⟩ | ⟨_, S1, S2, e, _⟩
    · exact ⟨e1.symm, e2.symm, e.symm⟩
    · exact absurd e (by simp)
  · obtain ⟨h1, h2⟩ := wide_law hS w l0.1 l0.2 (dW_nonneg M)
    rcases u with ⟨c, rfl, rfl, rfl⟩ | ⟨c, rfl, rfl, rfl⟩
    · obtain ⟨e1, e2, e3⟩ := h1 c
      exact ⟨e1.symm, e2.symm, e3.symm⟩
    · obtain ⟨e1, e2, e3⟩ := h2 c
      exact ⟨e1.symm, e2.symm, e3.symm⟩
end NM

namespace NM
open PySem PySem.Spec PyProof.Rows L2 HotX L2H
open PySem.W (dataLt alike alikeAll)
/-! ### lists of names, compared -/
def ltN : List Str → List Str → Bool
  | [], [] => false
  | [], _ :: _ => true
  | _ :: _, [] => false
  | a :: r, b :: t => if a = b then ltN r t else ltS a b
theorem ltN_irrefl : ∀ l : List Str, ltN l l = false
  | [] => rfl
  | a :: r => by show (if a = a then ltN r r else ltS a a) = false; rw [if_pos rfl]; exact ltN_irrefl r
theorem ltN_tri : ∀ a b : List Str, a = b ∨ ltN a b = true ∨ ltN b a = true
  | [], [] => .inl rfl
  | [], _ :: _ => .inr (.inl rfl)
  | _ :: _, [] => .inr (.inr rfl)
  | a :: r, b :: t => by
    show _ ∨ (if a = b then ltN r t else ltS a b) = true ∨ (if b = a then ltN t r else ltS b a) = true
    by_cases e : a = b
    · subst e
      rw [if_pos rfl, if_pos rfl]
      rcases ltN_tri r t with h | h | h
      · exact .inl (by rw [h])
      · exact .inr (.inl h)
      · exact .inr (.inr h)
    · rw [if_neg e, if_neg (fun z => e z.symm)]
      rcases ltS_tri a b with h | h | h
      · exact absurd h e
      · exact .inr (.inl h)
      · exact .inr (.inr h)
theorem ltN_trans : ∀ {a b c : List Str}, ltN a b = true → ltN b c = true → ltN a c = true
  | [], [], _, h, _ => by cases h
  | [], _ :: _, [], _, h => by cases h
  | [], _ :: _, _ :: _, _, _ => rfl
  | _ :: _, [], _, h, _ => by cases h
  | _ :: _, _ :: _, [], _, h => by cases h
  | a :: r, b :: t, c :: u, h1, h2 => by
    have h1 : (if a = b then ltN r t else ltS a b) = true := h1
    have h2 : (if b = c then ltN t u else ltS b c) = true := h2
    show (if a = c then ltN r u else ltS a c) = true
    by_cases e1 : a = b
    · subst e1
      rw [if_pos rfl] at h1
      by_cases e2 : a = c
      · subst e2
        rw [if_pos rfl] at h2 ⊢
        exact ltN_trans h1 h2
      · rw [if_neg e2] at h2 ⊢
        exact h2
    · rw [if_neg e1] at h1
      by_cases e2 : b = c
      · subst e2
        rw [if_neg e1]
        exact h1
      · rw [if_neg e2] at h2
        have h3 := ltS_trans h1 h2
        rw [if_neg (fun e => by rw [e, ltS_irrefl] at h3; cases h3)]
        exact h3
/-- no greater -/
def leN (a b : List Str) : Prop := ltN b a = false
theorem leN_refl (a : List Str) : leN a a := ltN_irrefl a
theorem leN_antisymm {a b : List Str} (h1 : leN a b) (h2 : leN b a) : a = b := by
  unfold leN at h1 h2
  rcases ltN_tri a b with h | h | h
  · exact h
  · rw [h] at h2; cases h2
  · rw [h] at h1; cases h1
theorem leN_trans {a b c : List Str} (h1 : leN a b) (h2 : leN b c) : leN a c := by
  unfold leN at *
  cases e : ltN c a with
  | false => rfl
  | true =>
    rcases ltN_tri a b with h | h | h
    · rw [h] at e; rw [e] at h2; cases h2
    · rw [ltN_trans e h] at h2; cases h2
    · rw [h] at h1; cases h1
theorem leN_snoc {x : Str} : ∀ {a b : List Str}, a.length = b.length → leN a b → leN (a ++ [x]) (b ++ [x])
  | [], [], _, _ => leN_refl _
  | [], _ :: _, e, _ => by simp at e
  | _ :: _, [], e, _ => by simp at e
  | a :: r, b :: t, e, h => by
    have h : (if b = a then ltN t r else ltS b a) = false := h
    show (if b = a then ltN (t ++ [x]) (r ++ [x]) else ltS b a) = false
    by_cases c : b = a
    · rw [if_pos c] at h ⊢
      exact leN_snoc (by simpa using e) h
    · rw [if_neg c] at h ⊢
      exact h
theorem leN_cons {x : Str} {a b : List Str} (h : leN a b) : leN (x :: a) (x :: b) := by
  show (if x = x then ltN b a else ltS x x) = false
  rw [if_pos rfl]
  exact h
theorem leN_lt {x y : Str} {a b : List Str} (h : ltS x y = true) : leN (x :: a) (y :: b) := by
  show (if y = x then ltN b a else ltS y x) = false
  rw [if_neg (fun e => by rw [e, ltS_irrefl] at h; cases h)]
  exact ltS_asym h
theorem dataLt_names : ∀ a b : List Str, PyProof.Rows.lexLt PyProof.Rows.itemOrd (PySem.W.keyToksAll (a.map PyData.str)) (PySem.W.keyToksAll (b.map PyData.str)) = ltN a b
  | [], [] => by
    have e : PyProof.Rows.lexLt PyProof.Rows.itemOrd (PySem.W.keyToksAll []) (PySem.W.keyToksAll []) = false := PyProof.Rows.lex_irrefl _
    exact e
  | [], _ :: _ => rfl
  | _ :: _, [] => rfl
  | a :: r, b :: t => by
    rw [List.map_cons, List.map_cons]
    show _ = (if a = b then ltN r t else ltS a b)
    by_cases e : a = b
    · subst e
      rw [if_pos rfl, PySem.W.dataLt_all_yes (by simp [alike]) (by simp [PyData.eqv])]
      exact dataLt_names r t
    · rw [if_neg e, PySem.W.dataLt_all_no (by simp [alike]) (by simp [PyData.eqv, e])]
      exact PySem.W.dataLt_str a b
def namesD (l : List Str) : PyData := .list (l.map .str)
theorem dataLt_namesD (a b : List Str) : dataLt (namesD a) (namesD b) = ltN a b := by
  unfold namesD
  rw [PySem.W.dataLt_list]
  exact dataLt_names a b
theorem alike_names : ∀ a b : List Str, a.length = b.length → alikeAll (a.map PyData.str) (b.map PyData.str) = true
  | [], _, _ => by cases ‹List Str› <;> rfl
  | _ :: _, [], e => by simp at e
  | a :: r, b :: t, e => by
    rw [List.map_cons, List.map_cons]
    show (alike (.str a) (.str b) && alikeAll _ _) = true
    rw [alike_names r t (by simpa using e)]
    rfl
/-! ### ways from mark to mark -/
section
variable {R : Str → Str → Bool} {L : List Str}
/-- p leads from a to b in k steps -/
inductive Pth (R : Str → Str → Bool) (L : List Str) : List Str → Str → Str → Nat → Prop
  | one {a : Str} (h : a ∈ L) : Pth R L [a] a a 0
  | cons {a b c : Str} {p : List Str} {k : Nat} (h : a ∈ L) (r : R a b = true) (q : Pth R L p b c k) : Pth R L (a :: p) a c (k + 1)
theorem Pth.left {p : List Str} {a b : Str} {k : Nat} (h : Pth R L p a b k) : a ∈ L := by cases h <;> assumption
theorem Pth.right {p : List Str} {a b : Str} {k : Nat} (h : Pth R L p a b k) : b ∈ L := by
  induction h with
  | one h => exact h
  | cons _ _ _ ih => exact ih
theorem Pth.len {p : List Str} {a b : Str} {k : Nat} (h : Pth R L p a b k) : p.length = k + 1 := by
  induction h with
  | one => rfl
  | cons _ _ _ ih => rw [List.length_cons, ih]
theorem Pth.last {p : List Str} {a b : Str} {k : Nat} (h : Pth R L p a b k) : ∃ p', p = p' ++ [b] := by
  induction h with
  | one => exact ⟨[], rfl⟩
  | cons _ _ _ ih =>
    obtain ⟨p', e⟩ := ih
    exact ⟨_ :: p', by rw [e]; rfl⟩
theorem Pth.snoc {p : List Str} {a b c : Str} {k : Nat} (h : Pth R L p a b k) (hc : c ∈ L) (r : R b c = true) : Pth R L (p ++ [c]) a c (k + 1) := by
  induction h with
  | one h => exact .cons h r (.one hc)
  | cons h r' _ ih => exact .cons h r' (ih r)
theorem Pth.unsnoc {p : List Str} {a c : Str} {k : Nat} (h : Pth R L p a c (k + 1)) : ∃ p' b, p = p' ++ [c] ∧ Pth R L p' a b k ∧ R b c = true := by
  induction k generalizing p a with
  | zero =>
    cases h with
    | cons h r q =>
      cases q with
      | one hc => exact ⟨[a], a, rfl, .one h, r⟩
  | succ k ih =>
    cases h with
    | cons h r q =>
      obtain ⟨p', b, e, q', r'⟩ := ih q
      exact ⟨a :: p', b, by rw [e]; rfl, .cons h r q', r'⟩
theorem Pth.rev (hR : ∀ a b, R a b = R b a) {p : List Str} {a b : Str} {k : Nat} (h : Pth R L p a b k) : Pth R L p.reverse b a k := by
  induction h with
  | one h => exact .one h
  | cons h r _ ih =>
    rw [List.reverse_cons]
    exact ih.snoc h (by rw [hR]; exact r)
theorem Pth.of_rch {a b : Str} (h : Rch R L a b) : ∃ p k, Pth R L p a b k := by
  induction h with
  | refl h => exact ⟨_, _, .one h⟩
  | step _ hb r ih =>
    obtain ⟨p, k, q⟩ := ih
    exact ⟨_, _, q.snoc hb r⟩
/-- b is k steps off, no less -/
def IsD (R : Str → Str → Bool) (L : List Str) (a b : Str) (k : Nat) : Prop := (∃ p, Pth R L p a b k) ∧ ∀ j p, Pth R L p a b j → k ≤ j
theorem IsD.uniq {a b : Str} {k j : Nat} (h1 : IsD R L a b k) (h2 : IsD R L a b j) : k = j := by
  obtain ⟨p, hp⟩ := h1.1
  obtain ⟨q, hq⟩ := h2.1
  exact Nat.le_antisymm (h1.2 j q hq) (h2.2 k p hp)
theorem IsD.symm (hR : ∀ a b, R a b = R b a) {a b : Str} {k : Nat} (h : IsD R L a b k) : IsD R L b a k := by
  obtain ⟨⟨p, hp⟩, hm⟩ := h
  exact ⟨⟨_, hp.rev hR⟩, fun j q hq => hm j _ (hq.rev hR)⟩
theorem isD_self {a : Str} (h : a ∈ L) : IsD R L a a 0 := ⟨⟨_, .one h⟩, fun j _ _ => Nat.zero_le j⟩
theorem isD_zero {a b : Str} (h : IsD R L a b 0) : a = b := by
  obtain ⟨⟨p, hp⟩, _⟩ := h
  cases hp
  rfl
theorem isD_of {p : List Str} {a b : Str} : ∀ {k : Nat}, Pth R L p a b k → ∃ j ≤ k, IsD R L a b j := by
  intro k
  induction k using Nat.strongRecOn generalizing p with
  | _ k ih =>
    intro h
    by_cases c : ∀ j q, Pth R L q a b j → k ≤ j
    · exact ⟨k, Nat.le_refl _, ⟨p, h⟩, c⟩
    · obtain ⟨j, c⟩ := Classical.not_forall.mp c
      obtain ⟨q, c⟩ := Classical.not_forall.mp c
      obtain ⟨hq, c⟩ := Classical.not_imp.mp c
      obtain ⟨i, hi, hd⟩ := ih j (by omega) hq
      exact ⟨i, by omega, hd⟩
/-- one step ahead of the end -/
theorem IsD.pred {a c : Str} {k : Nat} (h : IsD R L a c (k + 1)) {p : List Str} (hp : Pth R L p a c (k + 1)) : ∃ p' b, p = p' ++ [c] ∧ Pth R L p' a b k ∧ R b c = true ∧ IsD R L a b k := by
  obtain ⟨p', b, e, q, r⟩ := hp.unsnoc
  refine ⟨p', b, e, q, r, ⟨p', q⟩, fun j q2 hq2 => ?_⟩
  have := h.2 _ _ (hq2.snoc hp.right r)
  omega
theorem IsD.next {a b c : Str} {k : Nat} (h : IsD R L a b k) (hc : c ∈ L) (r : R b c = true) (hno : ∀ j ≤ k, ¬ IsD R L a c j) : IsD R L a c (k + 1) := by
  obtain ⟨⟨p, hp⟩, _⟩ := h
  obtain ⟨j, hj, hd⟩ := isD_of (hp.snoc hc r)
  by_cases e : j = k + 1
  · rw [← e]; exact hd
  · exact absurd hd (hno j (by omega))
/-- each number of steps up to it is taken by some -/
theorem IsD.below {a b : Str} : ∀ {k : Nat}, IsD R L a b k → ∀ j ≤ k, ∃ c, IsD R L a c j
  | 0, h, j, hj => by
    obtain rfl : j = 0 := by omega
    exact ⟨b, h⟩
  | k + 1, h, j, hj => by
    by_cases e : j = k + 1
    · rw [e]; exact ⟨b, h⟩
    · obtain ⟨p, hp⟩ := h.1
      obtain ⟨_, c, _, _, _, hd⟩ := h.pred hp
      exact hd.below j (by omega)
/-! ### the first of the shortest -/
def IsLst (R : Str → Str → Bool) (L : List Str) (a b : Str) (k : Nat) (p : List Str) : Prop := Pth R L p a b k ∧ ∀ q, Pth R L q a b k → leN p q
theorem IsLst.uniq {a b : Str} {k : Nat} {p q : List Str} (h1 : IsLst R L a b k p) (h2 : IsLst R L a b k q) : p = q := leN_antisymm (h1.2 q h2.1) (h2.2 p h1.1)
theorem isLst_self {a : Str} (h : a ∈ L) : IsLst R L a a 0 [a] := ⟨.one h, fun q hq => by cases hq; exact leN_refl _⟩
/-- forth: the least of the next ones that are one step less off -/
theorem lst_forth {a b n0 : Str} {k : Nat} {p : List Str} (ha : a ∈ L) (hd : IsD R L a b (k + 1)) (r : R a n0 = true) (hm : ∀ n, n ∈ L → R a n = true → IsD R L n b k → leS n0 n = true) (h : IsLst R L n0 b k p) : IsLst R L a b (k + 1) (a :: p) := by
  refine ⟨.cons ha r h.1, fun q hq => ?_⟩
  cases hq with
  | @cons _ n _ p' _ _ r' q' =>
    refine leN_cons ?_
    have hdn : IsD R L n b k := ⟨⟨_, q'⟩, fun j q2 hq2 => by
      have := hd.2 _ _ (.cons ha r' hq2)
      omega⟩
    have h1 := hm n q'.left r' hdn
    by_cases e : n0 = n
    · subst e
      exact h.2 _ q'
    · have hlt : ltS n0 n = true := by
        rcases ltS_tri n0 n with z | z | z
        · exact absurd z e
        · exact z
        · unfold leS at h1; rw [z] at h1; cases h1
      obtain ⟨x1, t1, e1⟩ : ∃ x t, p = x :: t ∧ x = n0 := by cases h.1 with
        | one => exact ⟨_, _, rfl, rfl⟩
        | cons => exact ⟨_, _, rfl, rfl⟩
      obtain ⟨x2, t2, e2⟩ : ∃ x t, p' = x :: t ∧ x = n := by cases q' with
        | one => exact ⟨_, _, rfl, rfl⟩
        | cons => exact ⟨_, _, rfl, rfl⟩
      rw [e1.1, e2.1, e1.2, e2.2]
      exact leN_lt hlt
/-- back: the least of those that the least ones lead to -/
theorem lst_back {a v u0 : Str} {k : Nat} {p0 : List Str} {rows : List (List Str)} (hd : IsD R L a v (k + 1)) (h0 : Pth R L p0 a u0 k) (r0 : R u0 v = true)
    (all : ∀ u, IsD R L a u k → R u v = true → ∃ p, IsLst R L a u k p ∧ leN (p0 ++ [v]) (p ++ [v])) : IsLst R L a v (k + 1) (p0 ++ [v]) := by
  obtain ⟨pv, hpv⟩ := hd.1
  refine ⟨h0.snoc hpv.right r0, fun q hq => ?_⟩
  obtain ⟨q', u, e, hq', r, hdu⟩ := IsD.pred hd hq
  obtain ⟨p, hp, hle⟩ := all u hdu r
  rw [e]
  exact leN_trans hle (leN_snoc (by rw [hp.1.len, hq'.len]) (hp.2 q' hq'))
end
end NM
namespace NM
open PySem PySem.Spec PyProof.Rows L2 HotX L2H
/-! ### the size at which two meet -/
def IsMeet (M : PM) (a b : Str) (z : Nat) : Prop := z < 14 ∧ hd (nearR M z) (namesOf M) a = hd (nearR M z) (namesOf M) b ∧ ∀ y < z, ¬ hd (nearR M y) (namesOf M) a = hd (nearR M y) (namesOf M) b
theorem IsMeet.uniq {M : PM} {a b : Str} {y z : Nat} (h1 : IsMeet M a b y) (h2 : IsMeet M a b z) : y = z := by
  rcases Nat.lt_trichotomy y z with h | h | h
  · exact absurd h1.2.1 (h2.2.2 y h)
  · exact h
  · exact absurd h2.2.1 (h1.2.2 z h)
theorem IsMeet.symm {M : PM} {a b : Str} {z : Nat} (h : IsMeet M a b z) : IsMeet M b a z := ⟨h.1, h.2.1.symm, fun y hy e => h.2.2 y hy e.symm⟩
theorem meet_13 {M : PM} (ok : PMOk M) {a b : Str} (ha : a ∈ namesOf M) (hb : b ∈ namesOf M) : hd (nearR M 13) (namesOf M) a = hd (nearR M 13) (namesOf M) b := hd_eq (nearR_symm M 13) (.one ha hb (near_all ok a ha b hb))
theorem IsMeet.dist {M : PM} {a b : Str} {z : Nat} (h : IsMeet M a b z) (ha : a ∈ namesOf M) (hb : b ∈ namesOf M) : ∃ k, IsD (nearR M z) (namesOf M) a b k := by
  obtain ⟨p, k, hp⟩ := Pth.of_rch ((hd_iff (nearR_symm M z) ha hb).mp h.2.1)
  obtain ⟨j, _, hj⟩ := isD_of hp
  exact ⟨j, hj⟩
end NM
namespace NM
open PySem PySem.Spec PyProof.Rows L2 HotX L2H
/-- a dict of the steps to g: of all within k steps -/
def StepsK (R : Str → Str → Bool) (L : List Str) (g : Str) (k : Nat) (fk : List (Key × V)) : Prop := ∀ n, (∀ j, IsD R L n g j → j ≤ k → valV fk (Sum.inr n) = some (.int j)) ∧ ((∀ j ≤ k, ¬ IsD R L n g j) → valV fk (Sum.inr n) = none)
/-- .. of all that reach it -/
def StepsAt (R : Str → Str → Bool) (L : List Str) (g : Str) (fk : List (Key × V)) : Prop := ∀ n, (∀ j, IsD R L n g j → valV fk (Sum.inr n) = some (.int j)) ∧ ((∀ j, ¬ IsD R L n g j) → valV fk (Sum.inr n) = none)
section
variable {R : Str → Str → Bool} {L : List Str} {g : Str}
theorem steps_zero (hg : g ∈ L) : StepsK R L g 0 [(Sum.inr g, .int 0)] := fun n => by
  refine ⟨fun j h hj => ?_, fun h => ?_⟩
  · obtain rfl : j = 0 := by omega
    obtain rfl := isD_zero h
    exact valV_pos rfl
  · refine (valV_neg (fun e => ?_)).trans rfl
    obtain rfl : g = n := Sum.inr.inj e
    exact h 0 (Nat.le_refl _) (isD_self hg)
/-- when none is k steps off, no more are to come -/
theorem steps_done (hR : ∀ a b, R a b = R b a) {k : Nat} {fk : List (Key × V)} (h : StepsK R L g k fk) (hno : ∀ n, ¬ IsD R L n g k) : StepsAt R L g fk := fun n => by
  have le : ∀ j, IsD R L n g j → j ≤ k := fun j hj => by
    by_cases c : j ≤ k
    · exact c
    · obtain ⟨m, hm⟩ := (hj.symm hR).below k (by omega)
      exact absurd (hm.symm hR) (hno m)
  exact ⟨fun j hj => (h n).1 j hj (le j hj), fun hn => (h n).2 fun j _ => hn j⟩
theorem steps_has {k : Nat} {fk : List (Key × V)} (h : StepsK R L g k fk) (n : Str) : (valV fk (Sum.inr n)).isSome = true ↔ ∃ j ≤ k, IsD R L n g j := by
  by_cases c : ∃ j ≤ k, IsD R L n g j
  · obtain ⟨j, hj, hd⟩ := c
    rw [(h n).1 j hd hj]
    exact ⟨fun _ => ⟨j, hj, hd⟩, fun _ => rfl⟩
  · rw [(h n).2 fun j hj hd => c ⟨j, hj, hd⟩]
    exact ⟨(fun e => nomatch e), fun e => absurd e c⟩
/-- who is k + 1 steps off -/
theorem level_iff (hR : ∀ a b, R a b = R b a) {k : Nat} {n : Str} (hn : n ∈ L) : IsD R L n g (k + 1) ↔ (¬ ∃ j ≤ k, IsD R L n g j) ∧ ∃ o, IsD R L o g k ∧ R n o = true := by
  constructor
  · intro h
    refine ⟨fun ⟨j, hj, hd⟩ => ?_, ?_⟩
    · have := h.uniq hd; omega
    · obtain ⟨p, hp⟩ := (h.symm hR).1
      obtain ⟨_, o, _, _, r, hd⟩ := (h.symm hR).pred hp
      exact ⟨o, hd.symm hR, by rw [hR]; exact r⟩
  · rintro ⟨h1, o, ho, r⟩
    exact ((ho.symm hR).next hn (by rw [hR]; exact r) fun j hj hd => h1 ⟨j, hj, hd.symm hR⟩).symm hR
end
end NM
namespace NM
open PySem PySem.Spec PyProof.Rows L2 HotX L2H
/-- whether n is k steps off g -/
noncomputable def lvl (R : Str → Str → Bool) (L : List Str) (g : Str) (k : Nat) (n : Str) : Bool := @decide (IsD R L n g k) (Classical.propDecidable _)
theorem lvl_iff {R : Str → Str → Bool} {L : List Str} {g : Str} {k : Nat} {n : Str} : lvl R L g k n = true ↔ IsD R L n g k := by
  unfold lvl
  exact @decide_eq_true_iff _ (Classical.propDecidable _)
theorem lvl_no {R : Str → Str → Bool} {L : List Str} {g : Str} {k : Nat} {n : Str} (h : ¬ IsD R L n g k) : lvl R L g k n = false := Bool.eq_false_iff.mpr fun e => h (lvl_iff.mp e)
/-- the keys of a dict: names, none twice -/
structure KeysIn (L : List Str) (fk : List (Key × V)) (ks : List Str) : Prop where
  eq : fk.map (·.1) = ks.map Sum.inr
  nd : ks.Nodup
  sub : ∀ n ∈ ks, n ∈ L
theorem KeysIn.len {L : List Str} {fk : List (Key × V)} {ks : List Str} (h : KeysIn L fk ks) : fk.length = ks.length ∧ fk.length ≤ L.length := by
  have e := congrArg List.length h.eq
  rw [List.length_map, List.length_map] at e
  exact ⟨e, by rw [e]; exact nodup_le h.nd h.sub⟩
theorem val_keys {fk : List (Key × V)} {ks : List Str} (e : fk.map (·.1) = ks.map Sum.inr) (n : Str) : (valV fk (Sum.inr n)).isSome = true ↔ n ∈ ks := by
  rw [← valV_any, List.any_eq_true]
  constructor
  · rintro ⟨kv, hkv, h⟩
    have h := of_decide_eq_true h
    have : kv.1 ∈ fk.map (·.1) := List.mem_map.mpr ⟨kv, hkv, rfl⟩
    rw [e, h] at this
    obtain ⟨m, hm, em⟩ := List.mem_map.mp this
    rw [← Sum.inr.inj em]; exact hm
  · intro h
    have : (Sum.inr n : Key) ∈ fk.map (·.1) := by rw [e]; exact List.mem_map.mpr ⟨n, h, rfl⟩
    obtain ⟨kv, hkv, h⟩ := List.mem_map.mp this
    exact ⟨kv, hkv, decide_eq_true h⟩
theorem KeysIn.put {L : List Str} {fk : List (Key × V)} {ks : List Str} {n : Str} {v : V} (h : KeysIn L fk ks) (hn : n ∈ L) (hno : n ∉ ks) : KeysIn L (putK fk (Sum.inr n) v) (ks ++ [n]) := by
  have e : valV fk (Sum.inr n) = none := by
    cases e : valV fk (Sum.inr n) with
    | none => rfl
    | some v => exact absurd ((val_keys h.eq n).mp (by rw [e]; rfl)) hno
  refine ⟨by rw [putK_new _ e, List.map_append, h.eq, List.map_append]; rfl, ?_, fun m hm => ?_⟩
  · exact List.nodup_append.mpr ⟨h.nd, by simp, fun a ha b hb e => hno (by rw [List.mem_singleton.mp hb] at e; rw [← e]; exact ha)⟩
  · rcases List.mem_append.mp hm with z | z
    · exact h.sub m z
    · rw [List.mem_singleton.mp z]; exact hn
theorem filt_take {p : Str → Bool} {L : List Str} {i : Nat} {n : Str} (h : L[i]? = some n) : (L.take (i + 1)).filter p = if p n = true then (L.take i).filter p ++ [n] else (L.take i).filter p := by
  rw [List.take_add_one, h, List.filter_append]
  show _ ++ List.filter p [n] = _
  by_cases c : p n = true
  · rw [if_pos c, List.filter_cons, if_pos c]; rfl
  · rw [if_neg c, List.filter_cons, if_neg c]; simp
end NM
namespace NM
open PySem PySem.Spec PyProof.Rows L2 HotX L2H
section
variable {R R' : Str → Str → Bool} {L L' : List Str}
theorem Pth.congr (hL : ∀ x, x ∈ L ↔ x ∈ L') (hR : ∀ a ∈ L, ∀ b ∈ L, R a b = R' a b) {p : List Str} {a b : Str} {k : Nat} (h : Pth R L p a b k) : Pth R' L' p a b k := by
  induction h with
  | one h => exact .one ((hL _).mp h)
  | cons h r q ih => exact .cons ((hL _).mp h) (by rw [← hR _ h _ q.left]; exact r) ih
theorem pth_congr (hL : ∀ x, x ∈ L ↔ x ∈ L') (hR : ∀ a ∈ L, ∀ b ∈ L, R a b = R' a b) : Pth R L = Pth R' L' := by
  funext p a b k
  exact propext ⟨Pth.congr hL hR, Pth.congr (fun x => (hL x).symm) fun a ha b hb => (hR a ((hL a).mpr ha) b ((hL b).mpr hb)).symm⟩
theorem isD_congr (hL : ∀ x, x ∈ L ↔ x ∈ L') (hR : ∀ a ∈ L, ∀ b ∈ L, R a b = R' a b) : IsD R L = IsD R' L' := by
  unfold IsD
  rw [pth_congr hL hR]
theorem isLst_congr (hL : ∀ x, x ∈ L ↔ x ∈ L') (hR : ∀ a ∈ L, ∀ b ∈ L, R a b = R' a b) : IsLst R L = IsLst R' L' := by
  unfold IsLst
  rw [pth_congr hL hR]
end
theorem isMeet_perm {P M : PM} (pm : P.Perm M) (nd : (namesOf P).Nodup) : IsMeet P = IsMeet M := by
  funext a b z
  unfold IsMeet
  have e : ∀ y : Nat, hd (nearR P y) (namesOf P) = hd (nearR M y) (namesOf M) := fun y => hd_perm (names_perm pm) (near_perm pm nd)
  simp only [e]
theorem last_ix {L : List Str} {x : Str} : atI ((L ++ [x]).map V.str) (-1) = some (.str x) := by
  have e : (L ++ [x]).map V.str = L.map V.str ++ [.str x] := by rw [List.map_append]; rfl
  rw [e]
  exact atI_last _ _
end NM
namespace NM
open PySem PySem.Spec PyProof.Rows L2 HotX L2H
theorem isD_list {R : Str → Str → Bool} {L : List Str} {a : Str} : ∀ {k : Nat} {b : Str}, IsD R L a b k → ∃ l : List Str, l.Nodup ∧ l.length = k + 1 ∧ ∀ c ∈ l, c ∈ L ∧ ∃ j ≤ k, IsD R L a c j
  | 0, b, h => by
    obtain ⟨p, hp⟩ := h.1
    exact ⟨[b], by simp, rfl, fun c hc => by rw [List.mem_singleton.mp hc]; exact ⟨hp.right, 0, Nat.le_refl _, h⟩⟩
  | k + 1, b, h => by
    obtain ⟨p, hp⟩ := h.1
    obtain ⟨_, c, _, _, _, hd⟩ := h.pred hp
    obtain ⟨l, h1, h2, h3⟩ := isD_list hd
    refine ⟨b :: l, List.nodup_cons.mpr ⟨fun hb => ?_, h1⟩, by rw [List.length_cons, h2], fun x hx => ?_⟩
    · obtain ⟨_, j, hj, hdj⟩ := h3 b hb
      have := h.uniq hdj
      omega
    · rcases List.mem_cons.mp hx with e | hx
      · rw [e]; exact ⟨hp.right, k + 1, Nat.le_refl _, h⟩
      · obtain ⟨hxL, j, hj, hdj⟩ := h3 x hx
        exact ⟨hxL, j, by omega, hdj⟩
theorem isD_lt {R : Str → Str → Bool} {L : List Str} {a b : Str} {k : Nat} (h : IsD R L a b k) : k < L.length := by
  obtain ⟨l, h1, h2, h3⟩ := isD_list h
  have := nodup_le h1 fun c hc => (h3 c hc).1
  omega
end NM
namespace NM
open PySem PySem.Spec PyProof.Rows L2 HotX L2H
open PySem.W (dataLt alike alikeAll AllAlike Sortable)
/-! ### lists of lists of names -/
def RowsL (H : Hp) (ts : List Addr) (rows : List (List Str)) : Prop := Paired (fun t r => H t = some (.lst (r.map V.str))) ts rows
theorem RowsL.same {H H' : Hp} {ts : List Addr} {rows : List (List Str)} (h : RowsL H ts rows) (s : Same H H') : RowsL H' ts rows := Paired.mapP h fun _ _ z => s _ _ z
theorem RowsL.len {H : Hp} {ts : List Addr} {rows : List (List Str)} (h : RowsL H ts rows) : ts.length = rows.length := paired_len h
theorem RowsL.dp {K : PySem.W.Frag} {H : Hp} : ∀ {ts : List Addr} {rows : List (List Str)}, RowsL H ts rows → DpAll K H (ts.map V.ref) (rows.map namesD)
  | _, _, .nil => .nil
  | _, _, .cons h t => .cons (.lst (sqL h) (dpAll_strs _)) (RowsL.dp t)
theorem RowsL.at {H : Hp} : ∀ {ts : List Addr} {rows : List (List Str)} {i : Nat} {v : V}, RowsL H ts rows → (ts.map V.ref)[i]? = some v → ∃ t r, v = .ref t ∧ rows[i]? = some r ∧ ts[i]? = some t ∧ H t = some (.lst (r.map V.str))
  | _, _, _, _, .nil, e => by simp at e
  | _, _, 0, v, .cons (a := t) (b := r) h _, e => by simp at e; exact ⟨t, r, e.symm, rfl, rfl, h⟩
  | _, _, i + 1, v, .cons _ r, e => by
    obtain ⟨t, r', h1, h2, h3, h4⟩ := RowsL.at (i := i) r (by simpa using e)
    exact ⟨t, r', h1, by simpa using h2, by simpa using h3, h4⟩
theorem RowsL.snoc {H : Hp} {ts : List Addr} {rows : List (List Str)} {t : Addr} {r : List Str} (h : RowsL H ts rows) (ht : H t = some (.lst (r.map V.str))) : RowsL H (ts ++ [t]) (rows ++ [r]) := paired_snoc h ht
theorem RowsL.zip {H : Hp} : ∀ {ts : List Addr} {rows : List (List Str)}, RowsL H ts rows → ∀ q ∈ ts.zip rows, H q.1 = some (.lst (q.2.map V.str))
  | _, _, .nil, q, hq => nomatch hq
  | _, _, .cons h t, q, hq => by
    rcases List.mem_cons.mp hq with e | hq
    · rw [e]; exact h
    · exact RowsL.zip t q hq
theorem rowsL_of {H : Hp} : ∀ {qs : List (Addr × List Str)}, (∀ q ∈ qs, H q.1 = some (.lst (q.2.map V.str))) → RowsL H (qs.map (·.1)) (qs.map (·.2))
  | [], _ => .nil
  | q :: qs, h => .cons (h q (List.mem_cons_self ..)) (rowsL_of fun x hx => h x (List.mem_cons_of_mem _ hx))
theorem perm_map_inv {α β : Type} (f : α → β) {zs zs' : List β} (p : zs.Perm zs') : ∀ l : List α, zs' = l.map f → ∃ l' : List α, zs = l'.map f ∧ l'.Perm l := by
  induction p with
  | nil =>
    intro l e
    have : l = [] := List.map_eq_nil_iff.mp e.symm
    subst this
    exact ⟨[], rfl, .nil⟩
  | cons x _ ih =>
    intro l e
    cases l with
    | nil => cases e
    | cons y l1 =>
      rw [List.map_cons] at e
      injection e with e1 e2
      obtain ⟨l', e3, p3⟩ := ih l1 e2
      exact ⟨y :: l', by rw [e1, e3]; rfl, p3.cons y⟩
  | swap x y l0 =>
    intro l e
    cases l with
    | nil => cases e
    | cons a l1 =>
      rw [List.map_cons] at e
      injection e with e1 e2
      cases l1 with
      | nil => cases e2
      | cons b l2 =>
        rw [List.map_cons] at e2
        injection e2 with e3 e4
        exact ⟨b :: a :: l2, by rw [e1, e3, e4]; rfl, .swap ..⟩
  | trans _ _ ih1 ih2 =>
    intro l e
    obtain ⟨l1, e1, p1⟩ := ih2 l e
    obtain ⟨l2, e2, p2⟩ := ih1 l1 e1
    exact ⟨l2, e2, p2.trans p1⟩
theorem zip_maps {α β γ δ : Type} (f : α → γ) (g : β → δ) : ∀ (l : List α) (m : List β), (l.map f).zip (m.map g) = (l.zip m).map fun q => (f q.1, g q.2)
  | [], _ => by simp
  | _ :: _, [] => by simp
  | a :: l, b :: m => by rw [List.map_cons, List.map_cons, List.zip_cons_cons, zip_maps f g l m]; rfl
theorem sortedRows {H : Hp} {ts : List Addr} {rows : List (List Str)} {zs : List (V × PyData)} (hw : RowsL H ts rows) (pm : zs.Perm ((ts.map V.ref).zip (rows.map namesD))) (pw : zs.Pairwise (fun x y => dataLt y.2 x.2 = false)) :
    ∃ (us : List Addr) (rs : List (List Str)), zs.map (·.1) = us.map V.ref ∧ RowsL H us rs ∧ rs.Perm rows ∧ rs.Pairwise leN := by
  rw [zip_maps] at pm
  obtain ⟨qs, rfl, p⟩ := perm_map_inv _ pm _ rfl
  refine ⟨qs.map (·.1), qs.map (·.2), by rw [List.map_map, List.map_map]; rfl, rowsL_of fun q hq => hw.zip q (p.mem_iff.mp hq), ?_, ?_⟩
  · have := p.map (fun q : Addr × List Str => q.2)
    rw [List.map_snd_zip (by rw [hw.len]; exact Nat.le_refl _)] at this
    exact this
  · rw [List.pairwise_map] at pw ⊢
    refine pw.imp fun h => ?_
    rw [dataLt_namesD] at h
    exact h
theorem rows_alike {rows : List (List Str)} {n : Nat} (h : ∀ r ∈ rows, r.length = n) : AllAlike (rows.map namesD) := fun d hd d' hd' => by
  obtain ⟨r, hr, rfl⟩ := List.mem_map.mp hd
  obtain ⟨r', hr', rfl⟩ := List.mem_map.mp hd'
  exact alike_names r r' (by rw [h r hr, h r' hr'])
theorem rows_sortable (rows : List (List Str)) : Sortable (rows.map namesD) := .inr fun d hd => by
  obtain ⟨r, _, rfl⟩ := List.mem_map.mp hd
  exact ⟨nofun, nofun⟩
theorem rows_depth {rows : List (List Str)} (h : ∀ r ∈ rows, ∀ n ∈ r, nameS n = true) : ∀ d ∈ rows.map namesD, d.depth ≤ 60 := fun d hd => by
  obtain ⟨r, hr, rfl⟩ := List.mem_map.mp hd
  exact Nat.le_trans (lay_names (n := 0) (h r hr)).dep (by decide)
theorem lay_rowsL {rows : List (List Str)} (h : ∀ r ∈ rows, ∀ n ∈ r, nameS n = true) : Lay 2 (.list (rows.map namesD)) := lay_list (lay_map fun r hr => lay_names (n := 0) (h r hr))
theorem Pth.mem {R : Str → Str → Bool} {L p : List Str} {a b : Str} {k : Nat} (h : Pth R L p a b k) : ∀ x ∈ p, x ∈ L := by
  induction h with
  | one h => exact fun x hx => by rw [List.mem_singleton.mp hx]; exact h
  | cons h _ _ ih => exact fun x hx => (List.mem_cons.mp hx).elim (fun e => by rw [e]; exact h) (ih x)
/-- whether a row ends so -/
def endsW (H : Hp) (b : Str) : V → Bool
  | .ref t => match H t with
    | some (.lst xs) => decide (xs.getLast? = some (.str b))
    | _ => false
  | _ => false
theorem endsW_at {H : Hp} {b x : Str} {t : Addr} {r : List Str} (h : H t = some (.lst ((r ++ [x]).map V.str))) : endsW H b (.ref t) = decide (x = b) := by
  show (match H t with | some (.lst xs) => decide (xs.getLast? = some (V.str b)) | _ => false) = _
  rw [h, List.map_append]
  show decide ((List.map V.str r ++ [V.str x]).getLast? = some (V.str b)) = decide (x = b)
  rw [List.getLast?_append]
  by_cases e : x = b
  · rw [decide_eq_true e]; exact decide_eq_true (by rw [e]; rfl)
  · rw [decide_eq_false e]; exact decide_eq_false (fun z => e (by simpa using z))
theorem rowsL_end {H : Hp} {b : Str} : ∀ {ts : List Addr} {rows : List (List Str)}, RowsL H ts rows → (∀ r ∈ rows, ∃ r' x, r = r' ++ [x]) → ∃ us rs, (ts.map V.ref).filter (endsW H b) = us.map V.ref ∧ RowsL H us rs ∧ ∀ r, r ∈ rs ↔ r ∈ rows ∧ ∃ r', r = r' ++ [b]
  | _, _, .nil, _ => ⟨[], [], rfl, .nil, fun r => by simp⟩
  | _, _, .cons (a := t) (b := r0) h tl, hl => by
    obtain ⟨us, rs, e, w, m⟩ := rowsL_end (b := b) tl fun r hr => hl r (List.mem_cons_of_mem _ hr)
    obtain ⟨r', x, e0⟩ := hl r0 (List.mem_cons_self ..)
    rw [e0] at h
    rw [List.map_cons, List.filter_cons, endsW_at h]
    by_cases c : x = b
    · rw [if_pos (decide_eq_true c), e]
      refine ⟨t :: us, r0 :: rs, rfl, .cons (by rw [e0]; exact h) w, fun r => ?_⟩
      rw [List.mem_cons, List.mem_cons, m r]
      constructor
      · rintro (z | z)
        · rw [z]; exact ⟨.inl rfl, r', by rw [e0, c]⟩
        · exact ⟨.inr z.1, z.2⟩
      · rintro ⟨z | z, w⟩
        · exact .inl z
        · exact .inr ⟨z, w⟩
    · rw [if_neg (by simpa using c), e]
      refine ⟨us, rs, rfl, w, fun r => ?_⟩
      rw [List.mem_cons, m r]
      constructor
      · rintro z; exact ⟨.inr z.1, z.2⟩
      · rintro ⟨z | z, r2, w⟩
        · rw [z, e0] at w
          have := congrArg List.getLast? w
          simp at this
          exact absurd this c
        · exact ⟨z, r2, w⟩
end NM
namespace NM
open PySem PySem.Spec PyProof.Rows L2 HotX L2H
structure LvRows (R : Str → Str → Bool) (L : List Str) (a : Str) (i : Nat) (rows : List (List Str)) : Prop where
  ok : ∀ r ∈ rows, ∃ v, IsD R L a v i ∧ IsLst R L a v i r
  all : ∀ v, IsD R L a v i → ∃ r ∈ rows, IsLst R L a v i r
def Good (R : Str → Str → Bool) (L : List Str) (a : Str) (i : Nat) (Sn : List Str) (q : List Str) : Prop := ∃ r u n, q = r ++ [n] ∧ IsD R L a u i ∧ IsLst R L a u i r ∧ n ∈ L ∧ n ∉ Sn ∧ R u n = true
section
variable {R : Str → Str → Bool} {L : List Str} {a : Str} {i : Nat} {Sn : List Str} {rows lrows : List (List Str)}
theorem LvRows.lens (h : LvRows R L a i rows) : ∀ r ∈ rows, r.length = i + 1 := fun r hr => by
  obtain ⟨v, _, hl⟩ := h.ok r hr
  exact hl.1.len
theorem LvRows.names (h : LvRows R L a i rows) : ∀ r ∈ rows, ∀ n ∈ r, n ∈ L := fun r hr => by
  obtain ⟨v, _, hl⟩ := h.ok r hr
  exact hl.1.mem
theorem LvRows.last (h : LvRows R L a i rows) : ∀ r ∈ rows, ∃ r' x, r = r' ++ [x] := fun r hr => by
  obtain ⟨v, _, hl⟩ := h.ok r hr
  obtain ⟨p, e⟩ := hl.1.last
  exact ⟨p, v, e⟩
theorem Good.len {q : List Str} (h : Good R L a i Sn q) : q.length = i + 2 := by
  obtain ⟨r, u, n, rfl, _, hl, _⟩ := h
  rw [List.length_append, hl.1.len]; rfl
theorem Good.names {q : List Str} (h : Good R L a i Sn q) : ∀ n ∈ q, n ∈ L := by
  obtain ⟨r, u, n, rfl, _, hl, hn, _⟩ := h
  exact fun x hx => (List.mem_append.mp hx).elim (hl.1.mem x) (fun z => by rw [List.mem_singleton.mp z]; exact hn)
theorem snoc_inj {r r' : List Str} {n m : Str} (e : r ++ [n] = r' ++ [m]) : r = r' ∧ n = m := by
  have := List.append_inj' e rfl
  exact ⟨this.1, by simpa using this.2⟩
/-- a fresh one -/
theorem fresh_lst (h : LvRows R L a i rows) (hS : ∀ n, n ∈ Sn ↔ ∃ j ≤ i, IsD R L a n j) (good : ∀ q ∈ lrows, Good R L a i Sn q) (all : ∀ r ∈ rows, ∀ u, IsLst R L a u i r → ∀ n ∈ L, n ∉ Sn → R u n = true → r ++ [n] ∈ lrows)
    {r' : List Str} {n : Str} (hm : r' ++ [n] ∈ lrows) (hle : ∀ q', q' ++ [n] ∈ lrows → leN (r' ++ [n]) (q' ++ [n])) : IsD R L a n (i + 1) ∧ IsLst R L a n (i + 1) (r' ++ [n]) := by
  obtain ⟨r, u, m, e, hdu, hl, hn, hno, rr⟩ := good _ hm
  obtain ⟨rfl, rfl⟩ := snoc_inj e
  have hd : IsD R L a n (i + 1) := hdu.next hn rr fun j hj hdj => hno ((hS n).mpr ⟨j, hj, hdj⟩)
  refine ⟨hd, lst_back (rows := rows) hd hl.1 rr fun u2 hd2 r2 => ?_⟩
  obtain ⟨p, hp, hpl⟩ := h.all u2 hd2
  exact ⟨p, hpl, hle p (all p hp u2 hpl n hn hno r2)⟩
theorem fresh_all (h : LvRows R L a i rows) (hS : ∀ n, n ∈ Sn ↔ ∃ j ≤ i, IsD R L a n j) (all : ∀ r ∈ rows, ∀ u, IsLst R L a u i r → ∀ n ∈ L, n ∉ Sn → R u n = true → r ++ [n] ∈ lrows) {v : Str} (hd : IsD R L a v (i + 1)) : ∃ p, p ++ [v] ∈ lrows := by
  obtain ⟨pv, hpv⟩ := hd.1
  obtain ⟨_, u, _, _, rr, hdu⟩ := hd.pred hpv
  obtain ⟨p, hp, hpl⟩ := h.all u hdu
  refine ⟨p, all p hp u hpl v hpv.right (fun hs => ?_) rr⟩
  obtain ⟨j, hj, hdj⟩ := (hS v).mp hs
  have := hd.uniq hdj
  omega
end
/-- what fresh holds behind some rows -/
structure FreshAt (H : Hp) (L : List Str) (fk : List (Key × V)) (ks : List Str) (seen : List (List Str)) : Prop where
  keys : KeysIn L fk ks
  val : ∀ n ∈ ks, ∃ t r', valV fk (Sum.inr n) = some (.ref t) ∧ H t = some (.lst ((r' ++ [n]).map V.str)) ∧ r' ++ [n] ∈ seen ∧ ∀ q', q' ++ [n] ∈ seen → leN (r' ++ [n]) (q' ++ [n])
  all : ∀ q n, q ++ [n] ∈ seen → n ∈ ks
theorem rows_new {Hf : Hp} {R : Str → Str → Bool} {L : List Str} {a : Str} {i : Nat} : ∀ {ys : List Str} {vs : List V}, Paired (fun x y => ∃ n t r', x = V.str n ∧ y = V.ref t ∧ Hf t = some (.lst ((r' ++ [n]).map V.str)) ∧ IsD R L a n (i + 1) ∧ IsLst R L a n (i + 1) (r' ++ [n])) (ys.map V.str) vs →
    ∃ ts rows, vs = ts.map V.ref ∧ RowsL Hf ts rows ∧ (∀ r ∈ rows, ∃ v, IsD R L a v (i + 1) ∧ IsLst R L a v (i + 1) r) ∧ (∀ n ∈ ys, ∃ r ∈ rows, IsLst R L a n (i + 1) r) ∧ rows.length = ys.length
  | [], _, .nil => ⟨[], [], rfl, .nil, (fun _ h => nomatch h), (fun _ h => nomatch h), rfl⟩
  | n :: ys, _, .cons h tl => by
    obtain ⟨n', t, r', e1, rfl, ht, hd, hl⟩ := h
    cases e1
    obtain ⟨ts, rows, rfl, w, h1, h2, h3⟩ := rows_new tl
    refine ⟨t :: ts, (r' ++ [n]) :: rows, rfl, .cons ht w, fun r hr => ?_, fun m hm => ?_, by rw [List.length_cons, h3]; rfl⟩
    · rcases List.mem_cons.mp hr with e | hr
      · rw [e]; exact ⟨n, hd, hl⟩
      · exact h1 r hr
    · rcases List.mem_cons.mp hm with e | hm
      · rw [e]; exact ⟨_, List.mem_cons_self .., hl⟩
      · obtain ⟨r, hr, z⟩ := h2 m hm
        exact ⟨r, List.mem_cons_of_mem _ hr, z⟩
end NM
namespace NM
open PySem PySem.Spec PyProof.Rows L2 HotX L2H
theorem RowsL.cases {H : Hp} {us : List Addr} {rs : List (List Str)} (h : RowsL H us rs) : (us = [] ∧ rs = []) ∨ ∃ t r us' rs', us = t :: us' ∧ rs = r :: rs' ∧ H t = some (.lst (r.map V.str)) := by
  cases h with
  | nil => exact .inl ⟨rfl, rfl⟩
  | cons h _ => exact .inr ⟨_, _, _, _, rfl, rfl, h⟩
theorem RowsL.off {H : Hp} {la : Addr} {o : HO} : ∀ {us : List Addr} {rs : List (List Str)}, RowsL H us rs → la ∉ us → RowsL (upd H la o) us rs
  | _, _, .nil, _ => .nil
  | _, _, .cons h t, n => .cons (by rw [upd_ne (fun z => n (by rw [z]; exact List.mem_cons_self ..))]; exact h) (RowsL.off t fun z => n (List.mem_cons_of_mem _ z))
end NM
namespace NM
open PySem PySem.Spec PyProof.Rows L2 HotX L2H
theorem putP_nm {M : PM} {x n : Str} {p : Pt} (h : n ∈ namesOf (putP M x p)) : n ∈ namesOf M ∨ n = x := by
  rw [putP_names] at h
  split at h
  · exact .inl h
  · rcases List.mem_append.mp h with h | h
    · exact .inl h
    · exact .inr (List.mem_singleton.mp h)
def badsC : List V := [.non, .str "", .str "A", .str "zzz", .int 5]
theorem bads_at {i : Nat} {v : V} {M : PM} (ok : PMOk M) (h2 : ∀ n ∈ namesOf M, n.cps.size = 2) (h : badsC[i]? = some v) : (∀ H : Hp, Dat H v) ∧ (∀ x, v = .str x → x.length ≤ 1000) ∧ ∀ n, v = .str n → n ∉ namesOf M := by
  have hm := List.mem_of_getElem? h
  unfold badsC at hm
  simp only [List.mem_cons, List.not_mem_nil, or_false] at hm
  have two : ∀ x : Str, x.cps.size ≠ 2 → ∀ n, V.str x = .str n → n ∉ namesOf M := fun x hx n e hn => by
    injection e with e
    rw [← e] at hn
    exact hx (h2 x hn)
  rcases hm with rfl | rfl | rfl | rfl | rfl
  · exact ⟨fun _ => trivial, nofun, nofun⟩
  · exact ⟨fun _ => trivial, fun x e => by injection e with e; rw [← e]; decide, two _ (by decide)⟩
  · exact ⟨fun _ => trivial, fun x e => by injection e with e; rw [← e]; decide, two _ (by decide)⟩
  · exact ⟨fun _ => trivial, fun x e => by injection e with e; rw [← e]; decide, two _ (by decide)⟩
  · exact ⟨fun _ => trivial, nofun, nofun⟩
end NM
namespace NM
open PySem PySem.Spec PyProof.Rows L2 HotX L2H
theorem marks_pt {H : Hp} {M P : PM} : ∀ {ts : List Addr} {L : List Str}, MarksAt H ts L M → (∀ n ∈ L, ptOf M n = ptOf P n) → MarksAt H ts L P
  | _, _, .nil, _ => .nil
  | _, _, .cons h t, e => by
    obtain ⟨v, h1, h2⟩ := h
    exact .cons ⟨v, h1, by rw [← e _ (List.mem_cons_self ..)]; exact h2⟩ (marks_pt t fun n hn => e n (List.mem_cons_of_mem _ hn))
end NM

namespace NM
open PySem PySem.Spec PyProof.Rows L2 HotX L2H
open LamX (ExtN)
/-! ### desks: a map, the tags of its marks in lists, how all was -/
abbrev Tg := List (Str × List Str)
def tgK (tg : Tg) (tls : List Addr) : List (Key × V) := (tg.zip tls).map fun p => (Sum.inr p.1.1, V.ref p.2)
def TgL (H : Hp) (tls : List Addr) (tg : Tg) : Prop := Paired (fun t p => H t = some (.lst (p.2.map V.str))) tls tg
def tagOf (tg : Tg) (n : Str) : List Str := ((tg.find? fun p => decide (p.1 = n)).map (·.2)).getD []
theorem TgL.len {H : Hp} {tls : List Addr} {tg : Tg} (h : TgL H tls tg) : tls.length = tg.length := paired_len h
theorem TgL.keep {H H' : Hp} : ∀ {tls : List Addr} {tg : Tg}, TgL H tls tg → (∀ b ∈ tls, ∀ o, H b = some o → H' b = some o) → TgL H' tls tg
  | _, _, .nil, _ => .nil
  | _, _, .cons h t, k => .cons (k _ (List.mem_cons_self ..) _ h) (TgL.keep t fun b hb => k b (List.mem_cons_of_mem _ hb))
theorem tgK_keys : ∀ {tg : Tg} {tls : List Addr}, tls.length = tg.length → (tgK tg tls).map (·.1) = (tg.map (·.1)).map Sum.inr
  | [], [], _ => rfl
  | [], _ :: _, h => by simp at h
  | _ :: _, [], h => by simp at h
  | p :: tg, t :: tls, h => by
    have ih := tgK_keys (tg := tg) (tls := tls) (by simpa using h)
    unfold tgK at ih ⊢
    rw [List.zip_cons_cons, List.map_cons, List.map_cons, ih]
    rfl
theorem tagOf_pos {p : Str × List Str} {tg : Tg} {n : Str} (e : p.1 = n) : tagOf (p :: tg) n = p.2 := by
  unfold tagOf
  rw [List.find?_cons, decide_eq_true e]
  rfl
theorem tagOf_neg {p : Str × List Str} {tg : Tg} {n : Str} (e : ¬ p.1 = n) : tagOf (p :: tg) n = tagOf tg n := by
  unfold tagOf
  rw [List.find?_cons, decide_eq_false e]
theorem TgL.get {H : Hp} : ∀ {tls : List Addr} {tg : Tg} {n : Str}, TgL H tls tg → n ∈ tg.map (·.1) → ∃ t ∈ tls, valV (tgK tg tls) (Sum.inr n) = some (.ref t) ∧ H t = some (.lst ((tagOf tg n).map V.str))
  | _, _, n, .nil, hn => by simp at hn
  | _, _, n, .cons (a := t) (b := p) (l₁ := tls) (l₂ := tg) h tl, hn => by
    have ek : tgK (p :: tg) (t :: tls) = (Sum.inr p.1, V.ref t) :: tgK tg tls := rfl
    rw [ek]
    by_cases e : p.1 = n
    · exact ⟨t, List.mem_cons_self .., valV_pos (by rw [e]), by rw [tagOf_pos e]; exact h⟩
    · have hn' : n ∈ tg.map (·.1) := by
        rw [List.map_cons] at hn
        exact (List.mem_cons.mp hn).elim (fun z => absurd z.symm e) id
      obtain ⟨t', ht', h1, h2⟩ := TgL.get tl hn'
      exact ⟨t', List.mem_cons_of_mem _ ht', by rw [valV_neg (fun z => e (Sum.inr.inj z))]; exact h1, by rw [tagOf_neg e]; exact h2⟩
/-- how all was: the marks by their names, the tags; fp: what it is made of, but for tuples -/
abbrev Stand := PM × Tg
def StAt (H : Hp) (t : Addr) (st : Stand) (fp : List Addr) : Prop := ∃ ml dd ts tls, H t = some (.tup [.ref ml, .ref dd]) ∧ H ml = some (.lst (ts.map V.ref)) ∧ MarksAt H ts (namesOf st.1) st.1 ∧ H dd = some (.dK (tgK st.2 tls)) ∧ TgL H tls st.2 ∧ fp = ml :: dd :: tls
theorem StAt.keep {H H' : Hp} {t : Addr} {st : Stand} {fp : List Addr} (h : StAt H t st fp) (kt : KeepT H H') (k : ∀ b ∈ fp, ∀ o, H b = some o → H' b = some o) : StAt H' t st fp := by
  obtain ⟨ml, dd, ts, tls, h1, h2, h3, h4, h5, rfl⟩ := h
  exact ⟨ml, dd, ts, tls, kt _ _ h1, k _ (List.mem_cons_self ..) _ h2, h3.keepT kt, k _ (List.mem_cons_of_mem _ (List.mem_cons_self ..)) _ h4, h5.keep fun b hb => k b (List.mem_cons_of_mem _ (List.mem_cons_of_mem _ hb)), rfl⟩
theorem StAt.has {H : Hp} {t : Addr} {st : Stand} {fp : List Addr} (h : StAt H t st fp) : ∀ b ∈ fp, ∃ o, H b = some o := by
  obtain ⟨ml, dd, ts, tls, h1, h2, h3, h4, h5, rfl⟩ := h
  intro b hb
  rcases List.mem_cons.mp hb with e | hb
  · rw [e]; exact ⟨_, h2⟩
  · rcases List.mem_cons.mp hb with e | hb
    · rw [e]; exact ⟨_, h4⟩
    · have go : ∀ {tls : List Addr} {tg : Tg}, TgL H tls tg → b ∈ tls → ∃ o, H b = some o := fun {tls tg} h hb => by
        induction h with
        | nil => exact nomatch hb
        | cons h _ ih =>
          rcases List.mem_cons.mp hb with e | hb
          · rw [e]; exact ⟨_, h⟩
          · exact ih hb
      exact go h5 hb
structure DeskR where
  dk : Addr
  dx : Addr
  R : MapR
  td : Addr
  tls : List Addr
  pa : Addr
  ah : Addr
  ps : List (Addr × List Addr)
  as : List (Addr × List Addr)
def DeskR.own (D : DeskR) : List Addr := D.dk :: D.td :: D.pa :: D.ah :: (D.tls ++ D.R.own)
structure DeskAt (C CM : Addr) (H : Hp) (D : DeskR) (M : PM) (tg : Tg) (past ahead : List Stand) : Prop where
  ins : H D.dk = some (.ins C D.dx [("here", .ref D.R.m), ("tags_of", .ref D.td), ("past", .ref D.pa), ("ahead", .ref D.ah)])
  map : MapAt CM H D.R M
  tgd : H D.td = some (.dK (tgK tg D.tls))
  tgl : TgL H D.tls tg
  tnd : (tg.map (·.1)).Nodup
  tlen : tg.length ≤ 60
  tgw : ∀ p ∈ tg, p.2.length ≤ 5 ∧ ∀ w ∈ p.2, nameS w = true
  pst : H D.pa = some (.lst (D.ps.map fun p => V.ref p.1))
  psA : Paired (fun p st => StAt H p.1 st p.2) D.ps past
  aht : H D.ah = some (.lst (D.as.map fun p => V.ref p.1))
  asA : Paired (fun p st => StAt H p.1 st p.2) D.as ahead
  nd : D.own.Nodup
  sep : ∀ p ∈ D.ps ++ D.as, ∀ b ∈ p.2, b ∉ D.own
theorem stands_keep {H H' : Hp} (kt : KeepT H H') : ∀ {ps : List (Addr × List Addr)} {sts : List Stand}, Paired (fun p st => StAt H p.1 st p.2) ps sts → (∀ p ∈ ps, ∀ b ∈ p.2, ∀ o, H b = some o → H' b = some o) → Paired (fun p st => StAt H' p.1 st p.2) ps sts
  | _, _, .nil, _ => .nil
  | _, _, .cons h t, k => .cons (h.keep kt (k _ (List.mem_cons_self ..))) (stands_keep kt t fun p hp => k p (List.mem_cons_of_mem _ hp))
theorem TgL.ext {H H' : Hp} (s : ExtN H H') : ∀ {tls : List Addr} {tg : Tg}, TgL H tls tg → TgL H' tls tg
  | _, _, .nil => .nil
  | _, _, .cons h t => .cons (lst_ext s h) (TgL.ext s t)
theorem StAt.ext {H H' : Hp} {t : Addr} {st : Stand} {fp : List Addr} (h : StAt H t st fp) (s : ExtN H H') : StAt H' t st fp := by
  obtain ⟨ml, dd, ts, tls, h1, h2, h3, h4, h5, rfl⟩ := h
  exact ⟨ml, dd, ts, tls, ext_keepT s _ _ h1, lst_ext s h2, h3.keepT (ext_keepT s), s _ _ h4 (fun _ z => by cases z), TgL.ext s h5, rfl⟩
theorem stands_ext {H H' : Hp} (s : ExtN H H') : ∀ {ps : List (Addr × List Addr)} {sts : List Stand}, Paired (fun p st => StAt H p.1 st p.2) ps sts → Paired (fun p st => StAt H' p.1 st p.2) ps sts
  | _, _, .nil => .nil
  | _, _, .cons h t => .cons (h.ext s) (stands_ext s t)
section
variable {C CM : Addr} {H H' : Hp} {D : DeskR} {M : PM} {tg : Tg} {past ahead : List Stand}
/-- the desk stands while S, of which none is its own or a stand's, changes -/
theorem DeskAt.offS {S : List Addr} (h : DeskAt C CM H D M tg past ahead) (s : SameD S H H') (kt : KeepT H H') (d1 : ∀ b ∈ D.own, b ∉ S) (d2 : ∀ p ∈ D.ps ++ D.as, ∀ b ∈ p.2, b ∉ S) : DeskAt C CM H' D M tg past ahead where
  ins := s _ _ (d1 _ (List.mem_cons_self ..)) h.ins
  map := MapG.offG h.map s kt fun b hb => d1 b (List.mem_cons_of_mem _ (List.mem_cons_of_mem _ (List.mem_cons_of_mem _ (List.mem_cons_of_mem _ (List.mem_append_right _ hb)))))
  tgd := s _ _ (d1 _ (List.mem_cons_of_mem _ (List.mem_cons_self ..))) h.tgd
  tgl := h.tgl.keep fun b hb o e => s b o (d1 b (List.mem_cons_of_mem _ (List.mem_cons_of_mem _ (List.mem_cons_of_mem _ (List.mem_cons_of_mem _ (List.mem_append_left _ hb)))))) e
  tnd := h.tnd
  tlen := h.tlen
  tgw := h.tgw
  pst := s _ _ (d1 _ (List.mem_cons_of_mem _ (List.mem_cons_of_mem _ (List.mem_cons_self ..)))) h.pst
  psA := stands_keep kt h.psA fun p hp b hb o e => s b o (d2 p (List.mem_append_left _ hp) b hb) e
  aht := s _ _ (d1 _ (List.mem_cons_of_mem _ (List.mem_cons_of_mem _ (List.mem_cons_of_mem _ (List.mem_cons_self ..))))) h.aht
  asA := stands_keep kt h.asA fun p hp b hb o e => s b o (d2 p (List.mem_append_right _ hp) b hb) e
  nd := h.nd
  sep := h.sep
theorem DeskAt.same (h : DeskAt C CM H D M tg past ahead) (s : Same H H') : DeskAt C CM H' D M tg past ahead := h.offS (S := []) s.d s.keepT (fun _ _ => by simp) (fun _ _ _ _ => by simp)
theorem DeskAt.has (h : DeskAt C CM H D M tg past ahead) : ∀ b ∈ D.own, ∃ o, H b = some o := fun b hb => by
  rcases List.mem_cons.mp hb with e | hb
  · rw [e]; exact ⟨_, h.ins⟩
  rcases List.mem_cons.mp hb with e | hb
  · rw [e]; exact ⟨_, h.tgd⟩
  rcases List.mem_cons.mp hb with e | hb
  · rw [e]; exact ⟨_, h.pst⟩
  rcases List.mem_cons.mp hb with e | hb
  · rw [e]; exact ⟨_, h.aht⟩
  rcases List.mem_append.mp hb with hb | hb
  · have go : ∀ {tls : List Addr} {tg : Tg}, TgL H tls tg → b ∈ tls → ∃ o, H b = some o := fun {tls tg} h hb => by
      induction h with
      | nil => exact nomatch hb
      | cons h _ ih =>
        rcases List.mem_cons.mp hb with e | hb
        · rw [e]; exact ⟨_, h⟩
        · exact ih hb
    exact go h.tgl hb
  · exact MapG.has h.map hb
theorem DeskAt.notin (h : DeskAt C CM H D M tg past ahead) {b : Addr} (n : H b = none) : b ∉ D.own := fun z => by
  obtain ⟨o, e⟩ := h.has b z
  rw [n] at e; cases e
end
theorem MapG.own_nd {C : Addr} {H : Hp} {R : MapR} {M : PM} {F : Nat → List (Key × V)} (h : MapG C H R M F) : R.own.Nodup := by
  refine List.nodup_cons.mpr ⟨fun z => ?_, List.nodup_cons.mpr ⟨fun z => ?_, h.nodup⟩⟩
  · rcases List.mem_cons.mp z with e | z
    · have := h.ins; rw [e, h.lst] at this; cases this
    · obtain ⟨k, e⟩ := h.dcts _ z
      rw [h.ins] at e; cases e
  · obtain ⟨k, e⟩ := h.dcts _ z
    rw [h.lst] at e; cases e
theorem tagOf_mem : ∀ {tg : Tg} {p : Str × List Str}, (tg.map (·.1)).Nodup → p ∈ tg → tagOf tg p.1 = p.2
  | [], p, _, hp => nomatch hp
  | q :: tg, p, nd, hp => by
    rw [List.map_cons] at nd
    obtain ⟨h1, h2⟩ := List.nodup_cons.mp nd
    rcases List.mem_cons.mp hp with e | hp
    · rw [e]; exact tagOf_pos rfl
    · rw [tagOf_neg (fun e => h1 (List.mem_map.mpr ⟨p, hp, e.symm⟩))]
      exact tagOf_mem h2 hp
/-- pairs of a name and a list, new: a dict of lists -/
theorem tag_pairs {K : PySem.W.Frag} {H H0 : Hp} {tg : Tg} : ∀ {tgs : Tg} {ys : List V}, (∀ p ∈ tgs, tagOf tg p.1 = p.2) → Paired (fun x y => ∃ n t l, x = V.str n ∧ y = V.ref t ∧ H t = some (.tup [.str n, .ref l]) ∧ H l = some (.lst ((tagOf tg n).map V.str)) ∧ H0 l = none) ((tgs.map (·.1)).map V.str) ys →
    ∃ ts tls, ys = ts.map V.ref ∧ Paired (fun p kv => SqT K H p [kV kv.1, kv.2]) ts (tgK tgs tls) ∧ TgL H tls tgs ∧ ∀ l ∈ tls, H0 l = none
  | [], _, _, .nil => ⟨[], [], rfl, .nil, .nil, fun _ h => nomatch h⟩
  | p :: tgs, _, ht, .cons h tl => by
    obtain ⟨n, t, l, e1, rfl, h1, h2, h3⟩ := h
    cases e1
    obtain ⟨ts, tls, rfl, w1, w2, w3⟩ := tag_pairs (fun q hq => ht q (List.mem_cons_of_mem _ hq)) tl
    rw [ht p (List.mem_cons_self ..)] at h2
    refine ⟨t :: ts, l :: tls, rfl, .cons (sqT h1) w1, .cons h2 w2, fun x hx => ?_⟩
    rcases List.mem_cons.mp hx with e | hx
    · rw [e]; exact h3
    · exact w3 x hx
/-! ### a desk from state to state -/
structure DeskTo (H H' : Hp) (D D' : DeskR) : Prop where
  dk : D'.dk = D.dk
  keep : SameD D.own H H'
  kt : KeepT H H'
  own : ∀ b ∈ D'.own, b ∈ D.own ∨ H b = none
theorem DeskTo.refl (H : Hp) (D : DeskR) : DeskTo H H D D := ⟨rfl, SameD.refl H, keepT_refl H, fun _ h => .inl h⟩
theorem DeskTo.of_same {H H' : Hp} {D : DeskR} (s : Same H H') : DeskTo H H' D D := ⟨rfl, s.d, s.keepT, fun _ h => .inl h⟩
theorem DeskTo.trans {H H1 H2 : Hp} {D D1 D2 : DeskR} (a : DeskTo H H1 D D1) (b : DeskTo H1 H2 D1 D2) : DeskTo H H2 D D2 where
  dk := b.dk.trans a.dk
  keep := fun x o n e => b.keep x o (fun z => by
    rcases a.own x z with h | h
    · exact n h
    · rw [h] at e; cases e) (a.keep x o n e)
  kt := a.kt.trans b.kt
  own := fun x hx => by
    rcases b.own x hx with h | h
    · exact a.own x h
    · by_cases c : x ∈ D.own
      · exact .inl c
      · right
        cases e : H x with
        | none => rfl
        | some o => rw [a.keep x o c e] at h; cases h
/-- what the desk has not stays not its -/
theorem DeskTo.out {H H' : Hp} {D D' : DeskR} (a : DeskTo H H' D D') {b : Addr} {o : HO} (e : H b = some o) (n : b ∉ D.own) : b ∉ D'.own ∧ H' b = some o := by
  refine ⟨fun z => ?_, a.keep b o n e⟩
  rcases a.own b z with h | h
  · exact n h
  · rw [h] at e; cases e
section
variable {C CM : Addr} {H H' : Hp} {D : DeskR} {M : PM} {tg : Tg} {past ahead : List Stand}
/-- what the desk owns is no tuple, no table -/
theorem DeskAt.kind (h : DeskAt C CM H D M tg past ahead) : ∀ b ∈ D.own, ∀ o, H b = some o → (∀ xs, o ≠ .tup xs) ∧ (∀ ps, o ≠ .tbl ps) ∧ ∀ c q, o ≠ LamX.CodeO c q := fun b hb o e => by
  have fin : ∀ {u : HO}, H b = some u → ((∀ xs, u ≠ .tup xs) ∧ (∀ ps, u ≠ .tbl ps) ∧ ∀ c q, u ≠ LamX.CodeO c q) → (∀ xs, o ≠ .tup xs) ∧ (∀ ps, o ≠ .tbl ps) ∧ ∀ c q, o ≠ LamX.CodeO c q := fun {u} z w => by
    rw [z] at e
    rw [← Option.some.inj e]
    exact w
  have fL : ∀ {xs : List V}, H b = some (.lst xs) → (∀ xs, o ≠ .tup xs) ∧ (∀ ps, o ≠ .tbl ps) ∧ ∀ c q, o ≠ LamX.CodeO c q := fun z => fin z ⟨fun _ y => (by cases y), fun _ y => (by cases y), fun _ _ y => by unfold LamX.CodeO at y; cases y⟩
  have fD : ∀ {xs : List (Key × V)}, H b = some (.dK xs) → (∀ xs, o ≠ .tup xs) ∧ (∀ ps, o ≠ .tbl ps) ∧ ∀ c q, o ≠ LamX.CodeO c q := fun z => fin z ⟨fun _ y => (by cases y), fun _ y => (by cases y), fun _ _ y => by unfold LamX.CodeO at y; cases y⟩
  have fI : ∀ {c d : Addr} {xs : List (Str × V)}, H b = some (.ins c d xs) → (∀ xs, o ≠ .tup xs) ∧ (∀ ps, o ≠ .tbl ps) ∧ ∀ c q, o ≠ LamX.CodeO c q := fun z => fin z ⟨fun _ y => (by cases y), fun _ y => (by cases y), fun _ _ y => by unfold LamX.CodeO at y; cases y⟩
  rcases List.mem_cons.mp hb with z | hb
  · exact fI (by rw [z]; exact h.ins)
  rcases List.mem_cons.mp hb with z | hb
  · exact fD (by rw [z]; exact h.tgd)
  rcases List.mem_cons.mp hb with z | hb
  · exact fL (by rw [z]; exact h.pst)
  rcases List.mem_cons.mp hb with z | hb
  · exact fL (by rw [z]; exact h.aht)
  rcases List.mem_append.mp hb with hb | hb
  · have go : ∀ {tls : List Addr} {tg : Tg}, TgL H tls tg → b ∈ tls → ∃ xs, H b = some (.lst xs) := fun {tls tg} h hb => by
      induction h with
      | nil => exact nomatch hb
      | cons h _ ih =>
        rcases List.mem_cons.mp hb with e | hb
        · rw [e]; exact ⟨_, h⟩
        · exact ih hb
    obtain ⟨xs, z⟩ := go h.tgl hb
    exact fL z
  rcases List.mem_cons.mp hb with z | hb
  · exact fI (by rw [z]; exact MapG.ins h.map)
  rcases List.mem_cons.mp hb with z | hb
  · exact fL (by rw [z]; exact MapG.lst h.map)
  · obtain ⟨k, z⟩ := MapG.dcts h.map b hb
    exact fD z
theorem DeskAt.keepT (h : DeskAt C CM H D M tg past ahead) (s : SameD D.own H H') : KeepT H H' := fun b xs e => s b _ (fun z => (h.kind b z _ e).1 xs rfl) e
theorem DeskAt.tabs {T : List (Addr × Str)} (h : DeskAt C CM H D M tg past ahead) (t : LamX.Tabs T H) (s : SameD D.own H H') : LamX.Tabs T H' := fun p hp => by
  obtain ⟨ps, h1, h2, h3⟩ := t p hp
  refine ⟨ps, s _ _ (fun z => (h.kind _ z _ h1).2.1 ps rfl) h1, h2, fun pos cv hc => ?_⟩
  obtain ⟨c, e1, e2⟩ := h3 pos cv hc
  exact ⟨c, e1, s _ _ (fun z => (h.kind _ z _ e2).2.2 c p.2 rfl) e2⟩
theorem DeskAt.ext (h : DeskAt C CM H D M tg past ahead) (s : ExtN H H') : DeskAt C CM H' D M tg past ahead where
  ins := s _ _ h.ins fun _ z => by cases z
  map := MapG.ext h.map s
  tgd := s _ _ h.tgd fun _ z => by cases z
  tgl := TgL.ext s h.tgl
  tnd := h.tnd
  tlen := h.tlen
  tgw := h.tgw
  pst := lst_ext s h.pst
  psA := stands_ext s h.psA
  aht := lst_ext s h.aht
  asA := stands_ext s h.asA
  nd := h.nd
  sep := h.sep
end
/-! ### parts of a desk set anew -/
structure OwnNe (D : DeskR) : Prop where
  kt : D.dk ≠ D.td
  kp : D.dk ≠ D.pa
  ka : D.dk ≠ D.ah
  tp : D.td ≠ D.pa
  ta : D.td ≠ D.ah
  pa : D.pa ≠ D.ah
  k : ∀ b ∈ D.tls ++ D.R.own, b ≠ D.dk
  t : ∀ b ∈ D.tls ++ D.R.own, b ≠ D.td
  p : ∀ b ∈ D.tls ++ D.R.own, b ≠ D.pa
  a : ∀ b ∈ D.tls ++ D.R.own, b ≠ D.ah
theorem own_ne {D : DeskR} (h : D.own.Nodup) : OwnNe D := by
  obtain ⟨h1, h⟩ := List.nodup_cons.mp h
  obtain ⟨h2, h⟩ := List.nodup_cons.mp h
  obtain ⟨h3, h⟩ := List.nodup_cons.mp h
  obtain ⟨h4, h⟩ := List.nodup_cons.mp h
  refine ⟨fun e => h1 ?_, fun e => h1 ?_, fun e => h1 ?_, fun e => h2 ?_, fun e => h2 ?_, fun e => h3 ?_, fun b hb e => h1 ?_, fun b hb e => h2 ?_, fun b hb e => h3 ?_, fun b hb e => h4 ?_⟩
  · rw [e]; exact List.mem_cons_self ..
  · rw [e]; exact List.mem_cons_of_mem _ (List.mem_cons_self ..)
  · rw [e]; exact List.mem_cons_of_mem _ (List.mem_cons_of_mem _ (List.mem_cons_self ..))
  · rw [e]; exact List.mem_cons_self ..
  · rw [e]; exact List.mem_cons_of_mem _ (List.mem_cons_self ..)
  · rw [e]; exact List.mem_cons_self ..
  · rw [← e]; exact List.mem_cons_of_mem _ (List.mem_cons_of_mem _ (List.mem_cons_of_mem _ hb))
  · rw [← e]; exact List.mem_cons_of_mem _ (List.mem_cons_of_mem _ hb)
  · rw [← e]; exact List.mem_cons_of_mem _ hb
  · rw [← e]; exact hb
section
variable {C CM : Addr} {H H' : Hp} {D : DeskR} {M : PM} {tg : Tg} {past ahead : List Stand}
theorem sameD_upd {H : Hp} {a : Addr} {o : HO} : SameD [a] H (upd H a o) := fun b x n e => by rw [upd_ne (fun z => n (by rw [z]; simp))]; exact e
/-- the past's list, in place -/
theorem DeskAt.setPast (h : DeskAt C CM H D M tg past ahead) {ps' : List (Addr × List Addr)} {past' : List Stand} (A : Paired (fun p st => StAt H p.1 st p.2) ps' past') (sp : ∀ p ∈ ps', ∀ b ∈ p.2, b ∉ D.own) :
    DeskAt C CM (upd H D.pa (.lst (ps'.map fun p => V.ref p.1))) { D with ps := ps' } M tg past' ahead ∧ DeskTo H (upd H D.pa (.lst (ps'.map fun p => V.ref p.1))) D { D with ps := ps' } := by
  have ne := own_ne h.nd
  have s : SameD [D.pa] H (upd H D.pa (.lst (ps'.map fun p => V.ref p.1))) := sameD_upd
  have kt : KeepT H (upd H D.pa (.lst (ps'.map fun p => V.ref p.1))) := keepT_upd h.pst (fun xs e => by cases e)
  have no : ∀ {b : Addr}, b ≠ D.pa → b ∉ [D.pa] := fun n z => n (List.mem_singleton.mp z)
  have paO : D.pa ∈ D.own := List.mem_cons_of_mem _ (List.mem_cons_of_mem _ (List.mem_cons_self ..))
  refine ⟨⟨s _ _ (no ne.kp) h.ins, MapG.offG h.map s kt fun b hb => no (ne.p b (List.mem_append_right _ hb)), s _ _ (no ne.tp) h.tgd, h.tgl.keep fun b hb o e => s b o (no (ne.p b (List.mem_append_left _ hb))) e, h.tnd, h.tlen, h.tgw, upd_same, stands_keep kt A fun p hp b hb o e => s b o (no fun z => sp p hp b hb (by rw [z]; exact paO)) e, s _ _ (no ne.pa.symm) h.aht, stands_keep kt h.asA fun p hp b hb o e => s b o (no fun z => h.sep p (List.mem_append_right _ hp) b hb (by rw [z]; exact paO)) e, h.nd, fun p hp => ?_⟩, rfl, fun b o n e => s b o (no fun z => n (by rw [z]; exact paO)) e, kt, fun b hb => .inl hb⟩
  rcases List.mem_append.mp hp with hp | hp
  · exact sp p hp
  · exact h.sep p (List.mem_append_right _ hp)
/-- the list of what is ahead, in place -/
theorem DeskAt.setAhead (h : DeskAt C CM H D M tg past ahead) {as' : List (Addr × List Addr)} {ahead' : List Stand} (A : Paired (fun p st => StAt H p.1 st p.2) as' ahead') (sp : ∀ p ∈ as', ∀ b ∈ p.2, b ∉ D.own) :
    DeskAt C CM (upd H D.ah (.lst (as'.map fun p => V.ref p.1))) { D with as := as' } M tg past ahead' ∧ DeskTo H (upd H D.ah (.lst (as'.map fun p => V.ref p.1))) D { D with as := as' } := by
  have ne := own_ne h.nd
  have s : SameD [D.ah] H (upd H D.ah (.lst (as'.map fun p => V.ref p.1))) := sameD_upd
  have kt : KeepT H (upd H D.ah (.lst (as'.map fun p => V.ref p.1))) := keepT_upd h.aht (fun xs e => by cases e)
  have no : ∀ {b : Addr}, b ≠ D.ah → b ∉ [D.ah] := fun n z => n (List.mem_singleton.mp z)
  have ahO : D.ah ∈ D.own := List.mem_cons_of_mem _ (List.mem_cons_of_mem _ (List.mem_cons_of_mem _ (List.mem_cons_self ..)))
  refine ⟨⟨s _ _ (no ne.ka) h.ins, MapG.offG h.map s kt fun b hb => no (ne.a b (List.mem_append_right _ hb)), s _ _ (no ne.ta) h.tgd, h.tgl.keep fun b hb o e => s b o (no (ne.a b (List.mem_append_left _ hb))) e, h.tnd, h.tlen, h.tgw, s _ _ (no ne.pa) h.pst, stands_keep kt h.psA fun p hp b hb o e => s b o (no fun z => h.sep p (List.mem_append_left _ hp) b hb (by rw [z]; exact ahO)) e, upd_same, stands_keep kt A fun p hp b hb o e => s b o (no fun z => sp p hp b hb (by rw [z]; exact ahO)) e, h.nd, fun p hp => ?_⟩, rfl, fun b o n e => s b o (no fun z => n (by rw [z]; exact ahO)) e, kt, fun b hb => .inl hb⟩
  rcases List.mem_append.mp hp with hp | hp
  · exact h.sep p (List.mem_append_left _ hp)
  · exact sp p hp
/-- a new, empty list of what is ahead -/
theorem DeskAt.newAhead (h : DeskAt C CM H D M tg past ahead) {ah : Addr} (nah : H ah = none) :
    DeskAt C CM (upd (upd H ah (.lst [])) D.dk (.ins C D.dx [("here", .ref D.R.m), ("tags_of", .ref D.td), ("past", .ref D.pa), ("ahead", .ref ah)])) { D with ah := ah, as := [] } M tg past [] ∧
    DeskTo H (upd (upd H ah (.lst [])) D.dk (.ins C D.dx [("here", .ref D.R.m), ("tags_of", .ref D.td), ("past", .ref D.pa), ("ahead", .ref ah)])) D { D with ah := ah, as := [] } := by
  have ne := own_ne h.nd
  have nown := h.notin nah
  have s1 : Same H (upd H ah (.lst [])) := same_upd nah
  have h1 := h.same s1
  have hah := upd_same (H := H) (a := ah) (o := .lst [])
  generalize upd H ah (.lst []) = H1 at s1 h1 hah ⊢
  have s : SameD [D.dk] H1 (upd H1 D.dk (.ins C D.dx [("here", .ref D.R.m), ("tags_of", .ref D.td), ("past", .ref D.pa), ("ahead", .ref ah)])) := sameD_upd
  have kt : KeepT H1 (upd H1 D.dk (.ins C D.dx [("here", .ref D.R.m), ("tags_of", .ref D.td), ("past", .ref D.pa), ("ahead", .ref ah)])) := keepT_upd h1.ins (fun xs e => by cases e)
  have no : ∀ {b : Addr}, b ≠ D.dk → b ∉ [D.dk] := fun n z => n (List.mem_singleton.mp z)
  have dkO : D.dk ∈ D.own := List.mem_cons_self ..
  have ahk : ah ≠ D.dk := fun z => nown (by rw [z]; exact dkO)
  have subO : ∀ b, b ∈ DeskR.own { D with ah := ah, as := [] } → b ∈ D.own ∨ b = ah := fun b hb => by
    simp only [DeskR.own, List.mem_cons] at hb ⊢
    rcases hb with e | e | e | e | hb
    · exact .inl (.inl e)
    · exact .inl (.inr (.inl e))
    · exact .inl (.inr (.inr (.inl e)))
    · exact .inr e
    · exact .inl (.inr (.inr (.inr (.inr hb))))
  refine ⟨⟨upd_same, MapG.offG h1.map s kt fun b hb => no (ne.k b (List.mem_append_right _ hb)), s _ _ (no ne.kt.symm) h1.tgd, h1.tgl.keep fun b hb o e => s b o (no (ne.k b (List.mem_append_left _ hb))) e, h.tnd, h.tlen, h.tgw, s _ _ (no ne.kp.symm) h1.pst, stands_keep kt h1.psA fun p hp b hb o e => s b o (no fun z => h.sep p (List.mem_append_left _ hp) b hb (by rw [z]; exact dkO)) e, s _ _ (no ahk) hah, .nil, ?_, fun p hp b hb z => ?_⟩, rfl, fun b o n e => s b o (no fun z => n (by rw [z]; exact dkO)) (s1 b o e), s1.keepT.trans kt, fun b hb => ?_⟩
  · have h0 := h.nd
    unfold DeskR.own at h0 ⊢
    simp only [List.nodup_cons, List.mem_cons, not_or] at h0 ⊢
    have n1 : ∀ b ∈ D.own, ah ≠ b := fun b hb z => nown (by rw [z]; exact hb)
    refine ⟨⟨h0.1.1, h0.1.2.1, fun z => ahk z.symm, h0.1.2.2.2⟩, ⟨h0.2.1.1, fun z => n1 _ (List.mem_cons_of_mem _ (List.mem_cons_self ..)) z.symm, h0.2.1.2.2⟩, ⟨fun z => n1 _ (List.mem_cons_of_mem _ (List.mem_cons_of_mem _ (List.mem_cons_self ..))) z.symm, h0.2.2.1.2⟩, fun z => nown (List.mem_cons_of_mem _ (List.mem_cons_of_mem _ (List.mem_cons_of_mem _ (List.mem_cons_of_mem _ z)))), h0.2.2.2.2⟩
  · have hp' : p ∈ D.ps := by simpa using hp
    rcases subO b z with h2 | h2
    · exact h.sep p (List.mem_append_left _ hp') b hb h2
    · have go : ∀ {ps : List (Addr × List Addr)} {sts : List Stand}, Paired (fun p st => StAt H p.1 st p.2) ps sts → p ∈ ps → ∃ st, StAt H p.1 st p.2 := fun {ps sts} hh hm => by
        induction hh with
        | nil => exact nomatch hm
        | cons h _ ih =>
          rcases List.mem_cons.mp hm with e | hm
          · rw [e]; exact ⟨_, h⟩
          · exact ih hm
      obtain ⟨st, hst⟩ := go h.psA hp'
      obtain ⟨o, e⟩ := hst.has b hb
      rw [h2, nah] at e; cases e
  · rcases subO b hb with h2 | h2
    · exact .inl h2
    · rw [h2]; exact .inr nah
end
/-- marks put one behind the other -/
theorem take_next {P : PM} (ok : PMOk P) {i : Nat} {n : Str} (e : (namesOf P)[i]? = some n) : nameS n = true ∧ n ∉ namesOf (P.take i) ∧ (P.take i).length < 60 ∧ PtOk (ptOf P n) ∧ P.take (i + 1) = P.take i ++ [(n, ptOf P n)] := by
  have hn : n ∈ namesOf P := List.mem_of_getElem? e
  have hi : i < P.length := by
    have := (List.getElem?_eq_some_iff.mp e).1
    unfold namesOf at this
    simpa using this
  have e2 : namesOf (P.take i) = (namesOf P).take i := by unfold namesOf; rw [List.map_take]
  have eP : P[i]? = some (n, ptOf P n) := by
    have h1 := pm_names ok.nodup
    conv => lhs; rw [h1]
    rw [List.getElem?_map, e]
    rfl
  refine ⟨ok.name hn, fun z => ?_, ?_, ok.pt hn, ?_⟩
  · rw [e2] at z
    have h3 := (List.getElem?_eq_some_iff.mp e)
    have h4 := ok.nodup
    rw [← List.take_append_drop i (namesOf P), List.drop_eq_getElem_cons h3.1, h3.2] at h4
    exact (List.nodup_append.mp h4).2.2 n z n (List.mem_cons_self ..) rfl
  · have := ok.len
    rw [List.length_take]
    omega
  · rw [List.take_add_one, eP]
    rfl
theorem PMOk.sortP {M : PM} (ok : PMOk M) : PMOk (sortP M) := ok.perm (sortP_perm ok.nodup).symm
theorem names_sortP (M : PM) : namesOf (sortP M) = sortS (namesOf M) := names_pairs M _
theorem marks_sortP {H : Hp} {ts : List Addr} {M : PM} (ok : PMOk M) (h : MarksAt H ts (sortS (namesOf M)) M) : MarksAt H ts (namesOf (sortP M)) (sortP M) := by
  rw [names_sortP]
  exact marks_pt h fun n hn => (ptOf_perm (sortP_perm ok.nodup) ok.sortP.nodup (by rw [names_sortP]; exact hn)).symm
/-- the i-th of the marks -/
theorem MarksAt.at {H : Hp} {M : PM} {v : V} : ∀ {ts : List Addr} {L : List Str} {i : Nat}, MarksAt H ts L M → (ts.map V.ref)[i]? = some v → ∃ t n u, v = V.ref t ∧ t ∈ ts ∧ L[i]? = some n ∧ H t = some (.tup [.str n, u]) ∧ PtAt H u (ptOf M n)
  | _, _, _, .nil, h => by simp at h
  | _, _, 0, .cons (a := t) (b := n) h _, e => by
    obtain ⟨u, h1, h2⟩ := h
    simp at e
    exact ⟨t, n, u, e.symm, List.mem_cons_self .., by simp, h1, h2⟩
  | _, _, i + 1, .cons h tl, e => by
    obtain ⟨t, n, u, e1, h1, h2, h3, h4⟩ := MarksAt.at tl (i := i) (by simpa using e)
    exact ⟨t, n, u, e1, List.mem_cons_of_mem _ h1, by simpa using h2, h3, h4⟩
end NM

namespace NM
open PySem PySem.Spec PyProof.Rows L2 HotX L2H
open LamX (ExtN)
/-! ### desks: what a deed changes -/
theorem own_parts {D : DeskR} : D.own.Nodup ↔ (OwnNe D ∧ D.tls.Nodup ∧ D.R.own.Nodup ∧ ∀ b ∈ D.tls, b ∉ D.R.own) := by
  constructor
  · intro h
    have ne := own_ne h
    obtain ⟨_, h⟩ := List.nodup_cons.mp h
    obtain ⟨_, h⟩ := List.nodup_cons.mp h
    obtain ⟨_, h⟩ := List.nodup_cons.mp h
    obtain ⟨_, h⟩ := List.nodup_cons.mp h
    obtain ⟨h1, h2, h3⟩ := List.nodup_append.mp h
    exact ⟨ne, h1, h2, fun b hb hb2 => h3 b hb b hb2 rfl⟩
  · rintro ⟨ne, h1, h2, h3⟩
    refine List.nodup_cons.mpr ⟨fun z => ?_, List.nodup_cons.mpr ⟨fun z => ?_, List.nodup_cons.mpr ⟨fun z => ?_, List.nodup_cons.mpr ⟨fun z => ne.a _ z rfl, List.nodup_append.mpr ⟨h1, h2, fun a ha b hb e => h3 a ha (by rw [e]; exact hb)⟩⟩⟩⟩⟩
    · rcases List.mem_cons.mp z with z | z
      · exact ne.kt z
      rcases List.mem_cons.mp z with z | z
      · exact ne.kp z
      rcases List.mem_cons.mp z with z | z
      · exact ne.ka z
      · exact ne.k _ z rfl
    · rcases List.mem_cons.mp z with z | z
      · exact ne.tp z
      rcases List.mem_cons.mp z with z | z
      · exact ne.ta z
      · exact ne.t _ z rfl
    · rcases List.mem_cons.mp z with z | z
      · exact ne.pa z
      · exact ne.p _ z rfl
theorem own_tls {D : DeskR} {b : Addr} (h : b ∈ D.tls) : b ∈ D.own := List.mem_cons_of_mem _ (List.mem_cons_of_mem _ (List.mem_cons_of_mem _ (List.mem_cons_of_mem _ (List.mem_append_left _ h))))
theorem own_R {D : DeskR} {b : Addr} (h : b ∈ D.R.own) : b ∈ D.own := List.mem_cons_of_mem _ (List.mem_cons_of_mem _ (List.mem_cons_of_mem _ (List.mem_cons_of_mem _ (List.mem_append_right _ h))))
theorem own_dk {D : DeskR} : D.dk ∈ D.own := List.mem_cons_self ..
theorem own_td {D : DeskR} : D.td ∈ D.own := List.mem_cons_of_mem _ (List.mem_cons_self ..)
theorem own_pa {D : DeskR} : D.pa ∈ D.own := List.mem_cons_of_mem _ (List.mem_cons_of_mem _ (List.mem_cons_self ..))
theorem own_ah {D : DeskR} : D.ah ∈ D.own := List.mem_cons_of_mem _ (List.mem_cons_of_mem _ (List.mem_cons_of_mem _ (List.mem_cons_self ..)))
theorem own_cases {D : DeskR} {b : Addr} (h : b ∈ D.own) : b = D.dk ∨ b = D.td ∨ b = D.pa ∨ b = D.ah ∨ b ∈ D.tls ∨ b ∈ D.R.own := by
  unfold DeskR.own at h
  simpa only [List.mem_cons, List.mem_append] using h
theorem StAt.to {H H' : Hp} {D D' : DeskR} {t : Addr} {st : Stand} {fp : List Addr} (h : StAt H t st fp) (n : ∀ b ∈ fp, b ∉ D.own) (a : DeskTo H H' D D') : StAt H' t st fp ∧ ∀ b ∈ fp, b ∉ D'.own := by
  refine ⟨h.keep a.kt fun b hb o e => a.keep b o (n b hb) e, fun b hb => ?_⟩
  obtain ⟨o, e⟩ := h.has b hb
  exact (a.out e (n b hb)).1
section
variable {C CM : Addr} {H H' H1 : Hp} {D D' : DeskR} {M M' : PM} {tg tg' : Tg} {past ahead : List Stand}
theorem DeskAt.psT (h : DeskAt C CM H D M tg past ahead) (a : DeskTo H H' D D') : Paired (fun p st => StAt H' p.1 st p.2) D.ps past := stands_keep a.kt h.psA fun p hp b hb o e => a.keep b o (h.sep p (List.mem_append_left _ hp) b hb) e
theorem DeskAt.asT (h : DeskAt C CM H D M tg past ahead) (a : DeskTo H H' D D') : Paired (fun p st => StAt H' p.1 st p.2) D.as ahead := stands_keep a.kt h.asA fun p hp b hb o e => a.keep b o (h.sep p (List.mem_append_right _ hp) b hb) e
theorem stands_has {H : Hp} : ∀ {ps : List (Addr × List Addr)} {sts : List Stand}, Paired (fun p st => StAt H p.1 st p.2) ps sts → ∀ p ∈ ps, ∀ b ∈ p.2, ∃ o, H b = some o
  | _, _, .nil, p, hp => nomatch hp
  | _, _, .cons h t, p, hp => by
    rcases List.mem_cons.mp hp with e | hp
    · rw [e]; exact h.has
    · exact stands_has t p hp
/-- the parts set anew, the stands as they were -/
theorem DeskAt.change (h : DeskAt C CM H D M tg past ahead) (a : DeskTo H H' D D') (eps : D'.ps = D.ps) (eas : D'.as = D.as)
    (ins : H' D'.dk = some (.ins C D'.dx [("here", .ref D'.R.m), ("tags_of", .ref D'.td), ("past", .ref D'.pa), ("ahead", .ref D'.ah)])) (map : MapAt CM H' D'.R M')
    (tgd : H' D'.td = some (.dK (tgK tg' D'.tls))) (tgl : TgL H' D'.tls tg') (tnd : (tg'.map (·.1)).Nodup) (tlen : tg'.length ≤ 60) (tgw : ∀ p ∈ tg', p.2.length ≤ 5 ∧ ∀ w ∈ p.2, nameS w = true)
    (pst : H' D'.pa = some (.lst (D.ps.map fun p => V.ref p.1))) (aht : H' D'.ah = some (.lst (D.as.map fun p => V.ref p.1))) (nd : D'.own.Nodup) : DeskAt C CM H' D' M' tg' past ahead := by
  refine ⟨ins, map, tgd, tgl, tnd, tlen, tgw, by rw [eps]; exact pst, by rw [eps]; exact h.psT a, by rw [eas]; exact aht, by rw [eas]; exact h.asT a, nd, ?_⟩
  rw [eps, eas]
  intro p hp b hb z
  have ho : ∃ o, H b = some o := by
    rcases List.mem_append.mp hp with hp | hp
    · exact stands_has h.psA p hp b hb
    · exact stands_has h.asA p hp b hb
  obtain ⟨o, e⟩ := ho
  exact (a.out e (h.sep p hp b hb)).1 z
/-- the map, in place -/
theorem DeskAt.setMap (h : DeskAt C CM H D M tg past ahead) (s : SameD D.R.foot H H') (m : MapAt CM H' D.R M') : DeskAt C CM H' D M' tg past ahead ∧ DeskTo H H' D D := by
  obtain ⟨ne, n1, n2, n3⟩ := own_parts.mp h.nd
  have kt : KeepT H H' := s.keepT (MapG.dcts h.map)
  have a : DeskTo H H' D D := ⟨rfl, s.mono fun b hb => own_R (MapR.foot_own hb), kt, fun b hb => .inl hb⟩
  have nf : ∀ {b : Addr}, (∀ c ∈ D.tls ++ D.R.own, c ≠ b) → b ∉ D.R.foot := fun n z => n _ (List.mem_append_right _ (MapR.foot_own z)) rfl
  exact ⟨h.change a rfl rfl (s _ _ (nf ne.k) h.ins) m (s _ _ (nf ne.t) h.tgd) (h.tgl.keep fun b hb o e => s b o (fun z => n3 b hb (MapR.foot_own z)) e) h.tnd h.tlen h.tgw (s _ _ (nf ne.p) h.pst) (s _ _ (nf ne.a) h.aht) h.nd, a⟩
/-- the dict of tags, in place; its lists, some of them new -/
theorem DeskAt.setTags (h : DeskAt C CM H D M tg past ahead) (s : Same H H1) {tls' : List Addr} (T : TgL H1 tls' tg') (tnd : (tg'.map (·.1)).Nodup) (tlen : tg'.length ≤ 60) (tgw : ∀ p ∈ tg', p.2.length ≤ 5 ∧ ∀ w ∈ p.2, nameS w = true) (nd : tls'.Nodup) (fr : ∀ b ∈ tls', b ∈ D.tls ∨ H b = none) :
    DeskAt C CM (upd H1 D.td (.dK (tgK tg' tls'))) { D with tls := tls' } M tg' past ahead ∧ DeskTo H (upd H1 D.td (.dK (tgK tg' tls'))) D { D with tls := tls' } := by
  obtain ⟨ne, n1, n2, n3⟩ := own_parts.mp h.nd
  have h1 := h.same s
  have s2 : SameD [D.td] H1 (upd H1 D.td (.dK (tgK tg' tls'))) := sameD_upd
  have kt : KeepT H1 (upd H1 D.td (.dK (tgK tg' tls'))) := keepT_upd h1.tgd (fun xs e => by cases e)
  have no : ∀ {b : Addr}, b ≠ D.td → b ∉ [D.td] := fun n z => n (List.mem_singleton.mp z)
  have nw : ∀ b, H b = none → b ∉ D.own := fun b e => h.notin e
  have ft : ∀ b ∈ tls', b ≠ D.td := fun b hb e => by
    rcases fr b hb with z | z
    · exact ne.t b (List.mem_append_left _ z) e
    · exact nw b z (by rw [e]; exact own_td)
  have a : DeskTo H (upd H1 D.td (.dK (tgK tg' tls'))) D { D with tls := tls' } := ⟨rfl, fun b o n e => s2 b o (no fun z => n (by rw [z]; exact own_td)) (s b o e), s.keepT.trans kt, fun b hb => by
    rcases own_cases hb with z | z | z | z | z | z
    · rw [z]; exact .inl own_dk
    · rw [z]; exact .inl own_td
    · rw [z]; exact .inl own_pa
    · rw [z]; exact .inl own_ah
    · rcases fr b z with z | z
      · exact .inl (own_tls z)
      · exact .inr z
    · exact .inl (own_R z)⟩
  have cs : ∀ (c : Addr), c ∈ D.own → (∀ b ∈ D.tls ++ D.R.own, b ≠ c) → ∀ b ∈ tls' ++ D.R.own, b ≠ c := fun c hc n b hb e => by
    rcases List.mem_append.mp hb with hb | hb
    · rcases fr b hb with z | z
      · exact n b (List.mem_append_left _ z) e
      · exact nw b z (by rw [e]; exact hc)
    · exact n b (List.mem_append_right _ hb) e
  refine ⟨h.change a rfl rfl (s2 _ _ (no ne.kt) h1.ins) (MapG.offG h1.map s2 kt fun b hb => no (ne.t b (List.mem_append_right _ hb))) upd_same (T.keep fun b hb o e => s2 b o (no (ft b hb)) e) tnd tlen tgw (s2 _ _ (no ne.tp.symm) h1.pst) (s2 _ _ (no ne.ta.symm) h1.aht) (own_parts.mpr ⟨⟨ne.kt, ne.kp, ne.ka, ne.tp, ne.ta, ne.pa, cs _ own_dk ne.k, cs _ own_td ne.t, cs _ own_pa ne.p, cs _ own_ah ne.a⟩, nd, n2, fun b hb z => ?_⟩), a⟩
  rcases fr b hb with y | y
  · exact n3 b y z
  · exact nw b y (own_R z)
/-- one list of tags, in place -/
theorem DeskAt.setTagL (h : DeskAt C CM H D M tg past ahead) {tl : Addr} {xs : List V} (ht : tl ∈ D.tls) (T : TgL (upd H tl (.lst xs)) D.tls tg') (ek : tgK tg' D.tls = tgK tg D.tls) (tnd : (tg'.map (·.1)).Nodup) (tlen : tg'.length ≤ 60) (tgw : ∀ p ∈ tg', p.2.length ≤ 5 ∧ ∀ w ∈ p.2, nameS w = true) :
    DeskAt C CM (upd H tl (.lst xs)) D M tg' past ahead ∧ DeskTo H (upd H tl (.lst xs)) D D := by
  obtain ⟨ne, n1, n2, n3⟩ := own_parts.mp h.nd
  have s2 : SameD [tl] H (upd H tl (.lst xs)) := sameD_upd
  obtain ⟨o0, e0⟩ := h.has tl (own_tls ht)
  have kt : KeepT H (upd H tl (.lst xs)) := keepT_upd e0 (fun ys e => (h.kind tl (own_tls ht) o0 e0).1 ys e)
  have a : DeskTo H (upd H tl (.lst xs)) D D := ⟨rfl, fun b o n e => s2 b o (fun z => n (by rw [List.mem_singleton.mp z]; exact own_tls ht)) e, kt, fun b hb => .inl hb⟩
  have no : ∀ {b : Addr}, (∀ c ∈ D.tls ++ D.R.own, c ≠ b) → b ∉ [tl] := fun n z => n tl (List.mem_append_left _ ht) (List.mem_singleton.mp z).symm
  exact ⟨h.change a rfl rfl (s2 _ _ (no ne.k) h.ins) (MapG.offG h.map s2 kt fun b hb z => n3 tl ht (by rw [← List.mem_singleton.mp z]; exact hb)) (by rw [ek]; exact s2 _ _ (no ne.t) h.tgd) T tnd tlen tgw (s2 _ _ (no ne.p) h.pst) (s2 _ _ (no ne.a) h.aht) h.nd, a⟩
/-- another map -/
theorem DeskAt.newHere (h : DeskAt C CM H D M tg past ahead) (s : Same H H1) {R : MapR} (fr : Fresh H R) (m : MapAt CM H1 R M') :
    DeskAt C CM (upd H1 D.dk (.ins C D.dx [("here", .ref R.m), ("tags_of", .ref D.td), ("past", .ref D.pa), ("ahead", .ref D.ah)])) { D with R := R } M' tg past ahead ∧ DeskTo H (upd H1 D.dk (.ins C D.dx [("here", .ref R.m), ("tags_of", .ref D.td), ("past", .ref D.pa), ("ahead", .ref D.ah)])) D { D with R := R } := by
  obtain ⟨ne, n1, n2, n3⟩ := own_parts.mp h.nd
  have h1 := h.same s
  have ndR := MapG.own_nd m
  have s2 : SameD [D.dk] H1 (upd H1 D.dk (.ins C D.dx [("here", .ref R.m), ("tags_of", .ref D.td), ("past", .ref D.pa), ("ahead", .ref D.ah)])) := sameD_upd
  have kt : KeepT H1 (upd H1 D.dk (.ins C D.dx [("here", .ref R.m), ("tags_of", .ref D.td), ("past", .ref D.pa), ("ahead", .ref D.ah)])) := keepT_upd h1.ins (fun xs e => by cases e)
  have no : ∀ {b : Addr}, b ≠ D.dk → b ∉ [D.dk] := fun n z => n (List.mem_singleton.mp z)
  have nw : ∀ b ∈ R.own, b ∉ D.own := fun b hb => h.notin (fr b hb)
  have nR : ∀ c, c ∈ D.own → ∀ b ∈ R.own, b ≠ c := fun c hc b hb e => nw b hb (by rw [e]; exact hc)
  have a : DeskTo H (upd H1 D.dk (.ins C D.dx [("here", .ref R.m), ("tags_of", .ref D.td), ("past", .ref D.pa), ("ahead", .ref D.ah)])) D { D with R := R } := ⟨rfl, fun b o n e => s2 b o (no fun z => n (by rw [z]; exact own_dk)) (s b o e), s.keepT.trans kt, fun b hb => by
    rcases own_cases hb with z | z | z | z | z | z
    · rw [z]; exact .inl own_dk
    · rw [z]; exact .inl own_td
    · rw [z]; exact .inl own_pa
    · rw [z]; exact .inl own_ah
    · exact .inl (own_tls z)
    · exact .inr (fr b z)⟩
  have cs : ∀ (c : Addr), c ∈ D.own → (∀ b ∈ D.tls ++ D.R.own, b ≠ c) → ∀ b ∈ D.tls ++ R.own, b ≠ c := fun c hc n b hb => by
    rcases List.mem_append.mp hb with hb | hb
    · exact n b (List.mem_append_left _ hb)
    · exact nR c hc b hb
  exact ⟨h.change a rfl rfl upd_same (MapG.offG m s2 kt fun b hb => no (nR _ own_dk b hb)) (s2 _ _ (no ne.kt.symm) h1.tgd) (h1.tgl.keep fun b hb o e => s2 b o (no (ne.k b (List.mem_append_left _ hb))) e) h.tnd h.tlen h.tgw (s2 _ _ (no ne.kp.symm) h1.pst) (s2 _ _ (no ne.ka.symm) h1.aht) (own_parts.mpr ⟨⟨ne.kt, ne.kp, ne.ka, ne.tp, ne.ta, ne.pa, cs _ own_dk ne.k, cs _ own_td ne.t, cs _ own_pa ne.p, cs _ own_ah ne.a⟩, n1, ndR, fun b hb z => nw b z (own_tls hb)⟩), a⟩
/-- another dict of tags -/
theorem DeskAt.newTags (h : DeskAt C CM H D M tg past ahead) (s : Same H H1) {dd : Addr} {tls' : List Addr} (hd : H1 dd = some (.dK (tgK tg' tls'))) (T : TgL H1 tls' tg') (tnd : (tg'.map (·.1)).Nodup) (tlen : tg'.length ≤ 60) (tgw : ∀ p ∈ tg', p.2.length ≤ 5 ∧ ∀ w ∈ p.2, nameS w = true) (nd : tls'.Nodup) (frd : H dd = none) (fr : ∀ b ∈ tls', H b = none) (dn : dd ∉ tls') :
    DeskAt C CM (upd H1 D.dk (.ins C D.dx [("here", .ref D.R.m), ("tags_of", .ref dd), ("past", .ref D.pa), ("ahead", .ref D.ah)])) { D with td := dd, tls := tls' } M tg' past ahead ∧ DeskTo H (upd H1 D.dk (.ins C D.dx [("here", .ref D.R.m), ("tags_of", .ref dd), ("past", .ref D.pa), ("ahead", .ref D.ah)])) D { D with td := dd, tls := tls' } := by
  obtain ⟨ne, n1, n2, n3⟩ := own_parts.mp h.nd
  have h1 := h.same s
  have s2 : SameD [D.dk] H1 (upd H1 D.dk (.ins C D.dx [("here", .ref D.R.m), ("tags_of", .ref dd), ("past", .ref D.pa), ("ahead", .ref D.ah)])) := sameD_upd
  have kt : KeepT H1 (upd H1 D.dk (.ins C D.dx [("here", .ref D.R.m), ("tags_of", .ref dd), ("past", .ref D.pa), ("ahead", .ref D.ah)])) := keepT_upd h1.ins (fun xs e => by cases e)
  have no : ∀ {b : Addr}, b ≠ D.dk → b ∉ [D.dk] := fun n z => n (List.mem_singleton.mp z)
  have nw : ∀ b, H b = none → b ∉ D.own := fun b e => h.notin e
  have nR : ∀ c, c ∈ D.own → ∀ b ∈ tls', b ≠ c := fun c hc b hb e => nw b (fr b hb) (by rw [e]; exact hc)
  have dR : ∀ c, c ∈ D.own → c ≠ dd := fun c hc e => nw dd frd (by rw [← e]; exact hc)
  have a : DeskTo H (upd H1 D.dk (.ins C D.dx [("here", .ref D.R.m), ("tags_of", .ref dd), ("past", .ref D.pa), ("ahead", .ref D.ah)])) D { D with td := dd, tls := tls' } := ⟨rfl, fun b o n e => s2 b o (no fun z => n (by rw [z]; exact own_dk)) (s b o e), s.keepT.trans kt, fun b hb => by
    rcases own_cases hb with z | z | z | z | z | z
    · rw [z]; exact .inl own_dk
    · rw [z]; exact .inr frd
    · rw [z]; exact .inl own_pa
    · rw [z]; exact .inl own_ah
    · exact .inr (fr b z)
    · exact .inl (own_R z)⟩
  have cs : ∀ (c : Addr), c ∈ D.own → (∀ b ∈ D.tls ++ D.R.own, b ≠ c) → ∀ b ∈ tls' ++ D.R.own, b ≠ c := fun c hc n b hb => by
    rcases List.mem_append.mp hb with hb | hb
    · exact nR c hc b hb
    · exact n b (List.mem_append_right _ hb)
  refine ⟨h.change a rfl rfl upd_same (MapG.offG h1.map s2 kt fun b hb => no (ne.k b (List.mem_append_right _ hb))) (s2 _ _ (no (dR _ own_dk).symm) hd) (T.keep fun b hb o e => s2 b o (no (nR _ own_dk b hb)) e) tnd tlen tgw (s2 _ _ (no ne.kp.symm) h1.pst) (s2 _ _ (no ne.ka.symm) h1.aht) (own_parts.mpr ⟨⟨dR _ own_dk, ne.kp, ne.ka, (dR _ own_pa).symm, (dR _ own_ah).symm, ne.pa, cs _ own_dk ne.k, fun b hb e => ?_, cs _ own_pa ne.p, cs _ own_ah ne.a⟩, nd, n2, fun b hb z => nw b (fr b hb) (own_R z)⟩), a⟩
  rcases List.mem_append.mp hb with hb | hb
  · exact dn (by rw [← show b = dd from e]; exact hb)
  · exact dR b (own_R hb) e
end
/-! ### tags given and taken -/
def setTg (tg : Tg) (n : Str) (ws : List Str) : Tg := tg.map fun p => if p.1 = n then (p.1, ws) else p
def dropTg (tg : Tg) (n : Str) : Tg := tg.filter fun p => decide (p.1 ≠ n)
def setA (tg : Tg) (tls : List Addr) (n : Str) (l : Addr) : List Addr := (tg.zip tls).map fun p => if p.1.1 = n then l else p.2
def dropA (tg : Tg) (tls : List Addr) (n : Str) : List Addr := ((tg.zip tls).filter fun p => decide (p.1.1 ≠ n)).map (·.2)
theorem setTg_names (tg : Tg) (n : Str) (ws : List Str) : (setTg tg n ws).map (·.1) = tg.map (·.1) := by
  unfold setTg
  rw [List.map_map]
  refine List.map_congr_left fun p _ => ?_
  show (if p.1 = n then (p.1, ws) else p).1 = p.1
  by_cases e : p.1 = n
  · rw [if_pos e]
  · rw [if_neg e]
theorem setTg_none {tg : Tg} {n : Str} {ws : List Str} (h : n ∉ tg.map (·.1)) : setTg tg n ws = tg := by
  unfold setTg
  conv => rhs; rw [← List.map_id tg]
  refine List.map_congr_left fun p hp => ?_
  rw [if_neg fun e => h (List.mem_map.mpr ⟨p, hp, e⟩)]
  rfl
theorem dropTg_names (tg : Tg) (n : Str) : (dropTg tg n).map (·.1) = (tg.map (·.1)).filter fun m => decide (m ≠ n) := by
  unfold dropTg
  rw [List.filter_map]
  rfl
theorem tagOf_set : ∀ {tg : Tg} {n m : Str} {ws : List Str}, n ∈ tg.map (·.1) → tagOf (setTg tg n ws) m = if m = n then ws else tagOf tg m
  | [], n, m, ws, h => by simp at h
  | p :: tg, n, m, ws, h => by
    have ih := fun h => tagOf_set (tg := tg) (n := n) (m := m) (ws := ws) h
    have ec : setTg (p :: tg) n ws = (if p.1 = n then (p.1, ws) else p) :: setTg tg n ws := rfl
    rw [ec]
    by_cases e : p.1 = n
    · rw [if_pos e]
      by_cases c : m = n
      · rw [if_pos c]; exact tagOf_pos (by rw [c]; exact e)
      · rw [if_neg c]
        have c2 : ¬ p.1 = m := fun z => c (z.symm.trans e)
        rw [tagOf_neg (p := (p.1, ws)) c2, tagOf_neg c2]
        by_cases hn : n ∈ tg.map (·.1)
        · rw [ih hn, if_neg c]
        · rw [setTg_none hn]
    · rw [if_neg e]
      have hn : n ∈ tg.map (·.1) := by
        rw [List.map_cons] at h
        exact (List.mem_cons.mp h).elim (fun z => absurd z.symm e) id
      by_cases c : p.1 = m
      · rw [tagOf_pos c, if_neg (fun z => e (c.trans z)), tagOf_pos c]
      · rw [tagOf_neg c, tagOf_neg c, ih hn]
theorem tagOf_drop : ∀ {tg : Tg} {n m : Str}, m ≠ n → tagOf (dropTg tg n) m = tagOf tg m
  | [], n, m, _ => rfl
  | p :: tg, n, m, c => by
    have ih := tagOf_drop (tg := tg) c
    unfold dropTg at ih ⊢
    rw [List.filter_cons]
    by_cases e : p.1 = n
    · rw [if_neg (by simpa using e), ih, tagOf_neg (fun z => c (z.symm.trans e))]
    · rw [if_pos (by simpa using e)]
      by_cases d : p.1 = m
      · rw [tagOf_pos d, tagOf_pos d]
      · rw [tagOf_neg d, tagOf_neg d, ih]
theorem tagOf_snoc : ∀ {tg : Tg} {n m : Str} {ws : List Str}, n ∉ tg.map (·.1) → tagOf (tg ++ [(n, ws)]) m = if m = n then ws else tagOf tg m
  | [], n, m, ws, _ => by
    by_cases c : m = n
    · rw [if_pos c]; exact tagOf_pos c.symm
    · rw [if_neg c]; exact tagOf_neg (fun z => c z.symm)
  | p :: tg, n, m, ws, h => by
    rw [List.map_cons] at h
    have h1 := fun z => h (List.mem_cons_of_mem _ z)
    have h2 : ¬ p.1 = n := fun z => h (by rw [z]; exact List.mem_cons_self ..)
    have ih := tagOf_snoc (m := m) (ws := ws) h1
    rw [List.cons_append]
    by_cases d : p.1 = m
    · rw [tagOf_pos d, tagOf_pos d, if_neg (fun z => h2 (d.trans z))]
    · rw [tagOf_neg d, tagOf_neg d, ih]
theorem tgK_snoc {tg : Tg} {tls : List Addr} {n : Str} {ws : List Str} {l : Addr} (hl : tls.length = tg.length) (h : n ∉ tg.map (·.1)) : putK (tgK tg tls) (Sum.inr n) (.ref l) = tgK (tg ++ [(n, ws)]) (tls ++ [l]) := by
  have e : ((tgK tg tls).any fun kv => decide (kv.1 = Sum.inr n)) = false := by
    rw [Bool.eq_false_iff]
    intro z
    obtain ⟨kv, hk, e⟩ := List.any_eq_true.mp z
    have : kv.1 ∈ (tgK tg tls).map (·.1) := List.mem_map.mpr ⟨kv, hk, rfl⟩
    rw [tgK_keys hl] at this
    obtain ⟨m, hm, e2⟩ := List.mem_map.mp this
    rw [of_decide_eq_true e] at e2
    exact h (by rw [← Sum.inr.inj e2]; exact hm)
  unfold putK
  rw [e, if_neg (by decide)]
  unfold tgK
  rw [List.zip_append hl.symm, List.map_append]
  rfl
theorem tgK_set {tg : Tg} {n : Str} {ws : List Str} {l : Addr} : ∀ {tls : List Addr}, tls.length = tg.length → n ∈ tg.map (·.1) → putK (tgK tg tls) (Sum.inr n) (.ref l) = tgK (setTg tg n ws) (setA tg tls n l) := by
  intro tls hl hn
  have e : ((tgK tg tls).any fun kv => decide (kv.1 = Sum.inr n)) = true := by
    have : (Sum.inr n : Key) ∈ (tgK tg tls).map (·.1) := by rw [tgK_keys hl]; exact List.mem_map.mpr ⟨n, hn, rfl⟩
    obtain ⟨kv, hk, e⟩ := List.mem_map.mp this
    exact List.any_eq_true.mpr ⟨kv, hk, decide_eq_true e⟩
  unfold putK
  rw [e, if_pos rfl]
  clear e hn
  induction tg generalizing tls with
  | nil => rfl
  | cons p tg ih =>
    cases tls with
    | nil => simp at hl
    | cons t tls =>
      have ih := ih (tls := tls) (by simpa using hl)
      have e1 : tgK (p :: tg) (t :: tls) = (Sum.inr p.1, V.ref t) :: tgK tg tls := rfl
      have e2 : tgK (setTg (p :: tg) n ws) (setA (p :: tg) (t :: tls) n l) = (Sum.inr (if p.1 = n then (p.1, ws) else p).1, V.ref (if p.1 = n then l else t)) :: tgK (setTg tg n ws) (setA tg tls n l) := rfl
      rw [e1, e2, List.map_cons, ih]
      congr 1
      by_cases c : p.1 = n
      · rw [if_pos c, if_pos c, if_pos (by rw [c])]
      · rw [if_neg c, if_neg c, if_neg (fun z => c (Sum.inr.inj z))]
theorem tgK_drop {n : Str} : ∀ {tg : Tg} {tls : List Addr}, tls.length = tg.length → dropK (tgK tg tls) (Sum.inr n) = tgK (dropTg tg n) (dropA tg tls n)
  | [], [], _ => rfl
  | [], _ :: _, h => by simp at h
  | _ :: _, [], h => by simp at h
  | p :: tg, t :: tls, h => by
    have ih := tgK_drop (n := n) (tg := tg) (tls := tls) (by simpa using h)
    have e1 : tgK (p :: tg) (t :: tls) = (Sum.inr p.1, V.ref t) :: tgK tg tls := rfl
    rw [e1]
    unfold dropK at ih ⊢
    unfold dropTg dropA at ih ⊢
    rw [List.filter_cons, List.filter_cons, List.zip_cons_cons, List.filter_cons]
    by_cases c : p.1 = n
    · rw [if_neg (by simp [c]), if_neg (by simp [c]), if_neg (by simp [c])]
      exact ih
    · rw [if_pos (by simpa using c), if_pos (by simpa using c), if_pos (by simpa using c), ih]
      rfl
theorem tgK_names {tg tg' : Tg} {tls : List Addr} (e : tg'.map (·.1) = tg.map (·.1)) : tgK tg' tls = tgK tg tls := by
  induction tg generalizing tg' tls with
  | nil =>
    rw [List.map_nil, List.map_eq_nil_iff] at e
    rw [e]
  | cons p tg ih =>
    cases tg' with
    | nil => simp at e
    | cons p' tg' =>
      cases tls with
      | nil => rfl
      | cons t tls =>
        rw [List.map_cons, List.map_cons] at e
        injection e with e1 e2
        show (Sum.inr p'.1, V.ref t) :: tgK tg' tls = (Sum.inr p.1, V.ref t) :: tgK tg tls
        rw [e1, ih e2]
theorem TgL.setI {H : Hp} {ws : List Str} {tl : Addr} {n : Str} : ∀ {tls : List Addr} {tg : Tg}, TgL H tls tg → tls.Nodup → (tg.map (·.1)).Nodup → valV (tgK tg tls) (Sum.inr n) = some (.ref tl) → TgL (upd H tl (.lst (ws.map V.str))) tls (setTg tg n ws)
  | _, _, .nil, _, _, _ => .nil
  | _, _, .cons (a := t) (b := p) (l₁ := tls) (l₂ := tg) h r, nd, ndn, e => by
    have e1 : tgK (p :: tg) (t :: tls) = (Sum.inr p.1, V.ref t) :: tgK tg tls := rfl
    rw [e1] at e
    obtain ⟨nd1, nd2⟩ := List.nodup_cons.mp nd
    rw [List.map_cons] at ndn
    obtain ⟨nn1, nn2⟩ := List.nodup_cons.mp ndn
    have ec : setTg (p :: tg) n ws = (if p.1 = n then (p.1, ws) else p) :: setTg tg n ws := rfl
    rw [ec]
    by_cases c : p.1 = n
    · rw [valV_pos (by rw [c])] at e
      injection e with e
      injection e with e
      rw [if_pos c, setTg_none (by rw [← c]; exact nn1), ← e]
      exact .cons upd_same (TgL.keep r fun b hb o eo => by rw [upd_ne (fun z => nd1 (by rw [← z]; exact hb))]; exact eo)
    · rw [valV_neg (fun z => c (Sum.inr.inj z))] at e
      rw [if_neg c]
      have ht : tl ∈ tls := by
        obtain ⟨kv, hk, e3⟩ : ∃ kv ∈ tgK tg tls, kv.2 = V.ref tl := by
          unfold valV at e
          cases ef : (tgK tg tls).find? fun kv => decide (kv.1 = Sum.inr n) with
          | none => rw [ef] at e; cases e
          | some kv =>
            rw [ef] at e
            exact ⟨kv, List.mem_of_find?_eq_some ef, Option.some.inj e⟩
        obtain ⟨q, hq, rfl⟩ := List.mem_map.mp hk
        injection e3 with e3
        rw [← e3]
        exact (List.of_mem_zip hq).2
      exact .cons (by rw [upd_ne (fun z => nd1 (by rw [z]; exact ht))]; exact h) (TgL.setI r nd2 nn2 e)
theorem TgL.setN {H : Hp} {ws : List Str} {l : Addr} {n : Str} (hl : H l = some (.lst (ws.map V.str))) : ∀ {tls : List Addr} {tg : Tg}, TgL H tls tg → TgL H (setA tg tls n l) (setTg tg n ws)
  | _, _, .nil => .nil
  | _, _, .cons (a := t) (b := p) (l₁ := tls) (l₂ := tg) h r => by
    have ec : setTg (p :: tg) n ws = (if p.1 = n then (p.1, ws) else p) :: setTg tg n ws := rfl
    have ea : setA (p :: tg) (t :: tls) n l = (if p.1 = n then l else t) :: setA tg tls n l := rfl
    rw [ec, ea]
    refine .cons ?_ (TgL.setN hl r)
    by_cases c : p.1 = n
    · rw [if_pos c, if_pos c]; exact hl
    · rw [if_neg c, if_neg c]; exact h
theorem TgL.drop {H : Hp} {n : Str} : ∀ {tls : List Addr} {tg : Tg}, TgL H tls tg → TgL H (dropA tg tls n) (dropTg tg n)
  | _, _, .nil => .nil
  | _, _, .cons (a := t) (b := p) (l₁ := tls) (l₂ := tg) h r => by
    have ih := TgL.drop (n := n) r
    unfold dropA dropTg at ih ⊢
    rw [List.zip_cons_cons, List.filter_cons, List.filter_cons]
    by_cases c : p.1 = n
    · rw [if_neg (by simp [c]), if_neg (by simp [c])]
      exact ih
    · rw [if_pos (by simpa using c), if_pos (by simpa using c)]
      exact .cons h ih
theorem setA_mem {tg : Tg} {tls : List Addr} {n : Str} {l b : Addr} (h : b ∈ setA tg tls n l) : b ∈ tls ∨ b = l := by
  obtain ⟨p, hp, rfl⟩ := List.mem_map.mp h
  show (if p.1.1 = n then l else p.2) ∈ tls ∨ (if p.1.1 = n then l else p.2) = l
  by_cases c : p.1.1 = n
  · rw [if_pos c]; exact .inr rfl
  · rw [if_neg c]; exact .inl (List.of_mem_zip hp).2
theorem dropA_mem {tg : Tg} {tls : List Addr} {n : Str} {b : Addr} (h : b ∈ dropA tg tls n) : b ∈ tls := by
  obtain ⟨p, hp, rfl⟩ := List.mem_map.mp h
  exact (List.of_mem_zip (List.mem_filter.mp hp).1).2
theorem zip_snd : ∀ {tg : Tg} {tls : List Addr}, tls.length = tg.length → (tg.zip tls).map (·.2) = tls
  | [], [], _ => rfl
  | [], _ :: _, h => by simp at h
  | _ :: _, [], h => by simp at h
  | p :: tg, t :: tls, h => by
    rw [List.zip_cons_cons, List.map_cons, zip_snd (by simpa using h)]
theorem dropA_nodup {tg : Tg} {tls : List Addr} {n : Str} (h : tls.Nodup) (hl : tls.length = tg.length) : (dropA tg tls n).Nodup := by
  unfold dropA
  rw [← zip_snd hl] at h
  exact (List.filter_sublist.map _).nodup h
theorem setA_nodup {l : Addr} {n : Str} : ∀ {tg : Tg} {tls : List Addr}, tls.length = tg.length → tls.Nodup → (tg.map (·.1)).Nodup → l ∉ tls → (setA tg tls n l).Nodup
  | [], [], _, _, _, _ => .nil
  | [], _ :: _, h, _, _, _ => by simp at h
  | _ :: _, [], h, _, _, _ => by simp at h
  | p :: tg, t :: tls, h, nd, nn, hl => by
    have h' : tls.length = tg.length := by simpa using h
    obtain ⟨nd1, nd2⟩ := List.nodup_cons.mp nd
    rw [List.map_cons] at nn
    obtain ⟨nn1, nn2⟩ := List.nodup_cons.mp nn
    have hl2 : l ∉ tls := fun z => hl (List.mem_cons_of_mem _ z)
    have ih := setA_nodup (l := l) (n := n) h' nd2 nn2 hl2
    have ea : setA (p :: tg) (t :: tls) n l = (if p.1 = n then l else t) :: setA tg tls n l := rfl
    rw [ea]
    refine List.nodup_cons.mpr ⟨fun z => ?_, ih⟩
    by_cases c : p.1 = n
    · rw [if_pos c] at z
      have e0 : setA tg tls n l = tls := by
        unfold setA
        have : (tg.zip tls).map (fun q => if q.1.1 = n then l else q.2) = (tg.zip tls).map (·.2) := List.map_congr_left fun q hq => if_neg fun e => nn1 (by rw [c, ← e]; exact List.mem_map.mpr ⟨q.1, (List.of_mem_zip hq).1, rfl⟩)
        rw [this, zip_snd h']
      rw [e0] at z
      exact hl2 z
    · rw [if_neg c] at z
      rcases setA_mem z with y | y
      · exact nd1 y
      · exact hl (by rw [← y]; exact List.mem_cons_self ..)
theorem paired_snoc' {α β : Type} {R : α → β → Prop} {l : List α} {m : List β} {a : α} {b : β} (h : Paired R l m) (r : R a b) : Paired R (l ++ [a]) (m ++ [b]) := by
  induction h with
  | nil => exact .cons r .nil
  | cons x _ ih => exact .cons x ih
theorem setTg_w {tg : Tg} {n : Str} {ws : List Str} (h : ∀ p ∈ tg, p.2.length ≤ 5 ∧ ∀ w ∈ p.2, nameS w = true) (h2 : ws.length ≤ 5 ∧ ∀ w ∈ ws, nameS w = true) : ∀ p ∈ setTg tg n ws, p.2.length ≤ 5 ∧ ∀ w ∈ p.2, nameS w = true := fun p hp => by
  obtain ⟨q, hq, rfl⟩ := List.mem_map.mp hp
  by_cases c : q.1 = n
  · rw [if_pos c]; exact h2
  · rw [if_neg c]; exact h q hq
theorem tagOf_w {tg : Tg} {n : Str} (h : ∀ p ∈ tg, p.2.length ≤ 5 ∧ ∀ w ∈ p.2, nameS w = true) : (tagOf tg n).length ≤ 5 ∧ ∀ w ∈ tagOf tg n, nameS w = true := by
  unfold tagOf
  cases e : tg.find? fun p => decide (p.1 = n) with
  | none => exact ⟨Nat.zero_le _, fun w hw => nomatch hw⟩
  | some p => exact h p (List.mem_of_find?_eq_some e)
/-- how a desk was: its marks and tags fit -/
structure StOk (st : Stand) : Prop where
  ok : PMOk st.1
  nm : (st.2.map (·.1)).Perm (namesOf st.1)
  tgw : ∀ p ∈ st.2, p.2.length ≤ 5 ∧ ∀ w ∈ p.2, nameS w = true
theorem StOk.nd {st : Stand} (h : StOk st) : (st.2.map (·.1)).Nodup := h.nm.nodup_iff.mpr h.ok.nodup
theorem StOk.len {st : Stand} (h : StOk st) : st.2.length ≤ 60 := by
  have := h.nm.length_eq
  rw [List.length_map] at this
  have := h.ok.lenN
  omega
theorem DeskAt.stOk {C CM : Addr} {H : Hp} {D : DeskR} {M : PM} {tg : Tg} {past ahead : List Stand} (h : DeskAt C CM H D M tg past ahead) (nm : (tg.map (·.1)).Perm (namesOf M)) : StOk (sortP M, tg) :=
  ⟨(MapG.ok h.map).sortP, by rw [names_sortP]; exact nm.trans (sortS_perm _).symm, h.tgw⟩
/-! ### lists of whatever, compared with [] -/
section
variable {X : Cx}
def rEqL0 (K : PySem.W.Frag) : R2 := fun x y H Q => ∃ a b xs, x = .ref a ∧ y = .ref b ∧ SqL K H a xs ∧ SqL K H b [] ∧ Q (.bl xs.isEmpty) H
theorem op_eq_list0 (hu : X.A.units + 64 < cLine) : OpR X (compareOp .Eq) (rEqL0 X.K) := by
  intro pins s σ H x y v u Q I rx ry h
  obtain ⟨a, b, xs, rfl, rfl, ha, hb, q⟩ := h
  cases (show v = Value.ref a from rx)
  cases (show u = Value.ref b from ry)
  obtain ⟨us, r1, p1, _⟩ := I.list ha
  obtain ⟨ws, r2, p2, _⟩ := I.list hb
  have l1 := r1.length
  have l2 := r2.length
  cases xs with
  | nil =>
    refine SeqAt.eq_listAt (e := fun _ => true) p1.isList p2.isList (by rw [List.size_toArray, List.size_toArray, ← l1, ← l2]) (by omega) (fun j h1 h2 => ?_) (fin_bl I q ?_)
    · rw [List.size_toArray, ← l1] at h1
      exact absurd h1 (Nat.not_lt_zero _)
    · exact (List.all_eq_true.mpr fun _ _ => rfl).symm
  | cons x xs =>
    refine SeqAt.eq_list_lengthsAt p1.isList p2.isList ?_ (by omega) (fin_bl I q rfl)
    rw [List.size_toArray, List.size_toArray, ← l1, ← l2]
    rfl
theorem op_eq_list0K {K : PySem.W.Frag} (h : X.K = K) (hu : X.A.units + 64 < cLine) : OpR X (compareOp .Eq) (rEqL0 K) := h ▸ op_eq_list0 hu
end
end NM

namespace NM
open PySem PySem.Spec PyProof.Rows L2 HotX L2H
open LamX (ExtN)
/-! ### what is told of a desk, kept by the law -/
/-- a comprehension over pairs, with all that is made in sight -/
theorem lc_invG {J : It} {ok : Hp → Prop} {xs : List V} (en : Enum J ok xs) {own : List Nat} {g : TG} {te : TE} {σ : L2.St} {H1 : Hp} {Q : Addr → Hp → Prop} (Iv : Addr → Nat → List V → Hp → Prop)
    (h0 : ∀ D, H1 D = none → Iv D 0 [] (upd H1 D (.lst []))) (hok : ∀ D i acc H, H1 D = none → Iv D i acc H → ok H) (hlen : xs.length < sizeLine)
    (turn : ∀ (D : Addr) (i : Nat) (x : V) (acc : List V) (H : Hp) (Cy : VK), H1 D = none → H D = some (.lst acc) → xs[i]? = some x → Iv D i acc H → (∀ y H', H' D = some (.lst acc) → Iv D (i + 1) (acc ++ [y]) (upd H' D (.lst (acc ++ [y]))) → Cy y H') →
      g x (wipe σ own) H fun σ2 H2 => wipe σ2 own = wipe σ own ∧ te σ2 H2 Cy)
    (gm : ∀ x σ H (A B : L2.St → Hp → Prop), (∀ σ2 H2, A σ2 H2 → B σ2 H2) → g x σ H A → g x σ H B)
    (done : ∀ D H acc, H1 D = none → H D = some (.lst acc) → Iv D xs.length acc H → Q D H) :
    ∀ D, H1 D = none → ∃ W : Nat → Nat → Hp → Prop, (∃ m, W 0 m (upd H1 D (.lst []))) ∧ ∀ i m H, W i m H →
      (J.stop i H ∧ Q D H) ∨ (J.go i H ∧ ∃ Nx : Hp → Prop, (∀ H', Nx H' → ∃ m', m' < m ∧ W (i + 1) m' H') ∧ ∀ x H', J.yld i H x H' → g x (wipe σ own) H' fun σ2 H2 => wipe σ2 own = wipe σ own ∧ tYes σ2 H2 fun b H3 =>
        if b = true then te σ2 H3 fun y H4 => ∃ acc, H4 D = some (.lst acc) ∧ acc.length < sizeLine ∧ Nx (upd H4 D (.lst (acc ++ [y]))) else Nx H3) := by
  intro D nD
  let Pv : Nat → Hp → Prop := fun i H => ∃ ys, H D = some (.lst ys) ∧ ys.length ≤ i ∧ Iv D i ys H
  refine ⟨fun i m H => m = xs.length - i ∧ i ≤ xs.length ∧ Pv i H, ⟨xs.length, by simp, Nat.zero_le _, [], upd_same, Nat.le_refl _, h0 D nD⟩, ?_⟩
  rintro i m H ⟨rfl, hi, ys, hD, hy, iv⟩
  have okH : ok H := hok D i ys H nD iv
  by_cases hlt : i < xs.length
  · refine .inr ⟨en.go i H okH hlt, Pv (i + 1), fun H' p' => ⟨xs.length - (i + 1), by omega, rfl, hlt, p'⟩, fun x H' y => ?_⟩
    obtain ⟨e, ex⟩ := en.yld i H x H' okH hlt y
    subst e
    refine gm _ _ _ _ _ (fun σ2 H2 h => ⟨h.1, ?_⟩) (turn D i x ys H' (fun y H4 => ∃ acc, H4 D = some (.lst acc) ∧ acc.length < sizeLine ∧ Pv (i + 1) (upd H4 D (.lst (acc ++ [y])))) nD hD ex iv fun y H4 h4 iv4 => ⟨ys, h4, by omega, ys ++ [y], upd_same, by rw [List.length_append]; simp; omega, iv4⟩)
    show if true = true then _ else Pv (i + 1) H2
    rw [if_pos rfl]
    exact h.2
  · have e : i = xs.length := by omega
    subst e
    exact .inl ⟨en.stop _ H okH (Nat.le_refl _), done D H ys nD hD iv⟩
def StRow (H : Hp) (st : Stand) (q : Addr × Addr) (n : Str) : Prop := ∃ v, H q.1 = some (.tup [.str n, v, .ref q.2]) ∧ PtAt H v (ptOf st.1 n) ∧ H q.2 = some (.lst ((tagOf st.2 n).map V.str))
def StdAt (H : Hp) (l : Addr) (st : Stand) (fp : List Addr) : Prop := ∃ qs : List (Addr × Addr), H l = some (.lst (qs.map fun q => V.ref q.1)) ∧ Paired (StRow H st) qs (namesOf st.1) ∧ fp = l :: qs.map (·.2)
def stRowD (st : Stand) (n : Str) : PyData := .tuple [.str n, ptD (ptOf st.1 n), .list ((tagOf st.2 n).map .str)]
def stD (st : Stand) : PyData := .list ((namesOf st.1).map (stRowD st))
theorem strow_keep {H H' : Hp} {st : Stand} (kt : KeepT H H') : ∀ {qs : List (Addr × Addr)} {L : List Str}, Paired (StRow H st) qs L → (∀ q ∈ qs, ∀ o, H q.2 = some o → H' q.2 = some o) → Paired (StRow H' st) qs L
  | _, _, .nil, _ => .nil
  | _, _, .cons ⟨v, h1, h2, h3⟩ t, k => .cons ⟨v, kt _ _ h1, h2.keepT kt, k _ (List.mem_cons_self ..) _ h3⟩ (strow_keep kt t fun q hq => k q (List.mem_cons_of_mem _ hq))
theorem StdAt.keep {H H' : Hp} {l : Addr} {st : Stand} {fp : List Addr} (h : StdAt H l st fp) (kt : KeepT H H') (k : ∀ b ∈ fp, ∀ xs, H b = some (.lst xs) → H' b = some (.lst xs)) : StdAt H' l st fp := by
  obtain ⟨qs, h1, h2, rfl⟩ := h
  refine ⟨qs, k _ (List.mem_cons_self ..) _ h1, ?_, rfl⟩
  have go : ∀ {qs : List (Addr × Addr)} {L : List Str}, Paired (StRow H st) qs L → (∀ q ∈ qs, ∀ xs, H q.2 = some (.lst xs) → H' q.2 = some (.lst xs)) → Paired (StRow H' st) qs L := fun {qs L} p => by
    induction p with
    | nil => exact fun _ => .nil
    | cons r _ ih =>
      intro k
      obtain ⟨v, h1, h2, h3⟩ := r
      exact .cons ⟨v, kt _ _ h1, h2.keepT kt, k _ (List.mem_cons_self ..) _ h3⟩ (ih fun q hq => k q (List.mem_cons_of_mem _ hq))
  exact go h2 fun q hq => k q.2 (List.mem_cons_of_mem _ (List.mem_map.mpr ⟨q, hq, rfl⟩))
theorem StdAt.same {H H' : Hp} {l : Addr} {st : Stand} {fp : List Addr} (h : StdAt H l st fp) (s : Same H H') : StdAt H' l st fp := h.keep s.keepT fun _ _ _ e => s _ _ e
theorem StdAt.ext {H H' : Hp} {l : Addr} {st : Stand} {fp : List Addr} (h : StdAt H l st fp) (s : ExtN H H') : StdAt H' l st fp := h.keep (ext_keepT s) fun _ _ _ e => lst_ext s e
theorem StdAt.has {H : Hp} {l : Addr} {st : Stand} {fp : List Addr} (h : StdAt H l st fp) : ∀ b ∈ fp, ∃ xs, H b = some (.lst xs) := by
  obtain ⟨qs, h1, h2, rfl⟩ := h
  intro b hb
  rcases List.mem_cons.mp hb with e | hb
  · rw [e]; exact ⟨_, h1⟩
  · obtain ⟨q, hq, rfl⟩ := List.mem_map.mp hb
    clear h1 hb
    have go : ∀ {qs : List (Addr × Addr)} {L : List Str}, Paired (StRow H st) qs L → q ∈ qs → ∃ xs, H q.2 = some (.lst xs) := fun {qs L} p hq => by
      induction p with
      | nil => exact nomatch hq
      | cons r _ ih =>
        rcases List.mem_cons.mp hq with e | hq
        · obtain ⟨v, _, _, h3⟩ := r
          rw [e]; exact ⟨_, h3⟩
        · exact ih hq
    exact go h2 hq
theorem StdAt.hd {H : Hp} {l : Addr} {st : Stand} {fp : List Addr} (h : StdAt H l st fp) : l ∈ fp := by
  obtain ⟨qs, h1, h2, rfl⟩ := h
  exact List.mem_cons_self ..
theorem strows_dp {K : PySem.W.Frag} {H : Hp} {st : Stand} : ∀ {qs : List (Addr × Addr)} {L : List Str}, Paired (StRow H st) qs L → DpAll K H (qs.map fun q => V.ref q.1) (L.map (stRowD st))
  | _, _, .nil => .nil
  | _, _, .cons ⟨v, h1, h2, h3⟩ t => .cons (.tup (sqT h1) (.cons (.str _) (.cons (pt_dp h2) (.cons (.lst (sqL h3) (dpAll_strs _)) .nil)))) (strows_dp t)
theorem StdAt.dp {K : PySem.W.Frag} {H : Hp} {l : Addr} {st : Stand} {fp : List Addr} (h : StdAt H l st fp) : Dp K H (.ref l) (stD st) := by
  obtain ⟨qs, h1, h2, rfl⟩ := h
  exact .lst (sqL h1) (strows_dp h2)
theorem lay_std {st : Stand} (h : StOk st) : Lay 3 (stD st) := lay_list (n := 2) (lay_map fun n hn => lay_tuple (n := 1) (lay_cons ((lay_str (nameS_ok (h.ok.name hn))).mono (by decide)) (lay_cons (lay_tuple (n := 0) (lay_cons (lay_int _) (lay_cons (lay_int _) lay_nil))) (lay_cons (lay_names (n := 0) (tagOf_w h.tgw).2) lay_nil))))
theorem std_refl {st : Stand} (h : StOk st) : PyData.eqv (stD st) (stD st) = true := (lay_std h).eqv
/-! ### desks through what a lambda leaves -/
structure DeskX (H H' : Hp) (D D' : DeskR) : Prop where
  dk : D'.dk = D.dk
  kt : KeepT H H'
  keep : ∀ b o, b ∉ D.own → H b = some o → (∀ ps, o ≠ .tbl ps) → H' b = some o
  own : ∀ b ∈ D'.own, b ∈ D.own ∨ ∀ o, H b = some o → ∃ ps, o = .tbl ps
theorem DeskX.ext {H H' : Hp} {D : DeskR} (e : ExtN H H') : DeskX H H' D D := ⟨rfl, ext_keepT e, fun b o _ h n => e b o h n, fun _ h => .inl h⟩
theorem DeskX.of_to {H H' : Hp} {D D' : DeskR} (a : DeskTo H H' D D') : DeskX H H' D D' := ⟨a.dk, a.kt, fun b o n h _ => a.keep b o n h, fun b hb => (a.own b hb).imp id fun z o e => by rw [z] at e; cases e⟩
theorem DeskX.trans {H H1 H2 : Hp} {D D1 D2 : DeskR} (a : DeskX H H1 D D1) (b : DeskX H1 H2 D1 D2) : DeskX H H2 D D2 where
  dk := b.dk.trans a.dk
  kt := a.kt.trans b.kt
  keep := fun x o n e t => b.keep x o (fun z => by
    rcases a.own x z with h | h
    · exact n h
    · obtain ⟨ps, e2⟩ := h o e
      exact t ps e2) (a.keep x o n e t) t
  own := fun x hx => by
    rcases b.own x hx with h | h
    · exact a.own x h
    · by_cases c : x ∈ D.own
      · exact .inl c
      · refine .inr fun o e => ?_
        by_cases t : ∀ ps, o ≠ .tbl ps
        · exact h o (a.keep x o c e t)
        · cases o with
          | tbl ps => exact ⟨ps, rfl⟩
          | _ => exact absurd (fun ps z => by cases z) t
theorem DeskX.out {H H' : Hp} {D D' : DeskR} (a : DeskX H H' D D') {b : Addr} {o : HO} (e : H b = some o) (t : ∀ ps, o ≠ .tbl ps) (n : b ∉ D.own) : b ∉ D'.own ∧ H' b = some o := by
  refine ⟨fun z => ?_, a.keep b o n e t⟩
  rcases a.own b z with h | h
  · exact n h
  · obtain ⟨ps, e2⟩ := h o e
    exact t ps e2
theorem DeskX.lst {H H' : Hp} {D D' : DeskR} (a : DeskX H H' D D') {b : Addr} {xs : List V} (e : H b = some (.lst xs)) (n : b ∉ D.own) : b ∉ D'.own ∧ H' b = some (.lst xs) := a.out e (fun _ z => by cases z) n
theorem StdAt.x {H H' : Hp} {D D' : DeskR} {l : Addr} {st : Stand} {fp : List Addr} (h : StdAt H l st fp) (a : DeskX H H' D D') (n : ∀ b ∈ fp, b ∉ D.own) : StdAt H' l st fp ∧ ∀ b ∈ fp, b ∉ D'.own := by
  refine ⟨h.keep a.kt fun b hb xs e => (a.lst e (n b hb)).2, fun b hb => ?_⟩
  obtain ⟨xs, e⟩ := h.has b hb
  exact (a.lst e (n b hb)).1
/-- the stands that the law keeps -/
def StdsAt (H : Hp) (ps : List (Addr × List Addr)) (S : List Stand) : Prop := Paired (fun p st => StdAt H p.1 st p.2) ps S
theorem StdsAt.x {H H' : Hp} {D D' : DeskR} (a : DeskX H H' D D') : ∀ {ps : List (Addr × List Addr)} {S : List Stand}, StdsAt H ps S → (∀ p ∈ ps, ∀ b ∈ p.2, b ∉ D.own) → StdsAt H' ps S ∧ ∀ p ∈ ps, ∀ b ∈ p.2, b ∉ D'.own
  | _, _, .nil, _ => ⟨.nil, fun p hp => nomatch hp⟩
  | _, _, .cons h t, n => by
    obtain ⟨h1, h2⟩ := h.x a (n _ (List.mem_cons_self ..))
    obtain ⟨t1, t2⟩ := StdsAt.x a t fun p hp => n p (List.mem_cons_of_mem _ hp)
    exact ⟨.cons h1 t1, fun p hp => by
      rcases List.mem_cons.mp hp with e | hp
      · rw [e]; exact h2
      · exact t2 p hp⟩
theorem StdsAt.ext {H H' : Hp} (s : ExtN H H') : ∀ {ps : List (Addr × List Addr)} {S : List Stand}, StdsAt H ps S → StdsAt H' ps S
  | _, _, .nil => .nil
  | _, _, .cons h t => .cons (h.ext s) (StdsAt.ext s t)
theorem StdsAt.same {H H' : Hp} (s : Same H H') {ps : List (Addr × List Addr)} {S : List Stand} (h : StdsAt H ps S) : StdsAt H' ps S := StdsAt.ext s.ext h
theorem StdsAt.at {H : Hp} {v : V} : ∀ {ps : List (Addr × List Addr)} {S : List Stand} {i : Nat}, StdsAt H ps S → (ps.map fun p => V.ref p.1)[i]? = some v → ∃ p st, p ∈ ps ∧ ps[i]? = some p ∧ S[i]? = some st ∧ v = V.ref p.1 ∧ StdAt H p.1 st p.2
  | _, _, _, .nil, h => by simp at h
  | _, _, 0, .cons (a := p) (b := st) h _, e => by
    simp at e
    exact ⟨p, st, List.mem_cons_self .., by simp, by simp, e.symm, h⟩
  | _, _, i + 1, .cons h tl, e => by
    obtain ⟨p, st, h1, h2, h3, h4, h5⟩ := StdsAt.at tl (i := i) (by simpa using e)
    exact ⟨p, st, List.mem_cons_of_mem _ h1, by simpa using h2, by simpa using h3, h4, h5⟩
/-! ### a desk in its own story: the stand k of S -/
theorem sortP_idem {M : PM} (ok : PMOk M) : sortP (sortP M) = sortP M := sortP_eq (sortP_perm ok.nodup) ok.sortP.nodup
structure Story (S : List Stand) : Prop where
  ok : ∀ st ∈ S, StOk st
  so : ∀ st ∈ S, sortP st.1 = st.1
def DeskS (C CM : Addr) (H : Hp) (D : DeskR) (S : List Stand) (k : Nat) : Prop := ∃ M tg, DeskAt C CM H D M tg (S.take k) ((S.drop (k + 1)).reverse) ∧ S[k]? = some (sortP M, tg) ∧ (tg.map (·.1)).Perm (namesOf M)
theorem take_at {α : Type} {l : List α} {k : Nat} {x : α} (e : l[k]? = some x) : l.take (k + 1) = l.take k ++ [x] := by rw [List.take_add_one, e]; rfl
theorem drop_at {α : Type} {l : List α} {k : Nat} {x : α} (e : l[k]? = some x) : l.drop k = x :: l.drop (k + 1) := by
  obtain ⟨h, e2⟩ := List.getElem?_eq_some_iff.mp e
  rw [List.drop_eq_getElem_cons h, e2]
section
variable {C CM : Addr} {H H' : Hp} {D D' : DeskR} {S : List Stand} {k : Nat}
theorem DeskS.ext (h : DeskS C CM H D S k) (s : ExtN H H') : DeskS C CM H' D S k := by
  obtain ⟨M, tg, h1, h2, h3⟩ := h
  exact ⟨M, tg, h1.ext s, h2, h3⟩
theorem DeskS.same (h : DeskS C CM H D S k) (s : Same H H') : DeskS C CM H' D S k := h.ext s.ext
/-- one back -/
theorem DeskS.back {M : PM} {tg : Tg} {st : Stand} (so : Story S) (e1 : S[k + 1]? = some (sortP M, tg)) (e0 : S[k]? = some st) (h : DeskAt C CM H' D' st.1 st.2 (S.take k) ((S.drop (k + 2)).reverse ++ [(sortP M, tg)])) : DeskS C CM H' D' S k := by
  have hm := List.mem_of_getElem? e0
  refine ⟨st.1, st.2, ?_, by rw [so.so st hm]; exact e0, (so.ok st hm).nm⟩
  rw [drop_at e1, List.reverse_cons]
  exact h
/-- one ahead -/
theorem DeskS.on {M : PM} {tg : Tg} {st : Stand} (so : Story S) (e1 : S[k]? = some (sortP M, tg)) (e0 : S[k + 1]? = some st) (h : DeskAt C CM H' D' st.1 st.2 (S.take k ++ [(sortP M, tg)]) ((S.drop (k + 2)).reverse)) : DeskS C CM H' D' S (k + 1) := by
  have hm := List.mem_of_getElem? e0
  refine ⟨st.1, st.2, ?_, by rw [so.so st hm]; exact e0, (so.ok st hm).nm⟩
  rw [take_at e1]
  exact h
/-- another deed -/
theorem DeskS.deed {M M' : PM} {tg tg' : Tg} (so : Story S) (e1 : S[k]? = some (sortP M, tg)) (nm : (tg'.map (·.1)).Perm (namesOf M')) (h : DeskAt C CM H' D' M' tg' (S.take k ++ [(sortP M, tg)]) []) :
    DeskS C CM H' D' (S.take (k + 1) ++ [(sortP M', tg')]) (k + 1) ∧ Story (S.take (k + 1) ++ [(sortP M', tg')]) := by
  have hk := (List.getElem?_eq_some_iff.mp e1).1
  have hl : (S.take (k + 1)).length = k + 1 := by rw [List.length_take]; omega
  refine ⟨⟨M', tg', ?_, ?_, nm⟩, ⟨fun st hs => ?_, fun st hs => ?_⟩⟩
  · rw [List.take_append_of_le_length (by omega), List.take_of_length_le (by omega), List.drop_of_length_le (by rw [List.length_append, hl]; simp), take_at e1]
    exact h
  · rw [List.getElem?_append_right (by omega), hl]
    simp
  · rcases List.mem_append.mp hs with hs | hs
    · exact so.ok st (List.mem_of_mem_take hs)
    · rw [List.mem_singleton.mp hs]; exact h.stOk nm
  · rcases List.mem_append.mp hs with hs | hs
    · exact so.so st (List.mem_of_mem_take hs)
    · rw [List.mem_singleton.mp hs]; exact sortP_idem (MapG.ok h.map)
end
end NM

namespace NM
open PySem PySem.Spec PyProof.Rows L2 HotX L2H
open LamX (ExtN Tabs)
/-! ### what the law keeps beside a desk -/
/-- the stands that are new are made of what is new -/
def FpsNew (H : Hp) (D D' : DeskR) : Prop := ∀ p ∈ D'.ps ++ D'.as, p ∈ D.ps ++ D.as ∨ ∀ b ∈ p.2, H b = none
theorem fpsNew_of {H : Hp} {D D' : DeskR} {t : Addr} {fp : List Addr} (e1 : D'.ps = D.ps ++ [(t, fp)]) (e2 : D'.as = []) (n : ∀ b ∈ fp, H b = none) : FpsNew H D D' := fun p hp => by
  rw [e1, e2, List.append_nil] at hp
  rcases List.mem_append.mp hp with hp | hp
  · exact .inl (List.mem_append_left _ hp)
  · rw [List.mem_singleton.mp hp]; exact .inr n
theorem atI_last {α : Type} (xs : List α) (x : α) : atI (xs ++ [x]) (-1) = some x := by
  have h0 : ¬ (0 : Int) ≤ -1 := by decide
  have hn : ixN (xs ++ [x]).length (-1) = some xs.length := by
    unfold ixN
    rw [if_neg h0, List.length_append]
    show (if _ then _ else _) = _
    simp
    omega
  unfold atI
  rw [hn]
  show (xs ++ [x])[xs.length]? = some x
  rw [List.getElem?_append_right (Nat.le_refl _), Nat.sub_self]
  rfl
theorem cutV_init (xs : List V) : cutV xs none (some (-1)) = xs.dropLast := by
  have e1 : HT.sIx xs.length xs.length (some (-1)) = xs.length - 1 := by
    show (if (-1 : Int) < 0 then ((-1 : Int) + (xs.length : Int)).toNat else min (-1 : Int).toNat xs.length) = xs.length - 1
    rw [if_pos (by decide)]
    omega
  unfold cutV
  rw [e1, HT.sIx_none, List.drop_zero, Nat.sub_zero, List.dropLast_eq_take]
theorem cutV_tail (xs : List V) : cutV xs (some 1) none = xs.drop 1 := by
  have e1 : HT.sIx xs.length 0 (some 1) = min 1 xs.length := HT.sIx_nat xs.length 0 (1 : Nat)
  unfold cutV
  rw [e1, HT.sIx_none]
  cases xs with
  | nil => rfl
  | cons x r =>
    have : min 1 (x :: r).length = 1 := by simp
    rw [this]
    show List.take ((x :: r).length - 1) r = r
    exact List.take_of_length_le (Nat.le_refl _)
theorem cutV_take (xs : List V) (m : Int) (h : 0 ≤ m) : cutV xs none (some m) = xs.take m.toNat := by
  obtain ⟨k, rfl⟩ : ∃ k : Nat, m = (k : Int) := ⟨m.toNat, by omega⟩
  unfold cutV
  rw [HT.sIx_nat, HT.sIx_none, List.drop_zero, Nat.sub_zero, Int.toNat_natCast]
  by_cases c : k ≤ xs.length
  · rw [Nat.min_eq_left c]
  · rw [Nat.min_eq_right (by omega), List.take_of_length_le (Nat.le_refl _), List.take_of_length_le (by omega)]
theorem rev_at {α : Type} {xs : List α} {i k : Nat} {v : α} (hl : xs.length = k + 1) (h : xs.dropLast.reverse[i]? = some v) : i < k ∧ xs[k - 1 - i]? = some v := by
  have hi := (List.getElem?_eq_some_iff.mp h).1
  rw [List.length_reverse, List.length_dropLast, hl] at hi
  have hi : i < k := hi
  refine ⟨hi, ?_⟩
  rw [List.getElem?_reverse (by rw [List.length_dropLast, hl]; exact hi), List.length_dropLast, hl, List.getElem?_dropLast] at h
  rw [hl, if_pos (by omega)] at h
  exact h
/-- the script beside a desk -/
def Scr (K : PySem.W.Frag) (H : Hp) (D : DeskR) (a : Addr) (xs : List V) : Prop := (Rd H a (.lst xs) ∧ a ∉ D.own) ∨ ∀ H', SqL K H' a xs
section
variable {K : PySem.W.Frag} {C CM : Addr} {H H' : Hp} {D D' : DeskR} {a : Addr} {xs : List V}
theorem Scr.sq (h : Scr K H D a xs) : SqL K H a xs := h.elim (fun z => .inl z.1) (fun z => z H)
theorem Scr.of (h : SqL K H a xs) (n : ∀ o, H a = some o → a ∉ D.own) : Scr K H D a xs := by
  rcases h with r | z
  · refine .inl ⟨r, ?_⟩
    rcases r with r | ⟨o, r⟩
    · exact n _ r
    · exact n _ r
  · exact .inr fun _ => .inr z
theorem Scr.x (h : Scr K H D a xs) (s : DeskX H H' D D') : Scr K H' D' a xs := by
  rcases h with ⟨r, n⟩ | z
  · rcases r with r | ⟨o, r⟩
    · have := s.out r (fun ps z => by cases z) n
      exact .inl ⟨.inl this.2, this.1⟩
    · have := s.out r (fun ps z => by cases z) n
      exact .inl ⟨.inr ⟨o, this.2⟩, this.1⟩
  · exact .inr z
theorem Scr.ext (h : Scr K H D a xs) (s : ExtN H H') : Scr K H' D a xs := h.x (DeskX.ext s)
end
/-- the stands that the law has noted, in a list of its own -/
structure Ss (H : Hp) (D : DeskR) (S : List Stand) (sl : Addr) (ps : List (Addr × List Addr)) : Prop where
  st : H sl = some (.lst (ps.map fun p => V.ref p.1))
  sd : StdsAt H ps S
  sep : ∀ p ∈ ps, ∀ b ∈ p.2, b ∉ D.own
  own : sl ∉ D.own
  ne : ∀ p ∈ ps, sl ∉ p.2
section
variable {C CM : Addr} {H H' : Hp} {D D' : DeskR} {S : List Stand} {sl : Addr} {ps : List (Addr × List Addr)}
theorem Ss.x (h : Ss H D S sl ps) (s : DeskX H H' D D') : Ss H' D' S sl ps := by
  obtain ⟨h1, h2⟩ := StdsAt.x s h.sd h.sep
  obtain ⟨h3, h4⟩ := s.lst h.st h.own
  exact ⟨h4, h1, h2, h3, h.ne⟩
theorem Ss.ext (h : Ss H D S sl ps) (s : ExtN H H') : Ss H' D S sl ps := h.x (DeskX.ext s)
theorem Ss.len (h : Ss H D S sl ps) : ps.length = S.length := paired_len h.sd
/-- a stand noted -/
theorem Ss.app {st : Stand} {l : Addr} {fp : List Addr} (h : Ss H D S sl ps) (hd : StdAt H l st fp) (n : ∀ b ∈ fp, b ∉ D.own) (nsl : sl ∉ fp) :
    Ss (upd H sl (.lst ((ps.map fun p => V.ref p.1) ++ [V.ref l]))) D (S ++ [st]) sl (ps ++ [(l, fp)]) := by
  have kt : KeepT H (upd H sl (.lst ((ps.map fun p => V.ref p.1) ++ [V.ref l]))) := keepT_upd h.st (fun xs e => by cases e)
  have keep : ∀ {qs : List (Addr × List Addr)} {T : List Stand}, StdsAt H qs T → (∀ p ∈ qs, sl ∉ p.2) → StdsAt (upd H sl (.lst ((ps.map fun p => V.ref p.1) ++ [V.ref l]))) qs T := fun {qs T} hs => by
    induction hs with
    | nil => exact fun _ => .nil
    | cons r _ ih =>
      intro n2
      exact .cons (StdAt.keep r kt fun b hb xs e => by rw [upd_ne (fun z => n2 _ (List.mem_cons_self ..) (by rw [← z]; exact hb))]; exact e) (ih fun p hp => n2 p (List.mem_cons_of_mem _ hp))
  refine ⟨by rw [upd_same, List.map_append]; rfl, paired_snoc' (keep h.sd h.ne) (hd.keep kt fun b hb xs e => by rw [upd_ne (fun z => nsl (by rw [← z]; exact hb))]; exact e), fun p hp => ?_, h.own, fun p hp => ?_⟩
  · rcases List.mem_append.mp hp with hp | hp
    · exact h.sep p hp
    · rw [List.mem_singleton.mp hp]; exact n
  · rcases List.mem_append.mp hp with hp | hp
    · exact h.ne p hp
    · rw [List.mem_singleton.mp hp]; exact nsl
end
/-- a stand's parts are no list of lists -/
theorem StAt.notL {H : Hp} {t sl l : Addr} {st : Stand} {fp : List Addr} {xs ys : List V} (h : StAt H t st fp) (e : H sl = some (.lst (V.ref l :: xs))) (el : H l = some (.lst ys)) : sl ∉ fp := by
  obtain ⟨ml, dd, ts, tls, h1, h2, h3, h4, h5, rfl⟩ := h
  intro hb
  rcases List.mem_cons.mp hb with z | hb
  · rw [z, h2] at e
    unfold MarksAt at h3
    generalize namesOf st.1 = L at h3
    cases h3 with
    | nil => simp at e
    | cons r _ =>
      obtain ⟨u, r1, _⟩ := r
      simp at e
      rw [e.1, el] at r1
      cases r1
  · rcases List.mem_cons.mp hb with z | hb
    · rw [z, h4] at e; cases e
    · have go : ∀ {tls : List Addr} {tg : Tg}, TgL H tls tg → sl ∈ tls → ∃ ws : List Str, H sl = some (.lst (ws.map V.str)) := fun {tls tg} h hb => by
        induction h with
        | nil => exact nomatch hb
        | cons h _ ih =>
          rcases List.mem_cons.mp hb with e | hb
          · rw [e]; exact ⟨_, h⟩
          · exact ih hb
      obtain ⟨ws, z⟩ := go h5 hb
      rw [z] at e
      cases ws with
      | nil => simp at e
      | cons w ws => simp at e
theorem stands_notL {H : Hp} {sl l : Addr} {xs ys : List V} (e : H sl = some (.lst (V.ref l :: xs))) (el : H l = some (.lst ys)) : ∀ {ps : List (Addr × List Addr)} {sts : List Stand}, Paired (fun p st => StAt H p.1 st p.2) ps sts → ∀ p ∈ ps, sl ∉ p.2
  | _, _, .nil, p, hp => nomatch hp
  | _, _, .cons h t, p, hp => by
    rcases List.mem_cons.mp hp with z | hp
    · rw [z]; exact StAt.notL h e el
    · exact stands_notL e el t p hp
section
variable {K : PySem.W.Frag} {C CM : Addr} {H H' : Hp} {D D' : DeskR} {S : List Stand} {k : Nat} {sl a l : Addr}
theorem DeskS.off {xs ys : List V} {o : HO} (h : DeskS C CM H D S k) (e : H sl = some (.lst (V.ref l :: xs))) (el : H l = some (.lst ys)) (n1 : sl ∉ D.own) : DeskS C CM (upd H sl o) D S k := by
  obtain ⟨M, tg, h1, h2, h3⟩ := h
  refine ⟨M, tg, h1.offS (S := [sl]) sameD_upd (keepT_upd e (fun xs z => by cases z)) (fun b hb z => n1 (by rw [← List.mem_singleton.mp z]; exact hb)) (fun p hp b hb z => ?_), h2, h3⟩
  rw [List.mem_singleton.mp z] at hb
  rcases List.mem_append.mp hp with hp | hp
  · exact stands_notL e el h1.psA p hp hb
  · exact stands_notL e el h1.asA p hp hb
theorem Scr.off {ns : List Int} {xs : List V} {o : HO} (h : Scr K H D a (ns.map V.int)) (e : H sl = some (.lst (V.ref l :: xs))) : Scr K (upd H sl o) D a (ns.map V.int) := by
  rcases h with ⟨r, n⟩ | z
  · have hne : a ≠ sl := fun z => by
      rw [← z] at e
      rcases r with r | ⟨u, r⟩
      · rw [r] at e
        cases ns with
        | nil => simp at e
        | cons x ns => simp at e
      · rw [r] at e; cases e
    refine .inl ⟨?_, n⟩
    rcases r with r | ⟨u, r⟩
    · exact .inl (by rw [upd_ne hne]; exact r)
    · exact .inr ⟨u, by rw [upd_ne hne]; exact r⟩
  · exact .inr z
end
/-! ### few marks of two letters -/
def FewS (S : List Stand) (n : Nat) : Prop := ∀ st ∈ S, st.1.length ≤ n ∧ ∀ m ∈ namesOf st.1, m.length = 2
theorem FewS.mono {S : List Stand} {n m : Nat} (h : FewS S n) (l : n ≤ m) : FewS S m := fun st hs => ⟨Nat.le_trans (h st hs).1 l, (h st hs).2⟩
theorem sortP_len (M : PM) : (sortP M).length = M.length := by
  unfold sortP
  rw [List.length_map, sortS_len]
  unfold namesOf
  rw [List.length_map]
theorem sortP_mem {M : PM} {n : Str} : n ∈ namesOf (sortP M) ↔ n ∈ namesOf M := by rw [names_sortP]; exact mem_sortS
theorem FewS.snoc {S : List Stand} {n m : Nat} {M M' : PM} {tg tg' : Tg} (h : FewS S n) (hs : (sortP M, tg) ∈ S) (hl : M'.length ≤ m) (hn : ∀ x ∈ namesOf M', x ∈ namesOf M ∨ x.length = 2) (l : n ≤ m) : FewS (S ++ [(sortP M', tg')]) m := fun st hst => by
  rcases List.mem_append.mp hst with hst | hst
  · exact (h.mono l) st hst
  · rw [List.mem_singleton.mp hst]
    refine ⟨by show (sortP M').length ≤ m; rw [sortP_len]; exact hl, fun x hx => ?_⟩
    rcases hn x (sortP_mem.mp hx) with z | z
    · exact (h _ hs).2 x (sortP_mem.mpr z)
    · exact z
/-! ### the story goes on: the stands that the law has noted are the desk's own -/
section
variable {C CM : Addr} {H H' : Hp} {D D' : DeskR} {S : List Stand} {k : Nat}
theorem DeskS.deedL {M M' : PM} {tg tg' : Tg} (so : Story S) (hk : S.length = k + 1) (e1 : S[k]? = some (sortP M, tg)) (nm : (tg'.map (·.1)).Perm (namesOf M')) (h : DeskAt C CM H' D' M' tg' (S.take k ++ [(sortP M, tg)]) []) :
    DeskS C CM H' D' (S ++ [(sortP M', tg')]) (k + 1) ∧ Story (S ++ [(sortP M', tg')]) := by
  have := DeskS.deed so e1 nm h
  rw [List.take_of_length_le (by omega)] at this
  exact this
theorem last_at {α : Type} {S : List α} {k : Nat} {x : α} (hk : S.length = k + 1) (e : S[k]? = some x) : S = S.take k ++ [x] := by
  rw [← take_at e, List.take_of_length_le (by omega)]
end
/-! ### all that the law has in hand -/
structure Lw (K : PySem.W.Frag) (TS : List (Addr × Str)) (C CM a m sl : Addr) (ns : List Int) (H : Hp) (D : DeskR) (S : List Stand) (k : Nat) (ps : List (Addr × List Addr)) (N : Nat) : Prop where
  dk : D.dk = m
  sc : Scr K H D a (ns.map V.int)
  tb : Tabs TS H
  ds : DeskS C CM H D S k
  so : Story S
  ss : Ss H D S sl ps
  fw : FewS S N
  z0 : S[0]? = some ([], [])
section
variable {K : PySem.W.Frag} {TS : List (Addr × Str)} {C CM a m sl : Addr} {ns : List Int} {H H' : Hp} {D D' : DeskR} {S : List Stand} {k k' : Nat} {ps : List (Addr × List Addr)} {N N' : Nat}
theorem Lw.ext (h : Lw K TS C CM a m sl ns H D S k ps N) (e : ExtN H H') (t : Tabs TS H') : Lw K TS C CM a m sl ns H' D S k ps N := ⟨h.dk, h.sc.ext e, t, h.ds.ext e, h.so, h.ss.ext e, h.fw, h.z0⟩
theorem Lw.same (h : Lw K TS C CM a m sl ns H D S k ps N) (e : Same H H') : Lw K TS C CM a m sl ns H' D S k ps N := h.ext e.ext (h.tb.ext e)
theorem Lw.mono (h : Lw K TS C CM a m sl ns H D S k ps N) (l : N ≤ N') : Lw K TS C CM a m sl ns H D S k ps N' := ⟨h.dk, h.sc, h.tb, h.ds, h.so, h.ss, h.fw.mono l, h.z0⟩
theorem Lw.x (h : Lw K TS C CM a m sl ns H D S k ps N) (x : DeskX H H' D D') (t : Tabs TS H') (d : DeskS C CM H' D' S k') : Lw K TS C CM a m sl ns H' D' S k' ps N := ⟨x.dk.trans h.dk, h.sc.x x, t, d, h.so, h.ss.x x, h.fw, h.z0⟩
theorem Lw.at (h : Lw K TS C CM a m sl ns H D S k ps N) : ∃ M tg, DeskAt C CM H D M tg (S.take k) ((S.drop (k + 1)).reverse) ∧ S[k]? = some (sortP M, tg) ∧ (tg.map (·.1)).Perm (namesOf M) ∧ M.length ≤ N ∧ ∀ n ∈ namesOf M, n.length = 2 := by
  obtain ⟨M, tg, h1, h2, h3⟩ := h.ds
  have := h.fw _ (List.mem_of_getElem? h2)
  exact ⟨M, tg, h1, h2, h3, by rw [← sortP_len]; exact this.1, fun n hn => this.2 n (sortP_mem.mpr hn)⟩
/-- the stands are not none -/
theorem Ss.hd0 (h : Ss H D S sl ps) (ne : S ≠ []) : ∃ l xs ys, H sl = some (.lst (V.ref l :: xs)) ∧ H l = some (.lst ys) := by
  obtain ⟨st, sd, _⟩ := h
  cases sd with
  | nil => exact absurd rfl ne
  | cons r _ =>
    obtain ⟨qs, h1, _⟩ := r
    exact ⟨_, _, _, st, h1⟩
/-- a deed was done, and how all is then is noted -/
theorem Lw.note {M M' : PM} {tg tg' : Tg} {H1 H2 : Hp} {l : Addr} {fp : List Addr} (h : Lw K TS C CM a m sl ns H D S k ps N) (hk : S.length = k + 1) (e1 : S[k]? = some (sortP M, tg)) (x : DeskX H H1 D D') (t : Tabs TS H1) (hd : DeskAt C CM H1 D' M' tg' (S.take k ++ [(sortP M, tg)]) []) (nm : (tg'.map (·.1)).Perm (namesOf M'))
    (hl : M'.length ≤ N') (hn : ∀ n ∈ namesOf M', n ∈ namesOf M ∨ n.length = 2) (hN : N ≤ N') (s : Same H1 H2) (hstd : StdAt H2 l (sortP M', tg') fp) (nfp : ∀ b ∈ fp, H1 b = none) :
    H2 sl = some (.lst (ps.map fun p => V.ref p.1)) ∧ (ps.map fun p => V.ref p.1).length = k + 1 ∧ Lw K TS C CM a m sl ns (upd H2 sl (.lst ((ps.map fun p => V.ref p.1) ++ [V.ref l]))) D' (S ++ [(sortP M', tg')]) (k + 1) (ps ++ [(l, fp)]) N' := by
  have ne : S ≠ [] := fun z => by rw [z] at hk; cases hk
  have ss1 := h.ss.x x
  have ss2 := ss1.ext s.ext
  obtain ⟨l0, xs, ys, f1, f2⟩ := ss2.hd0 ne
  obtain ⟨ds1, so1⟩ := DeskS.deedL h.so hk e1 nm hd
  have sc2 := (h.sc.x x).ext s.ext
  refine ⟨ss2.st, by rw [List.length_map, h.ss.len, hk], x.dk.trans h.dk, sc2.off f1, tabs_upd (t.ext s) f1, (ds1.same s).off f1 f2 ss2.own, so1, ss2.app hstd (fun b hb => hd.notin (nfp b hb)) (fun z => ?_), h.fw.snoc (List.mem_of_getElem? e1) hl hn hN, ?_⟩
  · have := nfp sl z
    rw [ss1.st] at this
    cases this
  · rw [List.getElem?_append_left (by omega)]
    exact h.z0
end
end NM

namespace NM
open PySem PySem.Spec PyProof.Rows L2 HotX L2H
open PySem.W (dataLt alike alikeAll AllAlike Sortable)
/-! ### how many have each tag -/
def PairsI (H : Hp) (ts : List Addr) (ps : List (Int × Str)) : Prop := Paired (fun t p => H t = some (.tup [.int p.1, .str p.2])) ts ps
theorem PairsI.keepT {H H' : Hp} {ts : List Addr} {ps : List (Int × Str)} (h : PairsI H ts ps) (k : KeepT H H') : PairsI H' ts ps := Paired.mapP h fun _ _ z => k _ _ z
theorem PairsI.len {H : Hp} {ts : List Addr} {ps : List (Int × Str)} (h : PairsI H ts ps) : ts.length = ps.length := paired_len h
theorem PairsI.dp {K : PySem.W.Frag} {H : Hp} : ∀ {ts : List Addr} {ps : List (Int × Str)}, PairsI H ts ps → DpAll K H (ts.map V.ref) (ps.map pairD)
  | _, _, .nil => .nil
  | _, _, .cons h t => .cons (.tup (sqT h) (.cons (.int _) (.cons (.str _) .nil))) (PairsI.dp t)
theorem PairsI.zip {H : Hp} : ∀ {ts : List Addr} {ps : List (Int × Str)}, PairsI H ts ps → ∀ q ∈ ts.zip ps, H q.1 = some (.tup [.int q.2.1, .str q.2.2])
  | _, _, .nil, q, hq => nomatch hq
  | _, _, .cons h t, q, hq => by
    rcases List.mem_cons.mp hq with e | hq
    · rw [e]; exact h
    · exact PairsI.zip t q hq
theorem pairsI_of {H : Hp} : ∀ {qs : List (Addr × (Int × Str))}, (∀ q ∈ qs, H q.1 = some (.tup [.int q.2.1, .str q.2.2])) → PairsI H (qs.map (·.1)) (qs.map (·.2))
  | [], _ => .nil
  | q :: qs, h => .cons (h q (List.mem_cons_self ..)) (pairsI_of fun x hx => h x (List.mem_cons_of_mem _ hx))
theorem sortedPairs {H : Hp} {ts : List Addr} {ps : List (Int × Str)} {zs : List (V × PyData)} (hw : PairsI H ts ps) (pm : zs.Perm ((ts.map V.ref).zip (ps.map pairD))) (pw : zs.Pairwise (fun x y => dataLt y.2 x.2 = false)) :
    ∃ (us : List Addr) (rs : List (Int × Str)), zs.map (·.1) = us.map V.ref ∧ PairsI H us rs ∧ rs.Perm ps ∧ rs.Pairwise (fun p q => ltP q p = false) := by
  rw [zip_maps] at pm
  obtain ⟨qs, rfl, p⟩ := perm_map_inv _ pm _ rfl
  refine ⟨qs.map (·.1), qs.map (·.2), by rw [List.map_map, List.map_map]; rfl, pairsI_of fun q hq => hw.zip q (p.mem_iff.mp hq), ?_, ?_⟩
  · have := p.map (fun q : Addr × (Int × Str) => q.2)
    rw [List.map_snd_zip (by rw [hw.len]; exact Nat.le_refl _)] at this
    exact this
  · rw [List.pairwise_map] at pw ⊢
    refine pw.imp fun h => ?_
    rw [dataLt_pairD] at h
    exact h
theorem pairs_alike (ps : List (Int × Str)) : AllAlike (ps.map pairD) := fun d hd d' hd' => (alike_pairs ps).1 d hd d' hd'
theorem pairs_sortable (ps : List (Int × Str)) : Sortable (ps.map pairD) := .inl fun d hd => by
  obtain ⟨p, _, rfl⟩ := List.mem_map.mp hd
  exact ⟨_, _, rfl⟩
theorem pairs_depth (ps : List (Int × Str)) : ∀ d ∈ ps.map pairD, d.depth ≤ 60 := fun d hd => by
  obtain ⟨p, _, rfl⟩ := List.mem_map.mp hd
  simp [pairD, PyData.depth, PyData.depthAll]
theorem ltP_anti {p q : Int × Str} (h1 : ltP p q = false) (h2 : ltP q p = false) : p = q := by
  unfold ltP at h1 h2
  by_cases e : p.1 = q.1
  · rw [if_pos e] at h1
    rw [if_pos e.symm] at h2
    rcases ltS_tri p.2 q.2 with h | h | h
    · exact Prod.ext e h
    · rw [h] at h1; cases h1
    · rw [h] at h2; cases h2
  · rw [if_neg e] at h1
    rw [if_neg (fun z => e z.symm)] at h2
    simp only [decide_eq_false_iff_not] at h1 h2
    omega
theorem pairs_uniq {rs rs' : List (Int × Str)} (p : rs.Perm rs') (h : rs.Pairwise (fun p q => ltP q p = false)) (h' : rs'.Pairwise (fun p q => ltP q p = false)) : rs = rs' := p.eq_of_pairwise (fun _ _ _ _ h1 h2 => ltP_anti h2 h1) h h'
def ngP (ws : List Str) : List (Int × Str) := (ddup ws).map fun k => (0 - ((ws.count k : Nat) : Int), k)
theorem ngP_len (ws : List Str) : (ngP ws).length ≤ ws.length := by unfold ngP; rw [List.length_map]; exact ddup_len ws
def tagWs (tg : Tg) (L : List Str) : List Str := (L.map (tagOf tg)).flatten
theorem tagWs_snoc (tg : Tg) (L : List Str) (n : Str) : tagWs tg (L ++ [n]) = tagWs tg L ++ tagOf tg n := by
  unfold tagWs
  rw [List.map_append, List.flatten_append]
  simp
theorem tagWs_len {tg : Tg} (h : ∀ p ∈ tg, p.2.length ≤ 5 ∧ ∀ w ∈ p.2, nameS w = true) : ∀ L : List Str, (tagWs tg L).length ≤ 5 * L.length
  | [] => Nat.le_refl _
  | n :: L => by
    have ih := tagWs_len h L
    have := (tagOf_w (n := n) h).1
    have e : tagWs tg (n :: L) = tagOf tg n ++ tagWs tg L := rfl
    rw [e, List.length_append, List.length_cons]
    omega
theorem tagWs_names {tg : Tg} (h : ∀ p ∈ tg, p.2.length ≤ 5 ∧ ∀ w ∈ p.2, nameS w = true) {L : List Str} : ∀ w ∈ tagWs tg L, nameS w = true := fun w hw => by
  obtain ⟨l, hl, hw⟩ := List.mem_flatten.mp hw
  obtain ⟨n, _, rfl⟩ := List.mem_map.mp hl
  exact (tagOf_w h).2 w hw
theorem pairs_ng {H : Hp} {f : Str → Int} : ∀ {L : List Str} {ys : List V}, Paired (fun x y => ∃ n t, x = V.str n ∧ y = V.ref t ∧ H t = some (.tup [.int (f n), .str n])) (L.map V.str) ys → ∃ ts, ys = ts.map V.ref ∧ PairsI H ts (L.map fun n => (f n, n))
  | [], _, .nil => ⟨[], rfl, .nil⟩
  | n :: L, _, .cons r t => by
    obtain ⟨n', a, e1, rfl, h⟩ := r
    cases e1
    obtain ⟨ps, rfl, p⟩ := pairs_ng t
    exact ⟨a :: ps, rfl, .cons h p⟩
theorem PairsI.at {H : Hp} : ∀ {ts : List Addr} {ps : List (Int × Str)} {i : Nat} {v : V}, PairsI H ts ps → (ts.map V.ref)[i]? = some v → ∃ t p, v = .ref t ∧ p ∈ ps ∧ H t = some (.tup [.int p.1, .str p.2])
  | _, _, _, _, .nil, e => by simp at e
  | _, _, 0, v, .cons (a := t) (b := p) h _, e => by simp at e; exact ⟨t, p, e.symm, List.mem_cons_self .., h⟩
  | _, _, i + 1, v, .cons _ r, e => by
    obtain ⟨t, p, h1, h2, h3⟩ := PairsI.at (i := i) r (by simpa using e)
    exact ⟨t, p, h1, List.mem_cons_of_mem _ h2, h3⟩
theorem pairs_flip {H H' : Hp} : ∀ {ts : List Addr} {ps : List (Int × Str)} {ys : List V}, PairsI H ts ps → Paired (fun x y => ∃ (t u : Addr) (q : Int × Str), x = V.ref t ∧ H t = some (.tup [.int q.1, .str q.2]) ∧ y = V.ref u ∧ H' u = some (.tup [.str q.2, .int (0 - q.1)])) (ts.map V.ref) ys → ∃ us, ys = us.map V.ref ∧ SPairs H' us (ps.map fun p => (p.2, 0 - p.1))
  | _, _, _, .nil, .nil => ⟨[], rfl, .nil⟩
  | _, _, _, .cons (b := p) h r, .cons ⟨t, u, q, e1, e2, rfl, h4⟩ tl => by
    cases e1
    rw [h] at e2
    obtain ⟨us, rfl, w⟩ := pairs_flip r tl
    have ep : p = q := by
      obtain ⟨a, b⟩ := p
      obtain ⟨c, d⟩ := q
      cases e2
      rfl
    rw [← ep] at h4
    exact ⟨u :: us, rfl, .cons h4 w⟩
end NM

namespace NMP
open PySem PySem.Spec PyProof.Rows L2 HotX L2H NM
/-! ### the text by places -/
def topS (i : Nat) : Stmt := PySem.Challenge.pw_nearmarks_k71_whole_desks_back.main.body.getD i (.Pass ⟨0, 0, 0, 0⟩)
abbrev s_is_count : Stmt := topS 16
abbrev s_is_name : Stmt := topS 17
abbrev s_need_name : Stmt := topS 18
abbrev s_need_point : Stmt := topS 19
abbrev s_need_size : Stmt := topS 20
abbrev s_reach : Stmt := topS 21
abbrev s_apart : Stmt := topS 22
abbrev s_heaps_of : Stmt := topS 24
abbrev s_Map___init__ : Stmt := inClass (topS 28) 0
abbrev s_Map_marks : Stmt := inClass (topS 28) 1
abbrev s_Map_point : Stmt := inClass (topS 28) 2
abbrev s_Map_put : Stmt := inClass (topS 28) 3
abbrev s_Map_join : Stmt := inClass (topS 28) 4
abbrev s_Map_drop : Stmt := inClass (topS 28) 5
abbrev s_Map_move : Stmt := inClass (topS 28) 6
abbrev s_Map_names_at : Stmt := inClass (topS 28) 7
abbrev s_Map_heap_of : Stmt := inClass (topS 28) 9
abbrev s_Map_names : Stmt := inClass (topS 28) 11
abbrev s_need_box : Stmt := topS 29
abbrev s_is_in : Stmt := topS 30
abbrev s_Desk___init__ : Stmt := inClass (topS 33) 0
abbrev s_Desk_stand : Stmt := inClass (topS 33) 1
abbrev s_Desk_to : Stmt := inClass (topS 33) 2
abbrev s_Desk_keep : Stmt := inClass (topS 33) 3
abbrev s_Desk_put : Stmt := inClass (topS 33) 4
abbrev s_Desk_drop : Stmt := inClass (topS 33) 5
abbrev s_Desk_move : Stmt := inClass (topS 33) 6
abbrev s_Desk_tag : Stmt := inClass (topS 33) 7
abbrev s_Desk_untag : Stmt := inClass (topS 33) 8
abbrev s_Desk_undo : Stmt := inClass (topS 33) 9
abbrev s_Desk_redo : Stmt := inClass (topS 33) 10
abbrev s_Desk_chart : Stmt := inClass (topS 33) 11
abbrev s_Desk_tags : Stmt := inClass (topS 33) 12
abbrev s_Desk_tagged : Stmt := inClass (topS 33) 13
abbrev s_Desk_sought : Stmt := inClass (topS 33) 14
abbrev s_Desk_told_of : Stmt := inClass (topS 33) 15
abbrev s_law_cell : Stmt := topS 35
abbrev s_law_drawn : Stmt := topS 36
abbrev s_law_word : Stmt := topS 37
abbrev s_law_told : Stmt := topS 38
abbrev s_law_point : Stmt := topS 39
abbrev s_law_name : Stmt := topS 40
abbrev s_law_stand : Stmt := topS 41
abbrev s_law_any : Stmt := topS 42
abbrev s_law_refusals : Stmt := topS 43
abbrev s_law : Stmt := topS 44
theorem sc_is_count : FnScope ["thing", "low", "high"] ["thing", "low", "high"] (defScope s_is_count) := ⟨rfl, rfl, rfl, by decide +kernel, rfl, by decide +kernel, by decide +kernel⟩
theorem sc_is_name : FnScope ["thing", "sign"] ["thing"] (defScope s_is_name) := ⟨rfl, rfl, rfl, by decide +kernel, rfl, by decide +kernel, by decide +kernel⟩
theorem sc_need_name : FnScope ["thing"] ["thing"] (defScope s_need_name) := ⟨rfl, rfl, rfl, by decide +kernel, rfl, by decide +kernel, by decide +kernel⟩
theorem sc_need_point : FnScope ["thing", "one"] ["thing"] (defScope s_need_point) := ⟨rfl, rfl, rfl, by decide +kernel, rfl, by decide +kernel, by decide +kernel⟩
theorem sc_need_size : FnScope ["thing"] ["thing"] (defScope s_need_size) := ⟨rfl, rfl, rfl, by decide +kernel, rfl, by decide +kernel, by decide +kernel⟩
theorem sc_reach : FnScope ["size"] ["size"] (defScope s_reach) := ⟨rfl, rfl, rfl, by decide +kernel, rfl, by decide +kernel, by decide +kernel⟩
theorem sc_apart : FnScope ["one", "other"] ["one", "other"] (defScope s_apart) := ⟨rfl, rfl, rfl, by decide +kernel, rfl, by decide +kernel, by decide +kernel⟩
theorem sc_heaps_of : FnScope ["points", "size", "left", "found", "row", "fresh", "name", "near", "other"] ["points", "size"] (defScope s_heaps_of) := ⟨rfl, rfl, rfl, by decide +kernel, rfl, by decide +kernel, by decide +kernel⟩
theorem sc_Map___init__ : FnScope ["self", "size"] ["self"] (defScope s_Map___init__) := ⟨rfl, rfl, rfl, by decide +kernel, rfl, by decide +kernel, by decide +kernel⟩
theorem sc_Map_marks : FnScope ["self", "name"] ["self"] (defScope s_Map_marks) := ⟨rfl, rfl, rfl, by decide +kernel, rfl, by decide +kernel, by decide +kernel⟩
theorem sc_Map_point : FnScope ["self", "name"] ["self", "name"] (defScope s_Map_point) := ⟨rfl, rfl, rfl, by decide +kernel, rfl, by decide +kernel, by decide +kernel⟩
theorem sc_Map_put : FnScope ["self", "name", "point", "size"] ["self", "name", "point"] (defScope s_Map_put) := ⟨rfl, rfl, rfl, by decide +kernel, rfl, by decide +kernel, by decide +kernel⟩
theorem sc_Map_join : FnScope ["self", "name", "size", "heads", "point", "near", "other", "least"] ["self", "name", "size"] (defScope s_Map_join) := ⟨rfl, rfl, rfl, by decide +kernel, rfl, by decide +kernel, by decide +kernel⟩
theorem sc_Map_drop : FnScope ["self", "name", "size", "heads", "head", "some", "other", "row"] ["self", "name"] (defScope s_Map_drop) := ⟨rfl, rfl, rfl, by decide +kernel, rfl, by decide +kernel, by decide +kernel⟩
theorem sc_Map_move : FnScope ["self", "name", "point"] ["self", "name", "point"] (defScope s_Map_move) := ⟨rfl, rfl, rfl, by decide +kernel, rfl, by decide +kernel, by decide +kernel⟩
theorem sc_Map_names_at : FnScope ["self", "head", "size", "heads", "name"] ["self", "head", "size"] (defScope s_Map_names_at) := ⟨rfl, rfl, rfl, by decide +kernel, rfl, by decide +kernel, by decide +kernel⟩
theorem sc_Map_heap_of : FnScope ["self", "name", "size"] ["self", "name", "size"] (defScope s_Map_heap_of) := ⟨rfl, rfl, rfl, by decide +kernel, rfl, by decide +kernel, by decide +kernel⟩
theorem sc_Map_names : FnScope ["self", "head", "size"] ["self", "head", "size"] (defScope s_Map_names) := ⟨rfl, rfl, rfl, by decide +kernel, rfl, by decide +kernel, by decide +kernel⟩
theorem sc_need_box : FnScope ["box", "good", "one"] ["box"] (defScope s_need_box) := ⟨rfl, rfl, rfl, by decide +kernel, rfl, by decide +kernel, by decide +kernel⟩
theorem sc_is_in : FnScope ["point", "box"] ["point", "box"] (defScope s_is_in) := ⟨rfl, rfl, rfl, by decide +kernel, rfl, by decide +kernel, by decide +kernel⟩
theorem sc_Desk___init__ : FnScope ["self"] ["self"] (defScope s_Desk___init__) := ⟨rfl, rfl, rfl, by decide +kernel, rfl, by decide +kernel, by decide +kernel⟩
theorem sc_Desk_stand : FnScope ["self", "name"] ["self"] (defScope s_Desk_stand) := ⟨rfl, rfl, rfl, by decide +kernel, rfl, by decide +kernel, by decide +kernel⟩
theorem sc_Desk_to : FnScope ["self", "stand", "name", "point"] ["self", "stand"] (defScope s_Desk_to) := ⟨rfl, rfl, rfl, by decide +kernel, rfl, by decide +kernel, by decide +kernel⟩
theorem sc_Desk_keep : FnScope ["self", "stand"] ["self", "stand"] (defScope s_Desk_keep) := ⟨rfl, rfl, rfl, by decide +kernel, rfl, by decide +kernel, by decide +kernel⟩
theorem sc_Desk_put : FnScope ["self", "name", "point", "stand"] ["self", "name", "point"] (defScope s_Desk_put) := ⟨rfl, rfl, rfl, by decide +kernel, rfl, by decide +kernel, by decide +kernel⟩
theorem sc_Desk_drop : FnScope ["self", "name", "stand"] ["self", "name"] (defScope s_Desk_drop) := ⟨rfl, rfl, rfl, by decide +kernel, rfl, by decide +kernel, by decide +kernel⟩
theorem sc_Desk_move : FnScope ["self", "name", "point", "stand"] ["self", "name", "point"] (defScope s_Desk_move) := ⟨rfl, rfl, rfl, by decide +kernel, rfl, by decide +kernel, by decide +kernel⟩
theorem sc_Desk_tag : FnScope ["self", "name", "word", "own"] ["self", "name", "word"] (defScope s_Desk_tag) := ⟨rfl, rfl, rfl, by decide +kernel, rfl, by decide +kernel, by decide +kernel⟩
theorem sc_Desk_untag : FnScope ["self", "name", "word", "own"] ["self", "name", "word"] (defScope s_Desk_untag) := ⟨rfl, rfl, rfl, by decide +kernel, rfl, by decide +kernel, by decide +kernel⟩
theorem sc_Desk_undo : FnScope ["self"] ["self"] (defScope s_Desk_undo) := ⟨rfl, rfl, rfl, by decide +kernel, rfl, by decide +kernel, by decide +kernel⟩
theorem sc_Desk_redo : FnScope ["self"] ["self"] (defScope s_Desk_redo) := ⟨rfl, rfl, rfl, by decide +kernel, rfl, by decide +kernel, by decide +kernel⟩
theorem sc_Desk_chart : FnScope ["self", "found", "name", "point"] ["self"] (defScope s_Desk_chart) := ⟨rfl, rfl, rfl, by decide +kernel, rfl, by decide +kernel, by decide +kernel⟩
theorem sc_Desk_tags : FnScope ["self", "name"] ["self", "name"] (defScope s_Desk_tags) := ⟨rfl, rfl, rfl, by decide +kernel, rfl, by decide +kernel, by decide +kernel⟩
theorem sc_Desk_tagged : FnScope ["self", "word", "name"] ["self", "word"] (defScope s_Desk_tagged) := ⟨rfl, rfl, rfl, by decide +kernel, rfl, by decide +kernel, by decide +kernel⟩
theorem sc_Desk_sought : FnScope ["self", "box", "size", "word", "own", "name", "found", "point", "head"] ["self", "box", "size", "word"] (defScope s_Desk_sought) := ⟨rfl, rfl, rfl, by decide +kernel, rfl, by decide +kernel, by decide +kernel⟩
theorem sc_Desk_told_of : FnScope ["self", "head", "size", "rows", "name", "word", "many"] ["self", "head", "size"] (defScope s_Desk_told_of) := ⟨rfl, rfl, rfl, by decide +kernel, rfl, by decide +kernel, by decide +kernel⟩
theorem sc_law_cell : FnScope ["script", "k"] ["script", "k"] (defScope s_law_cell) := ⟨rfl, rfl, rfl, by decide +kernel, rfl, by decide +kernel, by decide +kernel⟩
theorem sc_law_drawn : FnScope ["cell", "k", "more"] ["cell", "k"] (defScope s_law_drawn) := ⟨rfl, rfl, rfl, by decide +kernel, rfl, by decide +kernel, by decide +kernel⟩
theorem sc_law_word : FnScope ["e", "flags", "flag", "words"] ["e"] (defScope s_law_word) := ⟨rfl, rfl, rfl, by decide +kernel, rfl, by decide +kernel, by decide +kernel⟩
theorem sc_law_told : FnScope ["deed", "e"] ["deed"] (defScope s_law_told) := ⟨rfl, rfl, rfl, by decide +kernel, rfl, by decide +kernel, by decide +kernel⟩
theorem sc_law_point : FnScope ["more", "here", "by"] ["more"] (defScope s_law_point) := ⟨rfl, rfl, rfl, by decide +kernel, rfl, by decide +kernel, by decide +kernel⟩
theorem sc_law_name : FnScope ["j"] ["j"] (defScope s_law_name) := ⟨rfl, rfl, rfl, by decide +kernel, rfl, by decide +kernel, by decide +kernel⟩
theorem sc_law_stand : FnScope ["desk", "name", "point"] ["desk"] (defScope s_law_stand) := ⟨rfl, rfl, rfl, by decide +kernel, rfl, by decide +kernel, by decide +kernel⟩
theorem sc_law_any : FnScope ["desk", "here", "names", "name", "point", "word"] ["desk", "here"] (defScope s_law_any) := ⟨rfl, rfl, rfl, by decide +kernel, rfl, by decide +kernel, by decide +kernel⟩
theorem sc_law_refusals : FnScope ["desk", "bad", "told", "box", "size"] ["desk"] (defScope s_law_refusals) := ⟨rfl, rfl, rfl, by decide +kernel, rfl, by decide +kernel, by decide +kernel⟩
theorem sc_law : FnScope ["script", "k", "more", "desk", "stands", "j", "name", "point", "tags", "stand", "row"] ["script"] (defScope s_law) := ⟨rfl, rfl, rfl, by decide +kernel, rfl, by decide +kernel, by decide +kernel⟩
/-! ### what the top has left -/
structure Tx (K : PySem.W.Frag) (mg : Str → Option Value) where
  C_MarkError : Addr
  C_BadName : Addr
  C_BadPoint : Addr
  C_BadSize : Addr
  C_BadHeap : Addr
  C_BadText : Addr
  C_BadTag : Addr
  C_Nothing : Addr
  g_MarkError : mg "MarkError" = some (.ref C_MarkError)
  x_MarkError : PySem.W.excIn K C_MarkError [.type "ValueError", .type "Exception", .type "BaseException", .type "object"] "ValueError.__new__" = true
  k_MarkError : PySem.W.keepIn K (.ref C_MarkError) = true
  e_MarkError : PySem.W.subIn K (.ref C_MarkError) (.type "BaseException") = some true
  t_MarkError : PySem.W.typeIn K (.ref C_MarkError) = some (.type "type")
  hd_MarkError : PySem.W.hasDictIn K C_MarkError = true
  sm_MarkError : PySem.W.subIn K (.ref C_MarkError) (.ref C_MarkError) = some true
  ga_MarkError : PySem.W.findIn K (.ref C_MarkError) "__getattribute__" = some (some (.builtin "BaseException.__getattribute__"))
  gt_MarkError : PySem.W.findIn K (.ref C_MarkError) "__getattr__" = some none
  cl_MarkError : PySem.W.findIn K (.ref C_MarkError) "__class__" = some (some (.builtin "object.__class__"))
  mr_MarkError : PySem.W.mroIn K C_MarkError (.type "object") = some true
  g_BadName : mg "BadName" = some (.ref C_BadName)
  x_BadName : PySem.W.excIn K C_BadName [.type "ValueError", .type "Exception", .type "BaseException", .type "object"] "ValueError.__new__" = true
  k_BadName : PySem.W.keepIn K (.ref C_BadName) = true
  e_BadName : PySem.W.subIn K (.ref C_BadName) (.type "BaseException") = some true
  t_BadName : PySem.W.typeIn K (.ref C_BadName) = some (.type "type")
  hd_BadName : PySem.W.hasDictIn K C_BadName = true
  sm_BadName : PySem.W.subIn K (.ref C_BadName) (.ref C_MarkError) = some true
  ga_BadName : PySem.W.findIn K (.ref C_BadName) "__getattribute__" = some (some (.builtin "BaseException.__getattribute__"))
  gt_BadName : PySem.W.findIn K (.ref C_BadName) "__getattr__" = some none
  cl_BadName : PySem.W.findIn K (.ref C_BadName) "__class__" = some (some (.builtin "object.__class__"))
  mr_BadName : PySem.W.mroIn K C_BadName (.type "object") = some true
  g_BadPoint : mg "BadPoint" = some (.ref C_BadPoint)
  x_BadPoint : PySem.W.excIn K C_BadPoint [.type "ValueError", .type "Exception", .type "BaseException", .type "object"] "ValueError.__new__" = true
  k_BadPoint : PySem.W.keepIn K (.ref C_BadPoint) = true
  e_BadPoint : PySem.W.subIn K (.ref C_BadPoint) (.type "BaseException") = some true
  t_BadPoint : PySem.W.typeIn K (.ref C_BadPoint) = some (.type "type")
  hd_BadPoint : PySem.W.hasDictIn K C_BadPoint = true
  sm_BadPoint : PySem.W.subIn K (.ref C_BadPoint) (.ref C_MarkError) = some true
  ga_BadPoint : PySem.W.findIn K (.ref C_BadPoint) "__getattribute__" = some (some (.builtin "BaseException.__getattribute__"))
  gt_BadPoint : PySem.W.findIn K (.ref C_BadPoint) "__getattr__" = some none
  cl_BadPoint : PySem.W.findIn K (.ref C_BadPoint) "__class__" = some (some (.builtin "object.__class__"))
  mr_BadPoint : PySem.W.mroIn K C_BadPoint (.type "object") = some true
  g_BadSize : mg "BadSize" = some (.ref C_BadSize)
  x_BadSize : PySem.W.excIn K C_BadSize [.type "ValueError", .type "Exception", .type "BaseException", .type "object"] "ValueError.__new__" = true
  k_BadSize : PySem.W.keepIn K (.ref C_BadSize) = true
  e_BadSize : PySem.W.subIn K (.ref C_BadSize) (.type "BaseException") = some true
  t_BadSize : PySem.W.typeIn K (.ref C_BadSize) = some (.type "type")
  hd_BadSize : PySem.W.hasDictIn K C_BadSize = true
  sm_BadSize : PySem.W.subIn K (.ref C_BadSize) (.ref C_MarkError) = some true
  ga_BadSize : PySem.W.findIn K (.ref C_BadSize) "__getattribute__" = some (some (.builtin "BaseException.__getattribute__"))
  gt_BadSize : PySem.W.findIn K (.ref C_BadSize) "__getattr__" = some none
  cl_BadSize : PySem.W.findIn K (.ref C_BadSize) "__class__" = some (some (.builtin "object.__class__"))
  mr_BadSize : PySem.W.mroIn K C_BadSize (.type "object") = some true
  g_BadHeap : mg "BadHeap" = some (.ref C_BadHeap)
  x_BadHeap : PySem.W.excIn K C_BadHeap [.type "ValueError", .type "Exception", .type "BaseException", .type "object"] "ValueError.__new__" = true
  k_BadHeap : PySem.W.keepIn K (.ref C_BadHeap) = true
  e_BadHeap : PySem.W.subIn K (.ref C_BadHeap) (.type "BaseException") = some true
  t_BadHeap : PySem.W.typeIn K (.ref C_BadHeap) = some (.type "type")
  hd_BadHeap : PySem.W.hasDictIn K C_BadHeap = true
  sm_BadHeap : PySem.W.subIn K (.ref C_BadHeap) (.ref C_MarkError) = some true
  ga_BadHeap : PySem.W.findIn K (.ref C_BadHeap) "__getattribute__" = some (some (.builtin "BaseException.__getattribute__"))
  gt_BadHeap : PySem.W.findIn K (.ref C_BadHeap) "__getattr__" = some none
  cl_BadHeap : PySem.W.findIn K (.ref C_BadHeap) "__class__" = some (some (.builtin "object.__class__"))
  mr_BadHeap : PySem.W.mroIn K C_BadHeap (.type "object") = some true
  g_BadText : mg "BadText" = some (.ref C_BadText)
  x_BadText : PySem.W.excIn K C_BadText [.type "ValueError", .type "Exception", .type "BaseException", .type "object"] "ValueError.__new__" = true
  k_BadText : PySem.W.keepIn K (.ref C_BadText) = true
  e_BadText : PySem.W.subIn K (.ref C_BadText) (.type "BaseException") = some true
  t_BadText : PySem.W.typeIn K (.ref C_BadText) = some (.type "type")
  hd_BadText : PySem.W.hasDictIn K C_BadText = true
  sm_BadText : PySem.W.subIn K (.ref C_BadText) (.ref C_MarkError) = some true
  ga_BadText : PySem.W.findIn K (.ref C_BadText) "__getattribute__" = some (some (.builtin "BaseException.__getattribute__"))
  gt_BadText : PySem.W.findIn K (.ref C_BadText) "__getattr__" = some none
  cl_BadText : PySem.W.findIn K (.ref C_BadText) "__class__" = some (some (.builtin "object.__class__"))
  mr_BadText : PySem.W.mroIn K C_BadText (.type "object") = some true
  g_BadTag : mg "BadTag" = some (.ref C_BadTag)
  x_BadTag : PySem.W.excIn K C_BadTag [.type "ValueError", .type "Exception", .type "BaseException", .type "object"] "ValueError.__new__" = true
  k_BadTag : PySem.W.keepIn K (.ref C_BadTag) = true
  e_BadTag : PySem.W.subIn K (.ref C_BadTag) (.type "BaseException") = some true
  t_BadTag : PySem.W.typeIn K (.ref C_BadTag) = some (.type "type")
  hd_BadTag : PySem.W.hasDictIn K C_BadTag = true
  sm_BadTag : PySem.W.subIn K (.ref C_BadTag) (.ref C_MarkError) = some true
  ga_BadTag : PySem.W.findIn K (.ref C_BadTag) "__getattribute__" = some (some (.builtin "BaseException.__getattribute__"))
  gt_BadTag : PySem.W.findIn K (.ref C_BadTag) "__getattr__" = some none
  cl_BadTag : PySem.W.findIn K (.ref C_BadTag) "__class__" = some (some (.builtin "object.__class__"))
  mr_BadTag : PySem.W.mroIn K C_BadTag (.type "object") = some true
  g_Nothing : mg "Nothing" = some (.ref C_Nothing)
  x_Nothing : PySem.W.excIn K C_Nothing [.type "ValueError", .type "Exception", .type "BaseException", .type "object"] "ValueError.__new__" = true
  k_Nothing : PySem.W.keepIn K (.ref C_Nothing) = true
  e_Nothing : PySem.W.subIn K (.ref C_Nothing) (.type "BaseException") = some true
  t_Nothing : PySem.W.typeIn K (.ref C_Nothing) = some (.type "type")
  hd_Nothing : PySem.W.hasDictIn K C_Nothing = true
  sm_Nothing : PySem.W.subIn K (.ref C_Nothing) (.ref C_MarkError) = some true
  ga_Nothing : PySem.W.findIn K (.ref C_Nothing) "__getattribute__" = some (some (.builtin "BaseException.__getattribute__"))
  gt_Nothing : PySem.W.findIn K (.ref C_Nothing) "__getattr__" = some none
  cl_Nothing : PySem.W.findIn K (.ref C_Nothing) "__class__" = some (some (.builtin "object.__class__"))
  mr_Nothing : PySem.W.mroIn K C_Nothing (.type "object") = some true
  ocn : PySem.W.specialIn K (.builtin "object.__class__") "__get__" = some (some (.builtin "getset_descriptor.__get__"))
  oct : PySem.W.takesIn K (.builtin "object.__class__") = some true
  kit_BadHeap_BadHeap : PySem.W.kitOne K (.ref C_BadHeap) (.ref C_BadHeap) = some true
  kit_BadHeap_BadName : PySem.W.kitOne K (.ref C_BadHeap) (.ref C_BadName) = some false
  kit_BadHeap_BadPoint : PySem.W.kitOne K (.ref C_BadHeap) (.ref C_BadPoint) = some false
  kit_BadHeap_BadSize : PySem.W.kitOne K (.ref C_BadHeap) (.ref C_BadSize) = some false
  kit_BadHeap_BadText : PySem.W.kitOne K (.ref C_BadHeap) (.ref C_BadText) = some false
  kit_BadHeap_BadTag : PySem.W.kitOne K (.ref C_BadHeap) (.ref C_BadTag) = some false
  kit_BadHeap_Nothing : PySem.W.kitOne K (.ref C_BadHeap) (.ref C_Nothing) = some false
  kit_BadHeap_VE : PySem.W.kitOne K (.ref C_BadHeap) (.type "ValueError") = some true
  kit_BadName_BadHeap : PySem.W.kitOne K (.ref C_BadName) (.ref C_BadHeap) = some false
  kit_BadName_BadName : PySem.W.kitOne K (.ref C_BadName) (.ref C_BadName) = some true
  kit_BadName_BadPoint : PySem.W.kitOne K (.ref C_BadName) (.ref C_BadPoint) = some false
  kit_BadName_BadSize : PySem.W.kitOne K (.ref C_BadName) (.ref C_BadSize) = some false
  kit_BadName_BadText : PySem.W.kitOne K (.ref C_BadName) (.ref C_BadText) = some false
  kit_BadName_BadTag : PySem.W.kitOne K (.ref C_BadName) (.ref C_BadTag) = some false
  kit_BadName_Nothing : PySem.W.kitOne K (.ref C_BadName) (.ref C_Nothing) = some false
  kit_BadName_VE : PySem.W.kitOne K (.ref C_BadName) (.type "ValueError") = some true
  kit_BadPoint_BadHeap : PySem.W.kitOne K (.ref C_BadPoint) (.ref C_BadHeap) = some false
  kit_BadPoint_BadName : PySem.W.kitOne K (.ref C_BadPoint) (.ref C_BadName) = some false
  kit_BadPoint_BadPoint : PySem.W.kitOne K (.ref C_BadPoint) (.ref C_BadPoint) = some true
  kit_BadPoint_BadSize : PySem.W.kitOne K (.ref C_BadPoint) (.ref C_BadSize) = some false
  kit_BadPoint_BadText : PySem.W.kitOne K (.ref C_BadPoint) (.ref C_BadText) = some false
  kit_BadPoint_BadTag : PySem.W.kitOne K (.ref C_BadPoint) (.ref C_BadTag) = some false
  kit_BadPoint_Nothing : PySem.W.kitOne K (.ref C_BadPoint) (.ref C_Nothing) = some false
  kit_BadPoint_VE : PySem.W.kitOne K (.ref C_BadPoint) (.type "ValueError") = some true
  kit_BadSize_BadHeap : PySem.W.kitOne K (.ref C_BadSize) (.ref C_BadHeap) = some false
  kit_BadSize_BadName : PySem.W.kitOne K (.ref C_BadSize) (.ref C_BadName) = some false
  kit_BadSize_BadPoint : PySem.W.kitOne K (.ref C_BadSize) (.ref C_BadPoint) = some false
  kit_BadSize_BadSize : PySem.W.kitOne K (.ref C_BadSize) (.ref C_BadSize) = some true
  kit_BadSize_BadText : PySem.W.kitOne K (.ref C_BadSize) (.ref C_BadText) = some false
  kit_BadSize_BadTag : PySem.W.kitOne K (.ref C_BadSize) (.ref C_BadTag) = some false
  kit_BadSize_Nothing : PySem.W.kitOne K (.ref C_BadSize) (.ref C_Nothing) = some false
  kit_BadSize_VE : PySem.W.kitOne K (.ref C_BadSize) (.type "ValueError") = some true
  kit_BadText_BadHeap : PySem.W.kitOne K (.ref C_BadText) (.ref C_BadHeap) = some false
  kit_BadText_BadName : PySem.W.kitOne K (.ref C_BadText) (.ref C_BadName) = some false
  kit_BadText_BadPoint : PySem.W.kitOne K (.ref C_BadText) (.ref C_BadPoint) = some false
  kit_BadText_BadSize : PySem.W.kitOne K (.ref C_BadText) (.ref C_BadSize) = some false
  kit_BadText_BadText : PySem.W.kitOne K (.ref C_BadText) (.ref C_BadText) = some true
  kit_BadText_BadTag : PySem.W.kitOne K (.ref C_BadText) (.ref C_BadTag) = some false
  kit_BadText_Nothing : PySem.W.kitOne K (.ref C_BadText) (.ref C_Nothing) = some false
  kit_BadText_VE : PySem.W.kitOne K (.ref C_BadText) (.type "ValueError") = some true
  kit_BadTag_BadHeap : PySem.W.kitOne K (.ref C_BadTag) (.ref C_BadHeap) = some false
  kit_BadTag_BadName : PySem.W.kitOne K (.ref C_BadTag) (.ref C_BadName) = some false
  kit_BadTag_BadPoint : PySem.W.kitOne K (.ref C_BadTag) (.ref C_BadPoint) = some false
  kit_BadTag_BadSize : PySem.W.kitOne K (.ref C_BadTag) (.ref C_BadSize) = some false
  kit_BadTag_BadText : PySem.W.kitOne K (.ref C_BadTag) (.ref C_BadText) = some false
  kit_BadTag_BadTag : PySem.W.kitOne K (.ref C_BadTag) (.ref C_BadTag) = some true
  kit_BadTag_Nothing : PySem.W.kitOne K (.ref C_BadTag) (.ref C_Nothing) = some false
  kit_BadTag_VE : PySem.W.kitOne K (.ref C_BadTag) (.type "ValueError") = some true
  kit_Nothing_BadHeap : PySem.W.kitOne K (.ref C_Nothing) (.ref C_BadHeap) = some false
  kit_Nothing_BadName : PySem.W.kitOne K (.ref C_Nothing) (.ref C_BadName) = some false
  kit_Nothing_BadPoint : PySem.W.kitOne K (.ref C_Nothing) (.ref C_BadPoint) = some false
  kit_Nothing_BadSize : PySem.W.kitOne K (.ref C_Nothing) (.ref C_BadSize) = some false
  kit_Nothing_BadText : PySem.W.kitOne K (.ref C_Nothing) (.ref C_BadText) = some false
  kit_Nothing_BadTag : PySem.W.kitOne K (.ref C_Nothing) (.ref C_BadTag) = some false
  kit_Nothing_Nothing : PySem.W.kitOne K (.ref C_Nothing) (.ref C_Nothing) = some true
  kit_Nothing_VE : PySem.W.kitOne K (.ref C_Nothing) (.type "ValueError") = some true
  t_SMALL : Tok
  g_SMALL : mg "SMALL" = some (.str "abcdefghijklmnopqrstuvwxyz" t_SMALL)
  t_MOST_WORD : Tok
  g_MOST_WORD : mg "MOST_WORD" = some (.int 6 t_MOST_WORD)
  t_MOST_SIDE : Tok
  g_MOST_SIDE : mg "MOST_SIDE" = some (.int 4095 t_MOST_SIDE)
  t_MOST_SIZE : Tok
  g_MOST_SIZE : mg "MOST_SIZE" = some (.int 13 t_MOST_SIZE)
  a_REACHES : Addr
  g_REACHES : mg "REACHES" = some (.ref a_REACHES)
  s_REACHES : ∀ H : Hp, SqT K H a_REACHES [V.int 0, V.int 1, V.int 2, V.int 4, V.int 8, V.int 16, V.int 32, V.int 64, V.int 128, V.int 256, V.int 512, V.int 1024, V.int 2048, V.int 4096]
  t_MOST_MARKS : Tok
  g_MOST_MARKS : mg "MOST_MARKS" = some (.int 60 t_MOST_MARKS)
  t_MOST_TAGS : Tok
  g_MOST_TAGS : mg "MOST_TAGS" = some (.int 5 t_MOST_TAGS)
  n_ValueError : mg "ValueError" = none
  n_abs : mg "abs" = none
  n_all : mg "all" = none
  n_bool : mg "bool" = none
  n_dict : mg "dict" = none
  n_int : mg "int" = none
  n_isinstance : mg "isinstance" = none
  n_len : mg "len" = none
  n_list : mg "list" = none
  n_max : mg "max" = none
  n_min : mg "min" = none
  n_range : mg "range" = none
  n_sorted : mg "sorted" = none
  n_str : mg "str" = none
  n_sum : mg "sum" = none
  n_tuple : mg "tuple" = none
  C_Map : Addr
  C_Desk : Addr
  f_is_count : Addr
  d_is_count : FuncData
  F_is_count : Fun K "is_count" "is_count" s_is_count f_is_count d_is_count
  b_is_count : Binds K d_is_count ["thing", "low", "high"] []
  g_is_count : mg "is_count" = some (.ref f_is_count)
  f_is_name : Addr
  d_is_name : FuncData
  F_is_name : Fun K "is_name" "is_name" s_is_name f_is_name d_is_name
  b_is_name : Binds K d_is_name ["thing"] []
  g_is_name : mg "is_name" = some (.ref f_is_name)
  f_need_name : Addr
  d_need_name : FuncData
  F_need_name : Fun K "need_name" "need_name" s_need_name f_need_name d_need_name
  b_need_name : Binds K d_need_name ["thing"] []
  g_need_name : mg "need_name" = some (.ref f_need_name)
  f_need_point : Addr
  d_need_point : FuncData
  F_need_point : Fun K "need_point" "need_point" s_need_point f_need_point d_need_point
  b_need_point : Binds K d_need_point ["thing"] []
  g_need_point : mg "need_point" = some (.ref f_need_point)
  f_need_size : Addr
  d_need_size : FuncData
  F_need_size : Fun K "need_size" "need_size" s_need_size f_need_size d_need_size
  b_need_size : Binds K d_need_size ["thing"] []
  g_need_size : mg "need_size" = some (.ref f_need_size)
  f_reach : Addr
  d_reach : FuncData
  F_reach : Fun K "reach" "reach" s_reach f_reach d_reach
  b_reach : Binds K d_reach ["size"] []
  g_reach : mg "reach" = some (.ref f_reach)
  f_apart : Addr
  d_apart : FuncData
  F_apart : Fun K "apart" "apart" s_apart f_apart d_apart
  b_apart : Binds K d_apart ["one", "other"] []
  g_apart : mg "apart" = some (.ref f_apart)
  f_heaps_of : Addr
  d_heaps_of : FuncData
  F_heaps_of : Fun K "heaps_of" "heaps_of" s_heaps_of f_heaps_of d_heaps_of
  b_heaps_of : Binds K d_heaps_of ["points", "size"] []
  g_heaps_of : mg "heaps_of" = some (.ref f_heaps_of)
  f_Map___init__ : Addr
  d_Map___init__ : FuncData
  F_Map___init__ : Fun K "__init__" "Map.__init__" s_Map___init__ f_Map___init__ d_Map___init__
  b_Map___init__ : Binds K d_Map___init__ ["self"] []
  f_Map_marks : Addr
  d_Map_marks : FuncData
  F_Map_marks : Fun K "marks" "Map.marks" s_Map_marks f_Map_marks d_Map_marks
  b_Map_marks : Binds K d_Map_marks ["self"] []
  q_Map_marks : Meth K C_Map "marks" f_Map_marks
  f_Map_point : Addr
  d_Map_point : FuncData
  F_Map_point : Fun K "point" "Map.point" s_Map_point f_Map_point d_Map_point
  b_Map_point : Binds K d_Map_point ["self", "name"] []
  q_Map_point : Meth K C_Map "point" f_Map_point
  f_Map_put : Addr
  d_Map_put : FuncData
  F_Map_put : Fun K "put" "Map.put" s_Map_put f_Map_put d_Map_put
  b_Map_put : Binds K d_Map_put ["self", "name", "point"] []
  q_Map_put : Meth K C_Map "put" f_Map_put
  f_Map_join : Addr
  d_Map_join : FuncData
  F_Map_join : Fun K "join" "Map.join" s_Map_join f_Map_join d_Map_join
  b_Map_join : Binds K d_Map_join ["self", "name", "size"] []
  q_Map_join : Meth K C_Map "join" f_Map_join
  f_Map_drop : Addr
  d_Map_drop : FuncData
  F_Map_drop : Fun K "drop" "Map.drop" s_Map_drop f_Map_drop d_Map_drop
  b_Map_drop : Binds K d_Map_drop ["self", "name"] []
  q_Map_drop : Meth K C_Map "drop" f_Map_drop
  f_Map_move : Addr
  d_Map_move : FuncData
  F_Map_move : Fun K "move" "Map.move" s_Map_move f_Map_move d_Map_move
  b_Map_move : Binds K d_Map_move ["self", "name", "point"] []
  q_Map_move : Meth K C_Map "move" f_Map_move
  f_Map_names_at : Addr
  d_Map_names_at : FuncData
  F_Map_names_at : Fun K "names_at" "Map.names_at" s_Map_names_at f_Map_names_at d_Map_names_at
  b_Map_names_at : Binds K d_Map_names_at ["self", "head", "size"] []
  q_Map_names_at : Meth K C_Map "names_at" f_Map_names_at
  f_Map_heap_of : Addr
  d_Map_heap_of : FuncData
  F_Map_heap_of : Fun K "heap_of" "Map.heap_of" s_Map_heap_of f_Map_heap_of d_Map_heap_of
  b_Map_heap_of : Binds K d_Map_heap_of ["self", "name", "size"] []
  q_Map_heap_of : Meth K C_Map "heap_of" f_Map_heap_of
  f_Map_names : Addr
  d_Map_names : FuncData
  F_Map_names : Fun K "names" "Map.names" s_Map_names f_Map_names d_Map_names
  b_Map_names : Binds K d_Map_names ["self", "head", "size"] []
  q_Map_names : Meth K C_Map "names" f_Map_names
  f_need_box : Addr
  d_need_box : FuncData
  F_need_box : Fun K "need_box" "need_box" s_need_box f_need_box d_need_box
  b_need_box : Binds K d_need_box ["box"] []
  g_need_box : mg "need_box" = some (.ref f_need_box)
  f_is_in : Addr
  d_is_in : FuncData
  F_is_in : Fun K "is_in" "is_in" s_is_in f_is_in d_is_in
  b_is_in : Binds K d_is_in ["point", "box"] []
  g_is_in : mg "is_in" = some (.ref f_is_in)
  f_Desk___init__ : Addr
  d_Desk___init__ : FuncData
  F_Desk___init__ : Fun K "__init__" "Desk.__init__" s_Desk___init__ f_Desk___init__ d_Desk___init__
  b_Desk___init__ : Binds K d_Desk___init__ ["self"] []
  f_Desk_stand : Addr
  d_Desk_stand : FuncData
  F_Desk_stand : Fun K "stand" "Desk.stand" s_Desk_stand f_Desk_stand d_Desk_stand
  b_Desk_stand : Binds K d_Desk_stand ["self"] []
  q_Desk_stand : Meth K C_Desk "stand" f_Desk_stand
  f_Desk_to : Addr
  d_Desk_to : FuncData
  F_Desk_to : Fun K "to" "Desk.to" s_Desk_to f_Desk_to d_Desk_to
  b_Desk_to : Binds K d_Desk_to ["self", "stand"] []
  q_Desk_to : Meth K C_Desk "to" f_Desk_to
  f_Desk_keep : Addr
  d_Desk_keep : FuncData
  F_Desk_keep : Fun K "keep" "Desk.keep" s_Desk_keep f_Desk_keep d_Desk_keep
  b_Desk_keep : Binds K d_Desk_keep ["self", "stand"] []
  q_Desk_keep : Meth K C_Desk "keep" f_Desk_keep
  f_Desk_put : Addr
  d_Desk_put : FuncData
  F_Desk_put : Fun K "put" "Desk.put" s_Desk_put f_Desk_put d_Desk_put
  b_Desk_put : Binds K d_Desk_put ["self", "name", "point"] []
  q_Desk_put : Meth K C_Desk "put" f_Desk_put
  f_Desk_drop : Addr
  d_Desk_drop : FuncData
  F_Desk_drop : Fun K "drop" "Desk.drop" s_Desk_drop f_Desk_drop d_Desk_drop
  b_Desk_drop : Binds K d_Desk_drop ["self", "name"] []
  q_Desk_drop : Meth K C_Desk "drop" f_Desk_drop
  f_Desk_move : Addr
  d_Desk_move : FuncData
  F_Desk_move : Fun K "move" "Desk.move" s_Desk_move f_Desk_move d_Desk_move
  b_Desk_move : Binds K d_Desk_move ["self", "name", "point"] []
  q_Desk_move : Meth K C_Desk "move" f_Desk_move
  f_Desk_tag : Addr
  d_Desk_tag : FuncData
  F_Desk_tag : Fun K "tag" "Desk.tag" s_Desk_tag f_Desk_tag d_Desk_tag
  b_Desk_tag : Binds K d_Desk_tag ["self", "name", "word"] []
  q_Desk_tag : Meth K C_Desk "tag" f_Desk_tag
  f_Desk_untag : Addr
  d_Desk_untag : FuncData
  F_Desk_untag : Fun K "untag" "Desk.untag" s_Desk_untag f_Desk_untag d_Desk_untag
  b_Desk_untag : Binds K d_Desk_untag ["self", "name", "word"] []
  q_Desk_untag : Meth K C_Desk "untag" f_Desk_untag
  f_Desk_undo : Addr
  d_Desk_undo : FuncData
  F_Desk_undo : Fun K "undo" "Desk.undo" s_Desk_undo f_Desk_undo d_Desk_undo
  b_Desk_undo : Binds K d_Desk_undo ["self"] []
  q_Desk_undo : Meth K C_Desk "undo" f_Desk_undo
  f_Desk_redo : Addr
  d_Desk_redo : FuncData
  F_Desk_redo : Fun K "redo" "Desk.redo" s_Desk_redo f_Desk_redo d_Desk_redo
  b_Desk_redo : Binds K d_Desk_redo ["self"] []
  q_Desk_redo : Meth K C_Desk "redo" f_Desk_redo
  f_Desk_chart : Addr
  d_Desk_chart : FuncData
  F_Desk_chart : Fun K "chart" "Desk.chart" s_Desk_chart f_Desk_chart d_Desk_chart
  b_Desk_chart : Binds K d_Desk_chart ["self"] []
  q_Desk_chart : Meth K C_Desk "chart" f_Desk_chart
  f_Desk_tags : Addr
  d_Desk_tags : FuncData
  F_Desk_tags : Fun K "tags" "Desk.tags" s_Desk_tags f_Desk_tags d_Desk_tags
  b_Desk_tags : Binds K d_Desk_tags ["self", "name"] []
  q_Desk_tags : Meth K C_Desk "tags" f_Desk_tags
  f_Desk_tagged : Addr
  d_Desk_tagged : FuncData
  F_Desk_tagged : Fun K "tagged" "Desk.tagged" s_Desk_tagged f_Desk_tagged d_Desk_tagged
  b_Desk_tagged : Binds K d_Desk_tagged ["self", "word"] []
  q_Desk_tagged : Meth K C_Desk "tagged" f_Desk_tagged
  f_Desk_sought : Addr
  d_Desk_sought : FuncData
  F_Desk_sought : Fun K "sought" "Desk.sought" s_Desk_sought f_Desk_sought d_Desk_sought
  b_Desk_sought : Binds K d_Desk_sought ["self", "box", "size", "word"] []
  q_Desk_sought : Meth K C_Desk "sought" f_Desk_sought
  f_Desk_told_of : Addr
  d_Desk_told_of : FuncData
  F_Desk_told_of : Fun K "told_of" "Desk.told_of" s_Desk_told_of f_Desk_told_of d_Desk_told_of
  b_Desk_told_of : Binds K d_Desk_told_of ["self", "head", "size"] []
  q_Desk_told_of : Meth K C_Desk "told_of" f_Desk_told_of
  f_law_cell : Addr
  d_law_cell : FuncData
  F_law_cell : Fun K "_law_cell" "_law_cell" s_law_cell f_law_cell d_law_cell
  b_law_cell : Binds K d_law_cell ["script", "k"] []
  g_law_cell : mg "_law_cell" = some (.ref f_law_cell)
  f_law_drawn : Addr
  d_law_drawn : FuncData
  F_law_drawn : Fun K "_law_drawn" "_law_drawn" s_law_drawn f_law_drawn d_law_drawn
  b_law_drawn : Binds K d_law_drawn ["cell", "k"] []
  g_law_drawn : mg "_law_drawn" = some (.ref f_law_drawn)
  f_law_word : Addr
  d_law_word : FuncData
  F_law_word : Fun K "_law_word" "_law_word" s_law_word f_law_word d_law_word
  b_law_word : Binds K d_law_word ["e"] []
  g_law_word : mg "_law_word" = some (.ref f_law_word)
  f_law_told : Addr
  d_law_told : FuncData
  F_law_told : Fun K "_law_told" "_law_told" s_law_told f_law_told d_law_told
  b_law_told : Binds K d_law_told ["deed"] []
  g_law_told : mg "_law_told" = some (.ref f_law_told)
  f_law_point : Addr
  d_law_point : FuncData
  F_law_point : Fun K "_law_point" "_law_point" s_law_point f_law_point d_law_point
  b_law_point : Binds K d_law_point ["more"] []
  g_law_point : mg "_law_point" = some (.ref f_law_point)
  f_law_name : Addr
  d_law_name : FuncData
  F_law_name : Fun K "_law_name" "_law_name" s_law_name f_law_name d_law_name
  b_law_name : Binds K d_law_name ["j"] []
  g_law_name : mg "_law_name" = some (.ref f_law_name)
  f_law_stand : Addr
  d_law_stand : FuncData
  F_law_stand : Fun K "_law_stand" "_law_stand" s_law_stand f_law_stand d_law_stand
  b_law_stand : Binds K d_law_stand ["desk"] []
  g_law_stand : mg "_law_stand" = some (.ref f_law_stand)
  f_law_any : Addr
  d_law_any : FuncData
  F_law_any : Fun K "_law_any" "_law_any" s_law_any f_law_any d_law_any
  b_law_any : Binds K d_law_any ["desk", "here"] []
  co_law_any : Addr
  tb_law_any : Addr
  D_law_any : FunC K "_law_any" "_law_any" s_law_any f_law_any d_law_any co_law_any
  g_law_any : mg "_law_any" = some (.ref f_law_any)
  f_law_refusals : Addr
  d_law_refusals : FuncData
  F_law_refusals : Fun K "_law_refusals" "_law_refusals" s_law_refusals f_law_refusals d_law_refusals
  b_law_refusals : Binds K d_law_refusals ["desk"] []
  co_law_refusals : Addr
  tb_law_refusals : Addr
  D_law_refusals : FunC K "_law_refusals" "_law_refusals" s_law_refusals f_law_refusals d_law_refusals co_law_refusals
  g_law_refusals : mg "_law_refusals" = some (.ref f_law_refusals)
  f_law : Addr
  d_law : FuncData
  F_law : Fun K "law" "law" s_law f_law d_law
  b_law : Binds K d_law ["script"] []
  co_law : Addr
  tb_law : Addr
  D_law : FunC K "law" "law" s_law f_law d_law co_law
  g_law : mg "law" = some (.ref f_law)
  c_Map : Cls K C_Map
  g_Map : mg "Map" = some (.ref C_Map)
  m_Map : Mk K C_Map f_Map___init__
  nA_Map_points : NoAttr K C_Map "points"
  nA_Map_heads : NoAttr K C_Map "heads"
  c_Desk : Cls K C_Desk
  g_Desk : mg "Desk" = some (.ref C_Desk)
  m_Desk : Mk K C_Desk f_Desk___init__
  nA_Desk_here : NoAttr K C_Desk "here"
  nA_Desk_tags_of : NoAttr K C_Desk "tags_of"
  nA_Desk_past : NoAttr K C_Desk "past"
  nA_Desk_ahead : NoAttr K C_Desk "ahead"
  tbne_law_any_law_refusals : tb_law_any ≠ tb_law_refusals
  tbne_law_any_law : tb_law_any ≠ tb_law
  tbne_law_refusals_law_any : tb_law_refusals ≠ tb_law_any
  tbne_law_refusals_law : tb_law_refusals ≠ tb_law
  tbne_law_law_any : tb_law ≠ tb_law_any
  tbne_law_law_refusals : tb_law ≠ tb_law_refusals
section
variable {K : PySem.W.Frag} {mg : Str → Option Value}
def TL (T : Tx K mg) : List (Addr × Str) := [(T.tb_law_any, ("_law_any" : Str) ++ ".<locals>." ++ "<lambda>"), (T.tb_law_refusals, ("_law_refusals" : Str) ++ ".<locals>." ++ "<lambda>"), (T.tb_law, ("law" : Str) ++ ".<locals>." ++ "<lambda>")]
abbrev TBs (T : Tx K mg) (base : Heap) : Prop := LamX.TabB base mg T.co_law_any T.tb_law_any ∧ LamX.TabB base mg T.co_law_refusals T.tb_law_refusals ∧ LamX.TabB base mg T.co_law T.tb_law
theorem tl_m_law_any (T : Tx K mg) : (T.tb_law_any, ("_law_any" : Str) ++ ".<locals>." ++ "<lambda>") ∈ TL T := by simp [TL]
theorem tl_u_law_any (T : Tx K mg) : ∀ p ∈ TL T, p.1 = T.tb_law_any → p.2 = ("_law_any" : Str) ++ ".<locals>." ++ "<lambda>" := fun p hp e => by
  unfold TL at hp
  simp only [List.mem_cons, List.not_mem_nil, or_false] at hp
  rcases hp with rfl | rfl | rfl
  · rfl
  · exact absurd e T.tbne_law_refusals_law_any
  · exact absurd e T.tbne_law_law_any
theorem tl_m_law_refusals (T : Tx K mg) : (T.tb_law_refusals, ("_law_refusals" : Str) ++ ".<locals>." ++ "<lambda>") ∈ TL T := by simp [TL]
theorem tl_u_law_refusals (T : Tx K mg) : ∀ p ∈ TL T, p.1 = T.tb_law_refusals → p.2 = ("_law_refusals" : Str) ++ ".<locals>." ++ "<lambda>" := fun p hp e => by
  unfold TL at hp
  simp only [List.mem_cons, List.not_mem_nil, or_false] at hp
  rcases hp with rfl | rfl | rfl
  · exact absurd e T.tbne_law_any_law_refusals
  · rfl
  · exact absurd e T.tbne_law_law_refusals
theorem tl_m_law (T : Tx K mg) : (T.tb_law, ("law" : Str) ++ ".<locals>." ++ "<lambda>") ∈ TL T := by simp [TL]
theorem tl_u_law (T : Tx K mg) : ∀ p ∈ TL T, p.1 = T.tb_law → p.2 = ("law" : Str) ++ ".<locals>." ++ "<lambda>" := fun p hp e => by
  unfold TL at hp
  simp only [List.mem_cons, List.not_mem_nil, or_false] at hp
  rcases hp with rfl | rfl | rfl
  · exact absurd e T.tbne_law_any_law
  · exact absurd e T.tbne_law_refusals_law
  · rfl
end
section
variable {P : Program} {w : World} {K : PySem.W.Frag} {mg : Str → Option Value} {base : Heap}
def sp_is_count : Sp := fun vs H Q _ => ∃ (v : V) (lo hi : Int), vs = [v, .int lo, .int hi] ∧ Dat H v ∧ Q (.bl (isCount lo hi v)) H
theorem ok_is_count (T : Tx K mg) : FnOk P w K mg base CX0 1 T.f_is_count T.d_is_count ["thing", "low", "high"] (sp_is_count) := by
  refine T.F_is_count.ok sc_is_count (fun vs H Q E h => ?_) (fun cdv A outer s H vs Q E hr h => ?_)
  · obtain ⟨v, lo, hi, rfl, _⟩ := h
    rfl
  · obtain ⟨v, lo, hi, rfl, d, q⟩ := h
    refine ⟨_, (pss_one (ps_ret (pe_and (pe_callB call_isi (by rfl) T.n_isinstance (by decide +kernel) (pa_cons (pv 0) (pa_cons (pe_bltn (v := .ty "int") (by rfl) T.n_int (by decide +kernel) rfl) pa_nil))) (pe_and (pe_not (pe_callB call_isi (by rfl) T.n_isinstance (by decide +kernel) (pa_cons (pv 0) (pa_cons (pe_bltn (v := .ty "bool") (by rfl) T.n_bool (by decide +kernel) rfl) pa_nil)))) (pe_one (pe_chain op_le op_le (pv 1) (pv 0) (pv 2))))))), ?_⟩
    rcases tyN_cases d with ⟨e, t⟩ | ⟨b, e, t⟩ | ⟨i, e, t⟩ | ⟨x, e, t⟩ | ⟨a, xs, e, e2, t⟩ | ⟨a, xs, e, e2, t⟩
    · subst e
      exact ⟨_, rfl, _, _, _, _, false, rfl, .ty _, d.ty, kit_ty (by rw [t]; decide +kernel), _, rfl, iteF q⟩
    · subst e
      exact ⟨_, rfl, _, _, _, _, true, rfl, .ty _, d.ty, kit_ty (by rw [t]; decide +kernel), _, rfl, iteT ⟨_, rfl, _, _, _, _, true, rfl, .ty _, d.ty, kit_ty (by rw [t]; decide +kernel), _, rfl, _, rfl, iteF q⟩⟩
    · subst e
      refine ⟨_, rfl, _, _, _, _, true, rfl, .ty _, d.ty, kit_ty (by rw [t]; decide +kernel), _, rfl, iteT ⟨_, rfl, _, _, _, _, false, rfl, .ty _, d.ty, kit_ty (by rw [t]; decide +kernel), _, rfl, _, rfl, iteT ?_⟩⟩
      refine ⟨_, rfl, _, rfl, _, _, rfl, rfl, _, rfl, ?_⟩
      by_cases c : lo ≤ i
      · rw [decide_eq_true c]
        refine iteT ⟨_, rfl, _, _, rfl, rfl, ?_⟩
        simp only [isCount, decide_eq_true c, Bool.true_and] at q
        exact q
      · rw [decide_eq_false c]
        refine iteF ?_
        simp only [isCount, decide_eq_false c, Bool.false_and] at q
        exact q
    · subst e
      exact ⟨_, rfl, _, _, _, _, false, rfl, .ty _, d.ty, kit_ty (by rw [t]; decide +kernel), _, rfl, iteF q⟩
    · subst e
      exact ⟨_, rfl, _, _, _, _, false, rfl, .ty _, d.ty, kit_ty (by rw [t]; decide +kernel), _, rfl, iteF q⟩
    · subst e
      exact ⟨_, rfl, _, _, _, _, false, rfl, .ty _, d.ty, kit_ty (by rw [t]; decide +kernel), _, rfl, iteF q⟩

def sp_is_name : Sp := fun vs H Q _ => ∃ (v : V), vs = [v] ∧ Dat H v ∧ (∀ x, v = .str x → x.length ≤ 1000) ∧ ∀ H', Same H H' → Q (.bl (isName v)) H'
theorem ok_is_name (T : Tx K mg) : FnOk P w K mg base CX0 1 T.f_is_name T.d_is_name ["thing"] (sp_is_name) := by
  refine T.F_is_name.ok sc_is_name (fun vs H Q E h => ?_) (fun cdv A outer s H vs Q E hr h => ?_)
  · obtain ⟨v, rfl, _⟩ := h
    rfl
  · obtain ⟨v, rfl, d, hl, q⟩ := h
    refine ⟨_, (pss_one (ps_ret (pe_and (pe_callB call_isi (by rfl) T.n_isinstance (by decide +kernel) (pa_cons (pv 0) (pa_cons (pe_bltn (v := .ty "str") (by rfl) T.n_str (by decide +kernel) rfl) pa_nil))) (pe_and (pe_chain op_le op_le pe_int (pe_callB call_len_str (by rfl) T.n_len (by decide +kernel) (pa_cons (pv 0) pa_nil)) (pe_glob (v := .int 6) (by rfl) T.g_MOST_WORD ⟨_, rfl⟩)) (pe_one (pe_callB (cr_all rfl) (by rfl) T.n_all (by decide +kernel) (pa_cons (pe_lc (own := [("sign", 1)]) (g := gName 1) (tt := tYes) (by rfl) sc_is_name.nd (pi_str (pv 0)) (blkOk_by (own := [("sign", 1)]) (N := ["thing", "sign"]) (sc := defScope s_is_name) (by decide +kernel)) (fun _ _ _ _ _ => (pg_name (i := 1) sc_is_name.nd rfl (Or.inl rfl))) (fun _ _ _ _ _ => pts_nil) (fun _ _ _ _ _ => (pe_cmpR op_in_sign (pv 1) (pe_glob (v := .str "abcdefghijklmnopqrstuvwxyz") (by rfl) T.g_SMALL ⟨_, rfl⟩) (by rfl)))) pa_nil))))))), ?_⟩
    rcases tyN_cases d with ⟨e, t⟩ | ⟨b, e, t⟩ | ⟨i, e, t⟩ | ⟨x, e, t⟩ | ⟨a, xs, e, e2, t⟩ | ⟨a, xs, e, e2, t⟩
    · subst e
      exact ⟨_, rfl, _, _, _, _, false, rfl, .ty _, d.ty, kit_ty (by rw [t]; decide +kernel), _, rfl, iteF (q H (Same.refl H))⟩
    · subst e
      exact ⟨_, rfl, _, _, _, _, false, rfl, .ty _, d.ty, kit_ty (by rw [t]; decide +kernel), _, rfl, iteF (q H (Same.refl H))⟩
    · subst e
      exact ⟨_, rfl, _, _, _, _, false, rfl, .ty _, d.ty, kit_ty (by rw [t]; decide +kernel), _, rfl, iteF (q H (Same.refl H))⟩
    · subst e
      have hl := hl x rfl
      refine ⟨_, rfl, _, _, _, _, true, rfl, .ty _, d.ty, kit_ty (by rw [t]; decide +kernel), _, rfl, iteT ?_⟩
      refine ⟨_, rfl, x, rfl, Nat.le_of_lt (small1000 hl), _, _, rfl, rfl, _, rfl, ?_⟩
      have es : x.length = x.cps.size := rfl
      by_cases c1 : (1 : Int) ≤ x.length
      · rw [decide_eq_true c1]
        refine iteT ⟨_, _, rfl, rfl, _, rfl, ?_⟩
        by_cases c2 : (x.length : Int) ≤ 6
        · rw [decide_eq_true c2]
          refine iteT ⟨_, rfl, x, rfl, lc_map enum_str (fun v => .bl (match v with | .str y => decide (y.cps.getD 0 0 ∈ smallS.cps.toList) | _ => false)) (fun _ _ _ _ => trivial) (by rw [signsV_len, ← es]; exact small1000 hl) ?_ ?_⟩
          · intro i v H' Cy ev sm h1
            obtain ⟨c, rfl⟩ : ∃ c, v = .str ⟨#[c]⟩ := by
              rw [signsV, List.getElem?_map] at ev
              cases e : x.cps.toList[i]? with
              | none => rw [e] at ev; cases ev
              | some c => rw [e] at ev; exact ⟨c, (Option.some.inj ev).symm⟩
            exact ⟨_, rfl, c, smallS, rfl, rfl, h1 H' (Same.refl _)⟩
          · intro D H' nD sm hD
            refine ⟨D, x.cps.toList.map (fun c => decide (c ∈ smallS.cps.toList)), rfl, ?_, ?_⟩
            · have e1 : (signsV x).map (fun v => V.bl (match v with | .str y => decide (y.cps.getD 0 0 ∈ smallS.cps.toList) | _ => false)) = (x.cps.toList.map (fun c => decide (c ∈ smallS.cps.toList))).map V.bl := by
                rw [signsV, List.map_map, List.map_map]
                rfl
              rw [e1] at hD
              exact sqL hD
            · have e2 : (x.cps.toList.map (fun c => decide (c ∈ smallS.cps.toList))).all id = isName (.str x) := by
                have h1 : decide (1 ≤ x.cps.size) = true := decide_eq_true (by rw [← es]; omega)
                have h2 : decide (x.cps.size ≤ 6) = true := decide_eq_true (by rw [← es]; omega)
                simp only [isName, nameS, h1, h2, Bool.true_and, List.all_map]
                rfl
              rw [e2]
              exact q H' sm
        · rw [decide_eq_false c2]
          have e3 : isName (.str x) = false := by
            have h2 : decide (x.cps.size ≤ 6) = false := decide_eq_false (by rw [← es]; omega)
            simp [isName, nameS, h2]
          rw [e3] at q
          exact iteF (q H (Same.refl H))
      · rw [decide_eq_false c1]
        have e3 : isName (.str x) = false := by
          have h2 : decide (1 ≤ x.cps.size) = false := decide_eq_false (by rw [← es]; omega)
          simp [isName, nameS, h2]
        rw [e3] at q
        exact iteF ⟨_, rfl, iteF (q H (Same.refl H))⟩
    · subst e
      exact ⟨_, rfl, _, _, _, _, false, rfl, .ty _, d.ty, kit_ty (by rw [t]; decide +kernel), _, rfl, iteF (q H (Same.refl H))⟩
    · subst e
      exact ⟨_, rfl, _, _, _, _, false, rfl, .ty _, d.ty, kit_ty (by rw [t]; decide +kernel), _, rfl, iteF (q H (Same.refl H))⟩

def sp_need_name (C : Addr) : Sp := fun vs H Q E => ∃ (v : V), vs = [v] ∧ Dat H v ∧ (∀ x, v = .str x → x.length ≤ 1000) ∧ ((isName v = true ∧ ∀ H', Same H H' → Q .non H') ∨ (isName v = false ∧ ∀ H', Same H H' → E (.ref C) none H'))
theorem ok_need_name (T : Tx K mg) : FnOk P w K mg base (L2N.CX P w) 2 T.f_need_name T.d_need_name ["thing"] (sp_need_name T.C_BadName) := by
  refine okN T.F_need_name sc_need_name (fun vs H Q E h => ?_) (fun cdv A outer s H vs Q E hr h => ?_)
  · obtain ⟨v, rfl, _⟩ := h
    rfl
  · obtain ⟨v, rfl, d, hl, k⟩ := h
    refine ⟨_, (pss_one (ps_if (pt_not (pt_val (pe_call (ok_is_name T) (hr.mono (by decide)) (by rfl) T.g_is_name T.F_is_name.kp T.b_is_name .nil pass0 (pa_cons (pv 0) pa_nil)))) (pss_one (L2N.ps_raise rfl (L2N.takes_of rfl rfl rfl rfl) (L2N.pmk_own PySem.F.excBase_ValueError T.x_BadName T.g_BadName T.k_BadName (raises_own T.e_BadName T.t_BadName) (by rfl)))) pss_nil)), ?_⟩
    refine ⟨_, rfl, v, rfl, d, hl, fun H' sm => ⟨_, rfl, ?_⟩⟩
    rcases k with ⟨e, k⟩ | ⟨e, k⟩
    · rw [e]
      exact iteF (k H' sm)
    · rw [e]
      exact iteT (k H' sm)

def sp_need_point (C : Addr) : Sp := fun vs H Q E => ∃ (v : V), vs = [v] ∧ Dat H v ∧ (∀ xs, tupOf H v = some xs → xs.length ≤ 1000 ∧ ∀ x ∈ xs, Dat H x) ∧ ((isPoint H v = true ∧ ∀ H', Same H H' → Q .non H') ∨ (isPoint H v = false ∧ ∀ H', Same H H' → E (.ref C) none H'))
theorem ok_need_point (T : Tx K mg) : FnOk P w K mg base (L2N.CX P w) 2 T.f_need_point T.d_need_point ["thing"] (sp_need_point T.C_BadPoint) := by
  refine okN T.F_need_point sc_need_point (fun vs H Q E h => ?_) (fun cdv A outer s H vs Q E hr h => ?_)
  · obtain ⟨v, rfl, _⟩ := h
    rfl
  · obtain ⟨v, rfl, d, hx, k⟩ := h
    have k1 : isPoint H v = true → ∀ H', Same H H' → Q .non H' := fun e => k.elim (fun z => z.2) (fun z => by rw [e] at z; cases z.1)
    have k2 : isPoint H v = false → ∀ H', Same H H' → E (.ref T.C_BadPoint) none H' := fun e => k.elim (fun z => by rw [e] at z; cases z.1) (fun z => z.2)
    refine ⟨_, (pss_one (ps_if (PW.pt (pw_or (pt_not (pt_val (pe_callB call_isi (by rfl) T.n_isinstance (by decide +kernel) (pa_cons (pv 0) (pa_cons (pe_bltn (v := .ty "tuple") (by rfl) T.n_tuple (by decide +kernel) rfl) pa_nil))))) (pw_or (pt_cmpR op_ne (pe_callB call_len_seq (by rfl) T.n_len (by decide +kernel) (pa_cons (pv 0) pa_nil)) pe_int (nomark _)) (pw_or1 (pt_not (pt_val (pe_callB (cr_all rfl) (by rfl) T.n_all (by decide +kernel) (pa_cons (pe_lc (own := [("one", 1)]) (g := gName 1) (tt := tYes) (by rfl) sc_need_point.nd (pi_tup (pv 0)) (blkOk_by (own := [("one", 1)]) (N := ["thing", "one"]) (sc := defScope s_need_point) (by decide +kernel)) (fun _ _ _ _ _ => (pg_name (i := 1) sc_need_point.nd rfl (Or.inl rfl))) (fun _ _ _ _ _ => pts_nil) (fun _ _ _ _ _ => (pe_call (ok_is_count T) (hr.mono (by decide)) (by rfl) T.g_is_count T.F_is_count.kp T.b_is_count .nil pass0 (pa_cons (pv 1) (pa_cons pe_int (pa_cons (pe_glob (v := .int 4095) (by rfl) T.g_MOST_SIDE ⟨_, rfl⟩) pa_nil)))))) pa_nil)))))))) (pss_one (L2N.ps_raise rfl (L2N.takes_of rfl rfl rfl rfl) (L2N.pmk_own PySem.F.excBase_ValueError T.x_BadPoint T.g_BadPoint T.k_BadPoint (raises_own T.e_BadPoint T.t_BadPoint) (by rfl)))) pss_nil)), ?_⟩
    have no : tupOf H v = none → isPoint H v = false := fun e => by unfold isPoint; rw [e]
    rcases tyN_cases d with ⟨e, t⟩ | ⟨b, e, t⟩ | ⟨i, e, t⟩ | ⟨x, e, t⟩ | ⟨a, xs, e, e2, t⟩ | ⟨a, xs, e, e2, t⟩
    · subst e
      exact ⟨_, rfl, _, _, _, _, false, rfl, .ty _, d.ty, kit_ty (by rw [t]; decide +kernel), _, rfl, iteT (iteT (k2 (no rfl) H (Same.refl H)))⟩
    · subst e
      exact ⟨_, rfl, _, _, _, _, false, rfl, .ty _, d.ty, kit_ty (by rw [t]; decide +kernel), _, rfl, iteT (iteT (k2 (no rfl) H (Same.refl H)))⟩
    · subst e
      exact ⟨_, rfl, _, _, _, _, false, rfl, .ty _, d.ty, kit_ty (by rw [t]; decide +kernel), _, rfl, iteT (iteT (k2 (no rfl) H (Same.refl H)))⟩
    · subst e
      exact ⟨_, rfl, _, _, _, _, false, rfl, .ty _, d.ty, kit_ty (by rw [t]; decide +kernel), _, rfl, iteT (iteT (k2 (no rfl) H (Same.refl H)))⟩
    · subst e
      have et := tupOf_ref e2
      obtain ⟨hl, hd⟩ := hx xs et
      refine ⟨_, rfl, _, _, _, _, true, rfl, .ty _, d.ty, kit_ty (by rw [t]; decide +kernel), _, rfl, iteF ?_⟩
      refine ⟨_, rfl, a, xs, rfl, .inr (sqT e2), rfl, _, rfl, ?_⟩
      by_cases c : xs.length = 2
      · have ec : decide (V.int (xs.length : Nat) = V.int 2) = true := decide_eq_true (by rw [c]; rfl)
        rw [ec]
        refine iteF ⟨_, rfl, a, rfl, ⟨xs, sqT e2⟩, lc_map (enum_tup (xs := xs)) (fun v => .bl (isCount 0 4095 v)) (fun D H' nD s => sqT (s _ _ (ne_of_none e2 nD) e2)) (small1000 hl) ?_ ?_⟩
        · intro i v H' Cy ev sm h1
          exact ⟨_, rfl, v, 0, 4095, rfl, (hd v (List.mem_of_getElem? ev)).same sm, h1 H' (Same.refl _)⟩
        · intro D H' nD sm hD
          refine ⟨D, xs.map (isCount 0 4095), rfl, sqL (by rw [List.map_map]; exact hD), _, rfl, ?_⟩
          have e3 : isPoint H (.ref a) = (xs.map (isCount 0 4095)).all id := by
            unfold isPoint
            rw [et]
            simp only [decide_eq_true c, Bool.true_and, List.all_map]
            rfl
          cases e4 : (xs.map (isCount 0 4095)).all id with
          | true => exact iteF (k1 (e3.trans e4) H' sm)
          | false => exact iteT (k2 (e3.trans e4) H' sm)
      · have ec : decide (V.int (xs.length : Nat) = V.int 2) = false := decide_eq_false (fun z => c (by injection z with z; omega))
        rw [ec]
        have e3 : isPoint H (.ref a) = false := by
          unfold isPoint
          rw [et]
          simp only [decide_eq_false c, Bool.false_and]
        exact iteT (iteT (k2 e3 H (Same.refl H)))
    · subst e
      have et : tupOf H (.ref a) = none := by simp [tupOf, e2]
      exact ⟨_, rfl, _, _, _, _, false, rfl, .ty _, d.ty, kit_ty (by rw [t]; decide +kernel), _, rfl, iteT (iteT (k2 (no et) H (Same.refl H)))⟩

def sp_need_size (C : Addr) : Sp := fun vs H Q E => ∃ (v : V), vs = [v] ∧ Dat H v ∧ ((isCount 0 13 v = true ∧ Q .non H) ∨ (isCount 0 13 v = false ∧ E (.ref C) none H))
theorem ok_need_size (T : Tx K mg) : FnOk P w K mg base (L2N.CX P w) 2 T.f_need_size T.d_need_size ["thing"] (sp_need_size T.C_BadSize) := by
  refine okN T.F_need_size sc_need_size (fun vs H Q E h => ?_) (fun cdv A outer s H vs Q E hr h => ?_)
  · obtain ⟨v, rfl, _⟩ := h
    rfl
  · obtain ⟨v, rfl, d, k⟩ := h
    refine ⟨_, (pss_one (ps_if (pt_not (pt_val (pe_call (ok_is_count T) (hr.mono (by decide)) (by rfl) T.g_is_count T.F_is_count.kp T.b_is_count .nil pass0 (pa_cons (pv 0) (pa_cons pe_int (pa_cons (pe_glob (v := .int 13) (by rfl) T.g_MOST_SIZE ⟨_, rfl⟩) pa_nil)))))) (pss_one (L2N.ps_raise rfl (L2N.takes_of rfl rfl rfl rfl) (L2N.pmk_own PySem.F.excBase_ValueError T.x_BadSize T.g_BadSize T.k_BadSize (raises_own T.e_BadSize T.t_BadSize) (by rfl)))) pss_nil)), ?_⟩
    refine ⟨_, rfl, v, 0, 13, rfl, d, _, rfl, ?_⟩
    rcases k with ⟨e, k⟩ | ⟨e, k⟩
    · rw [e]
      exact iteF k
    · rw [e]
      exact iteT k

def sp_reach : Sp := fun vs H Q _ => ∃ (s : Int), vs = [.int s] ∧ 0 ≤ s ∧ s ≤ 13 ∧ Q (.int (reachI s)) H
theorem ok_reach (T : Tx K mg) : FnOk P w K mg base CX0 1 T.f_reach T.d_reach ["size"] (sp_reach) := by
  refine T.F_reach.ok sc_reach (fun vs H Q E h => ?_) (fun cdv A outer s H vs Q E hr h => ?_)
  · obtain ⟨s, rfl, _⟩ := h
    rfl
  · obtain ⟨z, rfl, h0, h1, q⟩ := h
    refine ⟨_, (pss_one (ps_ret (pe_ix ix_tup (pe_glob (v := .ref T.a_REACHES) (by rfl) T.g_REACHES rfl) (pv 0) (fun _ _ => rfl)))), ?_⟩
    have e : (reachs.map V.int)[z.toNat]? = some (.int (reachI z)) := by
      rw [List.getElem?_map, reachI, List.getD_eq_getElem?_getD, List.getElem?_eq_getElem (by show z.toNat < 14; omega)]
      rfl
    exact ⟨_, rfl, _, _, _, _, rfl, rfl, T.s_REACHES H, at_of (j := z.toNat) (by omega) e, q⟩

def sp_apart : Sp := fun vs H Q _ => ∃ (v u : V) (p q : Pt), vs = [v, u] ∧ PtAt H v p ∧ PtAt H u q ∧ Q (.int (dist p q)) H
theorem ok_apart (T : Tx K mg) : FnOk P w K mg base CX0 1 T.f_apart T.d_apart ["one", "other"] (sp_apart) := by
  refine T.F_apart.ok sc_apart (fun vs H Q E h => ?_) (fun cdv A outer s H vs Q E hr h => ?_)
  · obtain ⟨v, u, p, r, rfl, _⟩ := h
    rfl
  · obtain ⟨v, u, p, r, rfl, ⟨a, rfl, ha⟩, ⟨b, rfl, hb⟩, q⟩ := h
    refine ⟨_, (pss_one (ps_ret (pe_callB (call_max2 rfl) (by rfl) T.n_max (by decide +kernel) (pa_cons (pe_callB call_abs (by rfl) T.n_abs (by decide +kernel) (pa_cons (pe_op op_sub (pe_ix ix_tup (pv 0) pe_int (fun _ _ => rfl)) (pe_ix ix_tup (pv 1) pe_int (fun _ _ => rfl))) pa_nil)) (pa_cons (pe_callB call_abs (by rfl) T.n_abs (by decide +kernel) (pa_cons (pe_op op_sub (pe_ix ix_tup (pv 0) pe_int (fun _ _ => rfl)) (pe_ix ix_tup (pv 1) pe_int (fun _ _ => rfl))) pa_nil)) pa_nil))))), ?_⟩
    refine ⟨_, rfl, _, _, _, _, rfl, rfl, sqT ha, atI_nat (j := 0) rfl, _, rfl, _, _, _, _, rfl, rfl, sqT hb, atI_nat (j := 0) rfl, _, _, rfl, rfl, _, rfl, ?_⟩
    refine ⟨_, rfl, _, _, _, _, rfl, rfl, sqT ha, atI_nat (j := 1) rfl, _, rfl, _, _, _, _, rfl, rfl, sqT hb, atI_nat (j := 1) rfl, _, _, rfl, rfl, _, rfl, ?_⟩
    exact ⟨_, _, rfl, q⟩

def sp_heaps_of : Sp := fun vs H Q _ => ∃ (d : Addr) (s : Int) (o : HO) (M : PM), vs = [.ref d, .int s] ∧ PtsAt H d o M ∧ PMOk M ∧ 0 ≤ s ∧ s ≤ 13 ∧ ∀ p ts H', Same H H' → H p = none → H' p = some (.lst (ts.map V.ref)) → RowsAt H' ts (rowsOf (nearR M s) (namesOf M)) → Q (.ref p) H'
theorem ok_heaps_of (T : Tx K mg) : FnOk P w K mg base CX0 2 T.f_heaps_of T.d_heaps_of ["points", "size"] (sp_heaps_of) := by
  refine T.F_heaps_of.ok sc_heaps_of (fun vs H Q E h => ?_) (fun cdv A outer s H vs Q E hr h => ?_)
  · obtain ⟨d, z, o, M, rfl, _⟩ := h
    rfl
  · obtain ⟨d, z, o, M, rfl, hp, ok, z0, z1, q⟩ := h
    refine ⟨_, (pss_cons (ps_set (i := 2) sc_heaps_of.nd rfl (Or.inl rfl) (pe_callB (call_sortedD rfl) (by rfl) T.n_sorted (by decide +kernel) (pa_cons (pv 0) pa_nil)))
      (pss_cons (ps_set (i := 3) sc_heaps_of.nd rfl (Or.inl rfl) (pe_lst pa_nil))
      (pss_cons (ps_while PassesOwn.never (pt_cmpR (op_neD hr.units) (pv 2) (pe_lst pa_nil) (nomark _))
      (pss_cons (ps_par (i := 4) (j := 5) (by rfl) sc_heaps_of.nd rfl rfl (by decide) rfl rfl (pa_cons (pe_lst pa_nil) (pa_cons (pe_lst (pa_cons (pe_bm PySem.F.plainAttrs_list PySem.F.slot_list_pop PySem.F.type_list_pop mt_popAt (pv 2) (pa_cons pe_int pa_nil)) pa_nil)) pa_nil)) (by rfl))
      (pss_cons (ps_while PassesOwn.never (pt_cmpR (op_neD hr.units) (pv 5) (pe_lst pa_nil) (nomark _))
      (pss_cons (ps_set (i := 6) sc_heaps_of.nd rfl (Or.inr rfl) (pe_bm0 PySem.F.plainAttrs_list PySem.F.slot_list_pop PySem.F.type_list_pop mt_pop (pv 5) ))
      (pss_cons (ps_expr (pe_bm PySem.F.plainAttrs_list PySem.F.slot_list_append PySem.F.type_list_append mt_append (pv 4) (pa_cons (pv 6) pa_nil)))
      (pss_cons (ps_set (i := 7) sc_heaps_of.nd rfl (Or.inr rfl) (pe_lc (own := [("other", 8)]) (g := gName 8)  (by rfl) sc_heaps_of.nd (pi_list (pv 2)) (blkOk_by (own := [("other", 8)]) (N := ["points", "size", "left", "found", "row", "fresh", "name", "near", "other"]) (sc := defScope s_heaps_of) (by decide +kernel)) (fun _ _ _ _ _ => (pg_name (i := 8) sc_heaps_of.nd rfl (Or.inl rfl))) (fun _ _ _ _ _ => (pts_one (pt_cmpR op_le (pe_call (ok_apart T) (hr.mono (by decide)) (by rfl) T.g_apart T.F_apart.kp T.b_apart .nil pass0 (pa_cons (pe_dget (hu_of hr) (pv 0) (pv 6) (fun _ _ => rfl)) (pa_cons (pe_dget (hu_of hr) (pv 0) (pv 8) (fun _ _ => rfl)) pa_nil))) (pe_call (ok_reach T) (hr.mono (by decide)) (by rfl) T.g_reach T.F_reach.kp T.b_reach .nil pass0 (pa_cons (pv 1) pa_nil)) (nomark _)))) (fun _ _ _ _ _ => (pv 8))))
      (pss_cons (ps_setLc (i := 2) (own := [("other", 8)]) (g := gName 8)  (by rfl) sc_heaps_of.nd rfl rfl (sw_true rfl rfl rfl (by decide +kernel)) (pi_list (pv 2)) (blkOk_by (own := [("other", 8)]) (N := ["points", "size", "left", "found", "row", "fresh", "name", "near", "other"]) (sc := defScope s_heaps_of) (by decide +kernel)) (fun _ _ _ _ _ => (pg_name (i := 8) sc_heaps_of.nd rfl (Or.inl rfl))) (fun _ _ _ _ _ => (pts_one (pt_cmpR (op_notIn_seqK (K := K) rfl) (pv 8) (pv 7) (by rfl)))) (fun _ _ _ _ _ => (pv 8)))
      (pss_one (ps_expr (pe_bm PySem.F.plainAttrs_list PySem.F.slot_list_extend PySem.F.type_list_extend mt_extend (pv 5) (pa_cons (pv 7) pa_nil)))))))))
      (pss_one (ps_expr (pe_bm PySem.F.plainAttrs_list PySem.F.slot_list_append PySem.F.type_list_append mt_append (pv 3) (pa_cons (pe_callTy call_tuple_of (by rfl) T.n_tuple (by decide +kernel) (pa_cons (pe_callB cr_sortedS (by rfl) T.n_sorted (by decide +kernel) (pa_cons (pv 4) pa_nil)) pa_nil)) pa_nil)))))))
      (pss_one (ps_ret (pe_callB cr_sortedK (by rfl) T.n_sorted (by decide +kernel) (pa_cons (pv 3) pa_nil))))))), ?_⟩
    have hR := nearR_symm M z
    have nd := ok.nodup
    obtain ⟨hd0, kvs, lk, kv⟩ := id hp
    -- left = sorted(points); found = []
    refine ⟨_, rfl, d, kvs, namesOf M, rfl, lk.rd hd0, kv.keys, by have := ok.lenN; omega, fun ys l pm so nl => ?_⟩
    have eys := sortedS_eq so pm
    subst eys
    refine ⟨Nat.zero_le _, fun f nf => ?_⟩
    have s1 := same_upd (o := .lst ((sortS (namesOf M)).map V.str)) nl
    have s2 := s1.trans (same_upd (o := .lst []) nf)
    have nf0 : H f = none := s1.free nf
    have hl2 : (upd (upd H l (.lst ((sortS (namesOf M)).map V.str))) f (.lst [])) l = some (.lst ((sortS (namesOf M)).map V.str)) := (same_upd nf) _ _ upd_same
    -- the outer loop
    refine ⟨fun m σ H' => ∃ (l f : Addr) (left : List Str) (ts : List Addr) (rows : List (List Str)) (x4 x5 x6 x7 x8 : Option V), σ = [some (.ref d), some (.int z), some (.ref l), some (.ref f), x4, x5, x6, x7, x8] ∧ Same H H' ∧ H l = none ∧ H f = none ∧ l ≠ f ∧ H' l = some (.lst (left.map V.str)) ∧ H' f = some (.lst (ts.map V.ref)) ∧ RowsAt H' ts rows ∧
      rows ++ compsOf (nearR M z) (namesOf M) left = rowsOf (nearR M z) (namesOf M) ∧ Clsd (nearR M z) (namesOf M) left ∧ m = left.length ∧ ts.length + left.length ≤ 60,
      ⟨_, l, f, sortS (namesOf M), [], [], none, none, none, none, none, rfl, s2, nl, nf0, ne_of_none upd_same nf, hl2, upd_same, .nil, rfl, clsd_all nd, rfl, by rw [sortS_len]; have := ok.lenN; simpa using this⟩, ?_⟩
    clear nl nf nf0 hl2 s1 s2 pm so l f
    rintro m σ H1 ⟨l, f, left, ts, rows, x4, x5, x6, x7, x8, rfl, sm, nl, nf, nlf, hl, hf, hw, hc, cl, rfl, hlen⟩
    have nmL : ∀ x ∈ left, nameS x = true := fun x hx => ok.name (cl.sub x hx)
    -- left != []
    refine ⟨_, rfl, Nat.zero_le _, fun e0 ne0 => ⟨.list (left.map .str), .list [], .lst (sqL ((same_upd ne0) _ _ hl)) (dpAll_strs left), .lst (sqL upd_same) .nil, (lay_names (n := 0) nmL).shaped (by decide), (lay_list (n := 0) lay_nil).shaped (by decide), _, rfl, ?_⟩⟩
    rw [eqv_nilS]
    have sE := same_upd (o := .lst []) ne0
    cases left with
    | nil =>
      refine iteF ?_
      rw [comps_nil, List.append_nil] at hc
      subst hc
      have hr' := hw.keepT sE.keepT
      refine ⟨_, rfl, f, ts.map V.ref, keysAt (upd H1 e0 (.lst [])), false, rfl, sqL (sE _ _ hf), fun x hx => ?_, fun x hx y hy => ?_, fun ys p pm so np => ?_⟩
      · obtain ⟨t, ht, rfl⟩ := List.mem_map.mp hx
        obtain ⟨r, hr1, e⟩ := rowsAt_mem hr' ht
        rw [keysAt_row e]
        obtain ⟨y, u, rfl⟩ := rows_nonempty nd hr1
        exact ⟨⟨t, rfl, by rw [e, strs_kV]⟩, _, _, rfl, rfl⟩
      · obtain ⟨t, ht, rfl⟩ := List.mem_map.mp hx
        obtain ⟨t', ht', rfl⟩ := List.mem_map.mp hy
        obtain ⟨r, _, e⟩ := rowsAt_mem hr' ht
        obtain ⟨r', _, e'⟩ := rowsAt_mem hr' ht'
        rw [keysAt_row e, keysAt_row e']
        exact alike_strs r r'
      · have ey := sorted_keys_uniq (rowsAt_pw hr' (rows_strict nd)) pm so
        subst ey
        have s3 := (sm.trans sE).trans (same_upd (o := .lst (ts.map V.ref)) np)
        exact q p ts _ s3 ((sm.trans sE).free np) upd_same (hr'.keepT (keepT_new np))
    | cons x left =>
      refine iteT ⟨_, fun _ _ h => h, ?_⟩
      -- row, fresh = [], [left.pop(0)]
      have hl' := sE _ _ hl
      have hf' := sE _ _ hf
      have ne0' : H e0 = none := sm.free ne0
      refine ⟨Nat.zero_le _, fun r nr => ?_⟩
      have sR := same_upd (o := .lst []) nr
      have hl'' := sR _ _ hl'
      have hf'' := sR _ _ hf'
      have nlr : l ≠ r := ne_of_none hl' nr
      refine ⟨_, rfl, .inl ⟨rfl, _, sqL hl''⟩, l, _, 0, 0, .str x, rfl, rfl, hl'', by decide, by decide, (by rw [List.length_map, List.length_cons]; exact seqIndex0 _), rfl, (by show 1 ≤ sizeLine; decide), fun fr nfr => ⟨_, _, rfl, ?_⟩⟩
      have nfr1 : upd (upd (upd H1 e0 (.lst [])) r (.lst [])) l (.lst (left.map V.str)) fr = none := nfr
      have nlfr : l ≠ fr := ne_of_none upd_same nfr1
      have nfr2 : upd (upd H1 e0 (.lst [])) r (.lst []) fr = none := by rw [← nfr1, upd_ne nlfr.symm]
      have nrfr : r ≠ fr := ne_of_none upd_same nfr2
      have nffr : f ≠ fr := ne_of_none hf'' nfr2
      have nrf : r ≠ f := fun e => by rw [e] at nr; rw [nr] at hf'; cases hf'
      have sm1 : Same H (upd (upd H1 e0 (.lst [])) r (.lst [])) := (sm.trans sE).trans sR
      have nr0 : H r = none := (sm.trans sE).free nr
      have nfr0 : H fr = none := sm1.free nfr2
      have sm2 := same_at (o := .lst [V.str x]) (same_at (o := .lst (left.map V.str)) sm1 nl) nfr0
      have kt : KeepT H1 (upd (upd (upd (upd H1 e0 (.lst [])) r (.lst [])) l (.lst (left.map V.str))) fr (.lst [V.str x])) := ((sE.trans sR).keepT.trans (keepT_upd hl'' (fun xs e => by cases e))).trans (keepT_new nfr1)
      have il : upd (upd (upd (upd H1 e0 (.lst [])) r (.lst [])) l (.lst (left.map V.str))) fr (.lst [V.str x]) l = some (.lst (left.map V.str)) := by rw [upd_ne nlfr, upd_same]
      have if_ : upd (upd (upd (upd H1 e0 (.lst [])) r (.lst [])) l (.lst (left.map V.str))) fr (.lst [V.str x]) f = some (.lst (ts.map V.ref)) := by rw [upd_ne nffr, upd_ne nlf.symm]; exact hf''
      have ir : upd (upd (upd (upd H1 e0 (.lst [])) r (.lst [])) l (.lst (left.map V.str))) fr (.lst [V.str x]) r = some (.lst []) := by rw [upd_ne nrfr, upd_ne nlr.symm, upd_same]
      -- the inner loop
      refine ⟨fun m σ H' => ∃ (l : Addr) (row fresh left' : List Str) (x6 x7 x8 : Option V), σ = [some (.ref d), some (.int z), some (.ref l), some (.ref f), some (.ref r), some (.ref fr), x6, x7, x8] ∧ Same H H' ∧ KeepT H1 H' ∧ H l = none ∧ l ≠ f ∧ l ≠ r ∧ l ≠ fr ∧ H' l = some (.lst (left'.map V.str)) ∧ H' f = some (.lst (ts.map V.ref)) ∧ H' r = some (.lst (row.map V.str)) ∧ H' fr = some (.lst (fresh.map V.str)) ∧
        Gath (nearR M z) (namesOf M) x left row fresh left' ∧ m = fresh.length + left'.length,
        ⟨_, l, [], [x], left, x6, x7, x8, rfl, sm2, kt, nl, nlf, nlr, nlfr, il, if_, ir, upd_same, gath_start cl, rfl⟩, ?_⟩
      clear il if_ ir kt sm2 sm1 nfr nfr1 nfr2 sR hl'' hf'' hl' hf' nlr nlfr x4 x5
      rintro m σ H2 ⟨l2, row, fresh, left2, y6, y7, y8, rfl, sm2, kt, nl2, nlf2, nlr2, nlfr2, hl2, hf2, hr2, hfr2, g, rfl⟩
      have nmF : ∀ y ∈ fresh, nameS y = true := fun y hy => ok.name (g.reach y (by simp [hy])).right
      refine ⟨_, rfl, Nat.zero_le _, fun e1 ne1 => ⟨.list (fresh.map .str), .list [], .lst (sqL ((same_upd ne1) _ _ hfr2)) (dpAll_strs fresh), .lst (sqL upd_same) .nil, (lay_names (n := 0) nmF).shaped (by decide), (lay_list (n := 0) lay_nil).shaped (by decide), _, rfl, ?_⟩⟩
      rw [eqv_nilS]
      have sF := same_upd (o := .lst []) ne1
      rcases snoc_cases fresh with rfl | ⟨fr0, n, rfl⟩
      · -- found.append(tuple(sorted(row)))
        refine iteF ?_
        obtain ⟨pm1, el⟩ := g.done hR cl
        have hl3 := sF _ _ hl2
        have hf3 := sF _ _ hf2
        have hr3 := sF _ _ hr2
        refine ⟨_, rfl, .inl ⟨rfl, _, sqL hf3⟩, _, rfl, r, row, rfl, sqL hr3, ?_, fun ys p pm so np => ?_⟩
        · have e1 : row.length + left2.length = left.length + 1 := by
            have := g.perm.length_eq
            simpa using this
          have : ts.length + (left.length + 1) ≤ 60 := hlen
          omega
        have eys : ys = (x :: left).filter fun y => decide (hd (nearR M z) (namesOf M) y = x) := sorted_uniq (pm.trans pm1) (sortedS_pw so) (cl.sorted.filter _)
        have sP := same_upd (o := .lst (ys.map V.str)) np
        refine ⟨p, _, rfl, .inl ⟨sqL upd_same, fun t nt => ?_⟩⟩
        have sT := same_upd (o := .tup (ys.map V.str)) nt
        have hf4 := sT _ _ (sP _ _ hf3)
        have hl4 := sT _ _ (sP _ _ hl3)
        refine ⟨f, _, _, rfl, rfl, hf4, ?_, ?_⟩
        · rw [List.length_map]
          exact small1000 (by omega)
        have sAll := ((sm2.trans sF).trans sP).trans sT
        have ktAll : KeepT H1 (upd (upd (upd (upd H2 e1 (.lst [])) p (.lst (ys.map V.str))) t (.tup (ys.map V.str))) f (.lst (ts.map V.ref ++ [V.ref t]))) := ((kt.trans sF.keepT).trans (sP.trans sT).keepT).trans (keepT_upd hf4 (fun xs e => by cases e))
        refine ⟨left2.length, ?_, l2, f, left2, ts ++ [t], rows ++ [ys], _, _, _, _, _, rfl, same_at sAll nf, nl2, nf, nlf2, ?_, ?_, ?_, ?_, ?_, rfl, ?_⟩
        · have := g.perm.length_eq
          have hx : x ∈ row := by simpa using g.has
          have : 0 < row.length := List.length_pos_of_mem hx
          simp at *
          omega
        · rw [upd_ne nlf2]; exact hl4
        · rw [upd_same, List.map_append]; rfl
        · exact rowsAt_snoc (hw.keepT ktAll) (by rw [upd_ne (ne_of upd_same hf4 (by intro e; cases e))]; exact upd_same)
        · rw [← hc, comps_cons hR cl, eys, el, List.append_assoc]
          rfl
        · rw [el]; exact cl.rest hR
        · have := g.perm.length_eq
          have hx : x ∈ row := by simpa using g.has
          have : 0 < row.length := List.length_pos_of_mem hx
          simp at *
          omega
      · refine iteT' (by simp) ⟨_, fun _ _ h => h, ?_⟩
        have hl3 := sF _ _ hl2
        have hf3 := sF _ _ hf2
        have hr3 := sF _ _ hr2
        have hfr3 := sF _ _ hfr2
        have sm3 := sm2.trans sF
        have kt3 := kt.trans sF.keepT
        have nN : n ∈ namesOf M := (g.reach n (by simp)).right
        -- name = fresh.pop()
        refine ⟨_, rfl, .inl ⟨rfl, _, sqL hfr3⟩, fr, _, .str n, rfl, rfl, hfr3, ?_, ?_⟩
        · simp
        have e4 : ((fr0 ++ [n]).map V.str).dropLast = fr0.map V.str := by simp
        rw [e4]
        have nrfr' : r ≠ fr := nrfr
        have hr4 : upd (upd H2 e1 (.lst [])) fr (.lst (fr0.map V.str)) r = some (.lst (row.map V.str)) := by rw [upd_ne nrfr]; exact hr3
        refine ⟨_, rfl, .inl ⟨rfl, _, sqL hr4⟩, _, rfl, r, _, _, rfl, rfl, hr4, ?_, ?_⟩
        · have := g.perm.length_eq
          have h60 : ts.length + (left.length + 1) ≤ 60 := hlen
          rw [List.length_map]
          simp at this
          exact small1000 (by omega)
        have sm5 : Same H (upd (upd (upd H2 e1 (.lst [])) fr (.lst (fr0.map V.str))) r (.lst (row.map V.str ++ [V.str n]))) := same_at (same_at sm3 nfr0) nr0
        have kt5 : KeepT H1 (upd (upd (upd H2 e1 (.lst [])) fr (.lst (fr0.map V.str))) r (.lst (row.map V.str ++ [V.str n]))) := (kt3.trans (keepT_upd hfr3 (fun xs e => by cases e))).trans (keepT_upd hr4 (fun xs e => by cases e))
        have hl5 : upd (upd (upd H2 e1 (.lst [])) fr (.lst (fr0.map V.str))) r (.lst (row.map V.str ++ [V.str n])) l2 = some (.lst (left2.map V.str)) := by rw [upd_ne nlr2, upd_ne nlfr2]; exact hl3
        have hf5 : upd (upd (upd H2 e1 (.lst [])) fr (.lst (fr0.map V.str))) r (.lst (row.map V.str ++ [V.str n])) f = some (.lst (ts.map V.ref)) := by rw [upd_ne nrf.symm, upd_ne nffr]; exact hf3
        have hr5 : upd (upd (upd H2 e1 (.lst [])) fr (.lst (fr0.map V.str))) r (.lst (row.map V.str ++ [V.str n])) r = some (.lst (row.map V.str ++ [V.str n])) := upd_same
        have hfr5 : upd (upd (upd H2 e1 (.lst [])) fr (.lst (fr0.map V.str))) r (.lst (row.map V.str ++ [V.str n])) fr = some (.lst (fr0.map V.str)) := by rw [upd_ne nrfr.symm, upd_same]
        generalize upd (upd (upd H2 e1 (.lst [])) fr (.lst (fr0.map V.str))) r (.lst (row.map V.str ++ [V.str n])) = H5 at sm5 kt5 hl5 hf5 hr5 hfr5 ⊢
        have len2 : left2.length ≤ 60 := by
          have := g.perm.length_eq
          have h60 : ts.length + (left.length + 1) ≤ 60 := hlen
          simp at this
          omega
        have subL : ∀ y ∈ left2, y ∈ namesOf M := fun y hy => cl.sub y (g.perm.mem_iff.mp (List.mem_append_right _ hy))
        -- near = [..]
        refine ⟨_, rfl, l2, rfl, ⟨_, sqL hl5⟩, lc_fun (enum_list (xs := left2.map V.str)) (strP (nearR M z n)) (fun v => v) (fun D H' nD s => sqL (s _ _ (ne_of_none hl5 nD) hl5)) (by rw [List.length_map]; exact small1000 (by omega)) ?_ ?_⟩
        · intro i v H6 Cy Cn ev s6 h1 h2
          obtain ⟨y, rfl, hy, _⟩ := str_at ev
          have hp6 := hp.same (sm5.trans s6)
          obtain ⟨v1, g1, p1⟩ := hp6.get nN
          obtain ⟨v2, g2, p2⟩ := hp6.get (subL y hy)
          refine ⟨_, rfl, _, rfl, d, v1, rfl, g1, _, rfl, _, rfl, d, v2, rfl, g2, v1, v2, _, _, rfl, p1, p2, _, rfl, _, rfl, z0, z1, _, _, rfl, rfl, _, rfl, ?_⟩
          refine ite2 (fun c => ?_) (fun c => ?_)
          · exact ⟨_, rfl, h1 H6 (Same.refl _) c⟩
          · exact h2 H6 (Same.refl _) (Bool.eq_false_iff.mpr c)
        intro D1 H6 nD1 s6 hD1
        rw [map_idV, strP_filter] at hD1
        have hl6 := s6 _ _ hl5
        -- left = [..]
        refine ⟨_, rfl, l2, rfl, ⟨_, sqL hl6⟩, lc_fun (enum_list (xs := left2.map V.str)) (strP fun y => !decide (y ∈ left2.filter (nearR M z n))) (fun v => v) (fun D H' nD s => sqL (s _ _ (ne_of_none hl6 nD) hl6)) (by rw [List.length_map]; exact small1000 (by omega)) ?_ ?_⟩
        · intro i v H7 Cy Cn ev s7 h1 h2
          obtain ⟨y, rfl, hy, _⟩ := str_at ev
          refine ⟨_, rfl, _, rfl, D1, _, rfl, .inl (sqL (s7 _ _ hD1)), rfl, flat_strs _, _, rfl, ?_⟩
          rw [inV_str]
          refine ite2 (fun c => ?_) (fun c => ?_)
          · exact ⟨_, rfl, h1 H7 (Same.refl _) c⟩
          · exact h2 H7 (Same.refl _) (Bool.eq_false_iff.mpr c)
        intro D2 H7 nD2 s7 hD2
        rw [map_idV, strP_filter] at hD2
        have ef : (left2.filter fun y => !decide (y ∈ left2.filter (nearR M z n))) = left2.filter fun y => !nearR M z n y := filter_congr' fun y hy => by
          simp only [List.mem_filter, hy, true_and]
          cases nearR M z n y <;> rfl
        rw [ef] at hD2
        have sm7 := (sm5.trans s6).trans s7
        have kt7 := kt5.trans (s6.trans s7).keepT
        have hfr7 := s7 _ _ (s6 _ _ hfr5)
        have hr7 := s7 _ _ (s6 _ _ hr5)
        have hf7 := s7 _ _ (s6 _ _ hf5)
        have hD17 := s7 _ _ hD1
        -- fresh.extend(near)
        refine ⟨_, rfl, .inl ⟨rfl, _, sqL hfr7⟩, _, rfl, fr, D1, _, _, rfl, rfl, hfr7, hD17, ?_, ?_⟩
        · have := g.perm.length_eq
          have h60 : ts.length + (left.length + 1) ≤ 60 := hlen
          have h1 := List.length_filter_le (nearR M z n) left2
          rw [List.length_map, List.length_map]
          simp at this
          exact Nat.le_of_lt (small1000 (by omega))
        have nD2fr : D2 ≠ fr := fun e => by rw [e] at nD2; rw [s6 _ _ hfr5] at nD2; cases nD2
        have nD2r : D2 ≠ r := fun e => by rw [e] at nD2; rw [s6 _ _ hr5] at nD2; cases nD2
        have nD2f : D2 ≠ f := fun e => by rw [e] at nD2; rw [s6 _ _ hf5] at nD2; cases nD2
        refine ⟨(fr0 ++ left2.filter (nearR M z n)).length + (left2.filter fun y => !nearR M z n y).length, ?_, D2, row ++ [n], fr0 ++ left2.filter (nearR M z n), left2.filter fun y => !nearR M z n y, _, _, _, rfl, same_at sm7 nfr0, kt7.trans (keepT_upd hfr7 (fun xs e => by cases e)), (sm5.trans s6).free nD2, nD2f, nD2r, nD2fr, ?_, ?_, ?_, ?_, g.next cl, rfl⟩
        · have := (perm_part (nearR M z n) left2).length_eq
          simp only [List.length_append, List.length_singleton] at *
          omega
        · rw [upd_ne nD2fr]; exact hD2
        · rw [upd_ne nffr]; exact hf7
        · rw [upd_ne nrfr, List.map_append]; exact hr7
        · rw [upd_same, List.map_append]

def sp_Map___init__ (C : Addr) : Sp := fun vs H Q _ => ∃ (m dx : Addr), vs = [.ref m] ∧ H m = some (.ins C dx []) ∧ ∀ (R : MapR) H', R.m = m → R.dx = dx → SameX m H H' → (∀ b ∈ R.hl :: R.foot, H b = none) → MapAt C H' R [] → Q .non H'
theorem ok_Map___init__ (T : Tx K mg) : FnOk P w K mg base CX0 1 T.f_Map___init__ T.d_Map___init__ ["self"] (sp_Map___init__ T.C_Map) := by
  refine T.F_Map___init__.ok sc_Map___init__ (fun vs H Q E h => ?_) (fun cdv A outer s H vs Q E hr h => ?_)
  · obtain ⟨m, dx, rfl, _⟩ := h
    rfl
  · obtain ⟨m, dx, rfl, hm, q⟩ := h
    refine ⟨_, (pss_cons (ps_fld (pv 0) pe_dnewK rfl)
      (pss_one (ps_fld (pv 0) (pe_lc (own := [("size", 1)]) (g := gName 1) (tt := tYes) (by rfl) sc_Map___init__.nd (pi_range1 (by rfl) T.n_range (pa_cons (pe_op op_add (pe_glob (v := .int 13) (by rfl) T.g_MOST_SIZE ⟨_, rfl⟩) pe_int) pa_nil)) (blkOk_by (own := [("size", 1)]) (N := ["self", "size"]) (sc := defScope s_Map___init__) (by decide +kernel)) (fun _ _ _ _ _ => (pg_name (i := 1) sc_Map___init__.nd rfl (Or.inl rfl))) (fun _ _ _ _ _ => pts_nil) (fun _ _ _ _ _ => pe_dnewK)) rfl))), ?_⟩
    -- self.points = {}
    intro pd npd
    have hm1 := (same_upd (o := .dK []) npd) _ _ hm
    have mpd : m ≠ pd := ne_of_none hm npd
    refine ⟨_, rfl, m, _, dx, _, rfl, hm1, T.c_Map, T.nA_Map_points, by decide, ?_⟩
    have e0 : putF "points" (V.ref pd) [] = [(("points" : Str), V.ref pd)] := rfl
    rw [e0]
    -- self.heads = [{} for size in range(14)]
    have hm2 : upd (upd H pd (.dK [])) m (.ins T.C_Map dx [("points", .ref pd)]) m = some (.ins T.C_Map dx [("points", .ref pd)]) := upd_same
    have hp2 : upd (upd H pd (.dK [])) m (.ins T.C_Map dx [("points", .ref pd)]) pd = some (.dK []) := by rw [upd_ne mpd.symm, upd_same]
    have fr : ∀ b, upd (upd H pd (.dK [])) m (.ins T.C_Map dx [("points", .ref pd)]) b = none → H b = none := fun b h => none_of_upd (none_of_upd h)
    have sx : SameX m H (upd (upd H pd (.dK [])) m (.ins T.C_Map dx [("points", .ref pd)])) := SameX.upd (same_upd npd).x
    generalize upd (upd H pd (.dK [])) m (.ins T.C_Map dx [("points", .ref pd)]) = H2 at hm2 hp2 fr sx ⊢
    refine ⟨_, _, rfl, rfl, _, rfl, by decide, by decide, lc_new enum_range (.dK []) (fun _ _ _ _ => trivial) (by rw [rangeV_len]; decide) (fun i x H' Cy ex k => k) ?_⟩
    intro D H' hs nD s1 hD hl nd dn hh
    refine ⟨_, rfl, m, _, dx, _, rfl, s1 _ _ hm2, T.c_Map, T.nA_Map_heads, by simp, ?_⟩
    have hmm := s1 _ _ hm2
    have nm : ∀ h ∈ hs, h ≠ m := fun h hh' e => by rw [e] at hh'; have := (hh m hh').1; rw [hm2] at this; cases this
    have np : ∀ h ∈ hs, h ≠ pd := fun h hh' e => by rw [e] at hh'; have := (hh pd hh').1; rw [hp2] at this; cases this
    have e13 : hs.length = 14 := by rw [hl, rangeV_len]; rfl
    refine q ⟨m, dx, pd, D, hs⟩ _ rfl rfl (SameX.upd (sx.same s1)) ?_ ⟨?_, ?_, e13, ?_, pmOk_nil, ⟨[], ?_, .nil⟩, ?_⟩
    · intro b hb
      rcases List.mem_cons.mp hb with e | hb
      · rw [e]; exact fr _ nD
      · rcases List.mem_cons.mp hb with e | hb
        · rw [e]; exact npd
        · exact fr _ (hh b hb).1
    · exact upd_same
    · show upd H' m _ D = _
      rw [upd_ne (ne_of hD hmm (by intro e; cases e))]; exact hD
    · exact List.nodup_cons.mpr ⟨fun z => np pd z rfl, nd⟩
    · show upd H' m _ pd = _
      rw [upd_ne mpd.symm]; exact s1 _ _ hp2
    · intro s h e
      have hmem : h ∈ hs := List.mem_of_getElem? e
      show upd H' m _ h = _
      rw [upd_ne (nm h hmem)]
      exact (hh h hmem).2
theorem mk_map {C m dx : Addr} {H0 : Hp} {vs : List V} {Q : VK} {E : XK} (nm : H0 m = none) (ndx : H0 dx = none) (nex : m ≠ dx) (hv : vs = [.ref m]) (k : ∀ (R : MapR) (H2 : Hp), R.m = m → Same H0 H2 → Fresh H0 R → MapAt C H2 R [] → Q .non H2) : sp_Map___init__ C vs (upd (upd H0 dx (.own m)) m (.ins C dx [])) Q E := by
  have sm : Same H0 (upd (upd H0 dx (.own m)) m (.ins C dx [])) := (same_upd ndx).trans (same_upd (by rw [upd_ne nex]; exact nm))
  refine ⟨m, dx, hv, upd_same, fun R H2 e1 e2 sx fr hm => ?_⟩
  have s2 : Same H0 H2 := fun b o e => sx b o (ne_of_none e nm) (sm b o e)
  refine k R H2 e1 s2 (fun b hb => ?_) hm
  rcases List.mem_cons.mp hb with e | hb
  · rw [e, e1]; exact nm
  · exact sm.free (fr b hb)

def sp_Map_marks (C : Addr) : Sp := fun vs H Q _ => ∃ (R : MapR) (M : PM), vs = [.ref R.m] ∧ MapAt C H R M ∧ ∀ l ts H', Same H H' → H l = none → H' l = some (.lst (ts.map V.ref)) → MarksAt H' ts (sortS (namesOf M)) M → Q (.ref l) H'
theorem ok_Map_marks (T : Tx K mg) : FnOk P w K mg base CX0 1 T.f_Map_marks T.d_Map_marks ["self"] (sp_Map_marks T.C_Map) := by
  refine T.F_Map_marks.ok sc_Map_marks (fun vs H Q E h => ?_) (fun cdv A outer s H vs Q E hr h => ?_)
  · obtain ⟨R, M, rfl, _⟩ := h
    rfl
  · obtain ⟨R, M, rfl, hm, q⟩ := h
    refine ⟨_, (pss_one (ps_ret (pe_lc (own := [("name", 1)]) (g := gName 1) (tt := tYes) (by rfl) sc_Map_marks.nd (pi_list (pe_callB (call_sortedD rfl) (by rfl) T.n_sorted (by decide +kernel) (pa_cons (pe_fld (pv 0) rfl) pa_nil))) (blkOk_by (own := [("name", 1)]) (N := ["self", "name"]) (sc := defScope s_Map_marks) (by decide +kernel)) (fun _ _ _ _ _ => (pg_name (i := 1) sc_Map_marks.nd rfl (Or.inl rfl))) (fun _ _ _ _ _ => pts_nil) (fun _ _ _ _ _ => (pe_tup (pa_cons (pv 1) (pa_cons (pe_dget (hu_of hr) (pe_fldK (K := K) rfl (pv 0) rfl) (pv 1) (fun _ _ => rfl)) pa_nil))))))), ?_⟩
    obtain ⟨kvs, hp, kv, pa⟩ := hm.ptsAt
    have lenN := hm.ok.lenN
    refine ⟨_, rfl, R.m, _, _, _, _, rfl, hm.ins, T.c_Map, T.nA_Map_points, rfl, R.pd, kvs, namesOf M, rfl, .inl hp, kv.keys, by omega, fun ys l pm so nl => ?_⟩
    have eys := sortedS_eq so pm
    subst eys
    have sL := same_upd (o := .lst ((sortS (namesOf M)).map V.str)) nl
    refine ⟨l, rfl, ⟨_, sqL upd_same⟩, lc_mapR (enum_list (xs := (sortS (namesOf M)).map V.str)) (fun x y H' => ∃ n t v, x = .str n ∧ y = .ref t ∧ H' t = some (.tup [.str n, v]) ∧ PtAt H' v (ptOf M n)) (fun D H' nD s => sqL (s _ _ (ne_of_none upd_same nD) upd_same)) ?_ ?_ ?_ ?_⟩
    · rw [List.length_map, sortS_len]; exact small1000 (by omega)
    · rintro x y Ha Hb D nD ⟨n, t, v, rfl, rfl, ht, a, rfl, ha⟩ keep ⟨l, hl⟩
      exact ⟨n, t, _, rfl, rfl, keep _ _ ht (ne_of ht hl (by intro e; cases e)), a, rfl, keep _ _ ha (ne_of ha hl (by intro e; cases e))⟩
    · intro i x H2 Cy ex s2 k
      obtain ⟨n, rfl, hn, _⟩ := str_at ex
      have nM := mem_sortS.mp hn
      obtain ⟨v, g, pv⟩ := ((pa.same sL).same s2).get nM
      refine ⟨_, rfl, _, rfl, R.m, _, _, _, _, rfl, s2 _ _ (sL _ _ hm.ins), T.c_Map, T.nA_Map_points, rfl, _, rfl, R.pd, v, rfl, g, (by show 2 ≤ sizeLine; decide), fun t nt => ?_⟩
      exact k _ _ (same_upd nt) ⟨n, t, v, rfl, rfl, upd_same, pv.same (same_upd nt)⟩
    · intro D H2 ys nD s2 hD pr
      obtain ⟨ts, rfl, hw⟩ := pairs_marks pr
      exact q D ts H2 (sL.trans s2) (sL.free nD) hD hw

def sp_Map_point (C CN : Addr) : Sp := fun vs H Q E => ∃ (R : MapR) (M : PM) (v : V), vs = [.ref R.m, v] ∧ MapAt C H R M ∧ Dat H v ∧ (∀ x, v = .str x → x.length ≤ 1000) ∧
  ((∃ n, v = .str n ∧ n ∈ namesOf M ∧ ∀ u H', Same H H' → PtAt H' u (ptOf M n) → Q u H') ∨ ((∀ n, v = .str n → n ∉ namesOf M) ∧ ∀ H', Same H H' → E (.ref CN) none H'))
theorem ok_Map_point (T : Tx K mg) : FnOk P w K mg base (L2N.CX P w) 3 T.f_Map_point T.d_Map_point ["self", "name"] (sp_Map_point T.C_Map T.C_BadName) := by
  refine okN T.F_Map_point sc_Map_point (fun vs H Q E h => ?_) (fun cdv A outer s H vs Q E hr h => ?_)
  · obtain ⟨R, M, v, rfl, _⟩ := h
    rfl
  · obtain ⟨R, M, v, rfl, hm, dv, hl, k⟩ := h
    refine ⟨_, (pss_cons (ps_expr (pe_call (ok_need_name T) (hr.mono (by decide)) (by rfl) T.g_need_name T.F_need_name.kp T.b_need_name .nil (L2N.passes_call (L2N.takes_of rfl rfl rfl rfl) (fun _ _ _ _ h => h)) (pa_cons (pv 1) pa_nil)))
      (pss_cons (ps_if (pt_cmp (pc_dnotin (hu_of hr) (pv 1) (pe_fld (pv 0) rfl))) (pss_one (L2N.ps_raise rfl (L2N.takes_of rfl rfl rfl rfl) (L2N.pmk_own PySem.F.excBase_ValueError T.x_BadName T.g_BadName T.k_BadName (raises_own T.e_BadName T.t_BadName) (by rfl)))) pss_nil)
      (pss_one (ps_ret (pe_dget (hu_of hr) (pe_fld (pv 0) rfl) (pv 1) (fun _ _ => rfl)))))), ?_⟩
    refine ⟨_, rfl, v, rfl, dv, hl, ?_⟩
    rcases k with ⟨n, rfl, hn, q⟩ | ⟨hn, q⟩
    · refine .inl ⟨hm.ok.name hn, fun H1 s1 => ?_⟩
      have hm1 := hm.same s1
      obtain ⟨kvs, hp, kv, pa⟩ := hm1.ptsAt
      obtain ⟨u, g, pu⟩ := pa.get hn
      refine ⟨_, rfl, _, rfl, R.m, _, _, _, _, rfl, hm1.ins, T.c_Map, T.nA_Map_points, rfl, R.pd, _, rfl, g, _, rfl, iteF ?_⟩
      exact ⟨_, rfl, R.m, _, _, _, _, rfl, hm1.ins, T.c_Map, T.nA_Map_points, rfl, _, rfl, R.pd, u, rfl, g, q u H1 s1 pu⟩
    · cases e : isName v with
      | false => exact .inr ⟨rfl, fun H1 s1 => q H1 s1⟩
      | true =>
        refine .inl ⟨rfl, fun H1 s1 => ?_⟩
        have hm1 := hm.same s1
        obtain ⟨kvs, hp, kv, pa⟩ := hm1.ptsAt
        obtain ⟨n, rfl⟩ : ∃ n, v = .str n := by
          cases v <;> first | exact ⟨_, rfl⟩ | (simp [isName] at e)
        have g := pa.miss (hn n rfl)
        refine ⟨_, rfl, _, rfl, R.m, _, _, _, _, rfl, hm1.ins, T.c_Map, T.nA_Map_points, rfl, R.pd, _, rfl, g, _, rfl, iteT ?_⟩
        exact q H1 s1

def sp_Map_join (C : Addr) : Sp := fun vs H Q _ => ∃ (R : MapR) (M : PM) (F : Nat → List (Key × V)) (n : Str) (p : Pt) (s : Nat), vs = [.ref R.m, .str n, .int s] ∧ s < 14 ∧ n ∉ namesOf M ∧ MapG C H R (M ++ [(n, p)]) F ∧ F s = hdF M s ∧
  ∀ H', SameD R.hs H H' → MapG C H' R (M ++ [(n, p)]) (fun t => if t = s then hdF (M ++ [(n, p)]) s else F t) → Q .non H'
theorem ok_Map_join (T : Tx K mg) : FnOk P w K mg base CX0 2 T.f_Map_join T.d_Map_join ["self", "name", "size"] (sp_Map_join T.C_Map) := by
  refine T.F_Map_join.ok sc_Map_join (fun vs H Q E h => ?_) (fun cdv A outer s H vs Q E hr h => ?_)
  · obtain ⟨R, M, F, n, p, z, rfl, _⟩ := h
    rfl
  · obtain ⟨R, M, F, n, p, z, rfl, hz, hn, hm, hF, q⟩ := h
    refine ⟨_, (pss_cons (ps_set (i := 3) sc_Map_join.nd rfl (Or.inl rfl) (pe_ix ix_list (pe_fld (pv 0) rfl) (pv 2) (fun _ _ => rfl)))
      (pss_cons (ps_set (i := 4) sc_Map_join.nd rfl (Or.inl rfl) (pe_dget (hu_of hr) (pe_fld (pv 0) rfl) (pv 1) (fun _ _ => rfl)))
      (pss_cons (ps_set (i := 5) sc_Map_join.nd rfl (Or.inl rfl) pe_dnewK)
      (pss_cons (ps_lockR (ps_for PassesOwn.never (by rfl) (pi_keys (pv 3)) (pg_name (i := 6) sc_Map_join.nd rfl (Or.inl rfl))
      (pss_one (ps_if (pt_cmpR op_le (pe_call (ok_apart T) (hr.mono (by decide)) (by rfl) T.g_apart T.F_apart.kp T.b_apart .nil pass0 (pa_cons (pv 4) (pa_cons (pe_dget (hu_of hr) (pe_fld (pv 0) rfl) (pv 6) (fun _ _ => rfl)) pa_nil))) (pe_call (ok_reach T) (hr.mono (by decide)) (by rfl) T.g_reach T.F_reach.kp T.b_reach .nil pass0 (pa_cons (pv 2) pa_nil)) (nomark _)) (pss_one (ps_dput (hu_of hr) (pv 5) (pe_dget (hu_of hr) (pv 3) (pv 6) (fun _ _ => rfl)) pe_bl rfl)) pss_nil))))
      (pss_cons (ps_set (i := 7) sc_Map_join.nd rfl (Or.inl rfl) (pe_callB (cr_minS rfl hr.units) (by rfl) T.n_min (by decide +kernel) (pa_cons (pe_op op_cat (pe_lst (pa_cons (pv 1) pa_nil)) (pe_callTy (call_listD rfl) (by rfl) T.n_list (by decide +kernel) (pa_cons (pv 5) pa_nil))) pa_nil)))
      (pss_cons (ps_dput (hu_of hr) (pv 3) (pv 1) (pv 7) rfl)
      (pss_one (ps_for PassesOwn.never (by rfl) (pi_list (pe_callTy (call_listD rfl) (by rfl) T.n_list (by decide +kernel) (pa_cons (pv 3) pa_nil))) (pg_name (i := 6) sc_Map_join.nd rfl (Or.inl rfl))
      (pss_one (ps_if (pt_cmp (pc_din (hu_of hr) (pe_dget (hu_of hr) (pv 3) (pv 6) (fun _ _ => rfl)) (pv 5))) (pss_one (ps_dput (hu_of hr) (pv 3) (pv 6) (pv 7) rfl)) pss_nil)))))))))), ?_⟩
    obtain ⟨a, ha, haf, hda⟩ := hm.at hz
    rw [hF] at hda
    have ndM' := hm.ok.nodup
    have hR := nearR_symm (M ++ [(n, p)]) (z : Int)
    have eN : namesOf (M ++ [(n, p)]) = namesOf M ++ [n] := names_app M n p
    have hf : ∀ o, hd (nearR M (z : Int)) (namesOf M) o = hd (nearR (M ++ [(n, p)]) (z : Int)) (namesOf M) o := fun o => hd_congr (fun a ha b hb => (near_app ndM' a ha b hb).symm) o
    have lenM : (namesOf M).length < 60 := by
      have := hm.ok.lenN
      rw [eN, List.length_append] at this
      exact this
    have eF : hdF M z = cK (namesOf M) (hd (nearR (M ++ [(n, p)]) (z : Int)) (namesOf M)) := cK_congr fun o _ => hf o
    rw [eF] at hda
    obtain ⟨kvs, hp, kv, pa⟩ := hm.ptsAt
    obtain ⟨v1, g1, p1⟩ := pa.get (n := n) (by rw [eN]; simp)
    rw [ptOf_last ndM'] at p1
    have apd : R.pd ≠ a := fun e => (List.nodup_cons.mp hm.nodup).1 (by rw [e]; exact List.mem_of_getElem? ha)
    -- heads, point, near
    refine ⟨_, rfl, R.m, _, _, _, _, rfl, hm.ins, T.c_Map, T.nA_Map_heads, rfl, _, rfl, R.hl, _, _, .ref a, rfl, rfl, sqL hm.lst, at_of (j := z) rfl (mapRef_at ha), ?_⟩
    refine ⟨_, rfl, R.m, _, _, _, _, rfl, hm.ins, T.c_Map, T.nA_Map_points, rfl, _, rfl, R.pd, v1, rfl, g1, fun nd nnd => ?_⟩
    have s0 := same_upd (o := .dK []) nnd
    have and_ : a ≠ nd := ne_of_none hda nnd
    have ek : (cK (namesOf M) (hd (nearR (M ++ [(n, p)]) (z : Int)) (namesOf M))).map (fun kv => kV kv.1) = (namesOf M).map V.str := keys_at (cK_keys _ _)
    -- who is near
    refine ⟨a, .dK (cK (namesOf M) (hd (nearR (M ++ [(n, p)]) (z : Int)) (namesOf M))), _, s0 _ _ hda, .inl rfl, trivial, fun od => ⟨_, rfl, a, od, rfl, .inl ⟨_, upd_same, for_enum enum_keys (fun i σ H' => ∃ x6 ns, σ = [some (.ref R.m), some (.str n), some (.int z), some (.ref a), some v1, some (.ref nd), x6, none] ∧ SameX a H H' ∧ H' a = some (.frz od (.dK (cK (namesOf M) (hd (nearR (M ++ [(n, p)]) (z : Int)) (namesOf M))))) ∧ H' nd = some (.dK (nk ns)) ∧
      (∀ h, h ∈ ns ↔ ∃ o ∈ (namesOf M).take i, nearR (M ++ [(n, p)]) z n o = true ∧ hd (nearR (M ++ [(n, p)]) (z : Int)) (namesOf M) o = h) ∧ ns.length ≤ i) ⟨none, [], rfl, SameX.upd s0.x, upd_same, by rw [upd_ne and_.symm, upd_same]; rfl, fun h => by simp, by simp⟩ (fun _ _ _ _ h => by obtain ⟨_, _, _, _, h, _⟩ := h; exact h) ?_ ?_⟩⟩⟩
    · rintro i v σ H1 ev ⟨x6, ns, rfl, sx, hfr, hnd, hns, hln⟩
      rw [ek] at ev
      obtain ⟨o, rfl, hoM, eo⟩ := str_at ev
      have hi : i < 60 := by
        have := (List.getElem?_eq_some_iff.mp eo).1
        omega
      have pa1 : PtsAt H1 R.pd (.dK kvs) (M ++ [(n, p)]) := ⟨sx _ _ apd hp, kvs, .inl rfl, kv.x hda (fun xs e => by cases e) sx⟩
      have ho' : o ∈ namesOf (M ++ [(n, p)]) := by rw [eN]; exact List.mem_append_left _ hoM
      obtain ⟨v2, g2, p2⟩ := pa1.get ho'
      have hins : H1 R.m = _ := sx _ _ (ne_of hm.ins hda (by intro e; cases e)) hm.ins
      have p1' : PtAt H1 v1 p := p1.keepT fun b xs e => sx _ _ (ne_of e hda (by intro e; cases e)) e
      refine ⟨_, rfl, _, rfl, R.m, _, _, _, _, rfl, hins, T.c_Map, T.nA_Map_points, rfl, _, rfl, R.pd, v2, rfl, g2, v1, v2, _, _, rfl, p1', p2, _, rfl, _, rfl, by omega, by omega, _, _, rfl, rfl, _, rfl, ?_⟩
      have er : nearR (M ++ [(n, p)]) z n o = decide (dist p (ptOf (M ++ [(n, p)]) o) ≤ reachI z) := by
        unfold nearR
        rw [ptOf_last ndM']
      rw [← er]
      have more : ∀ h, (∃ o' ∈ (namesOf M).take (i + 1), nearR (M ++ [(n, p)]) z n o' = true ∧ hd (nearR (M ++ [(n, p)]) (z : Int)) (namesOf M) o' = h) ↔ (h ∈ ns ∨ (nearR (M ++ [(n, p)]) z n o = true ∧ hd (nearR (M ++ [(n, p)]) (z : Int)) (namesOf M) o = h)) := fun h => by
        rw [take_snoc eo, hns]
        constructor
        · rintro ⟨o', hm', r, e⟩
          rcases List.mem_append.mp hm' with z' | z'
          · exact .inl ⟨o', z', r, e⟩
          · rw [List.mem_singleton.mp z'] at r e
            exact .inr ⟨r, e⟩
        · rintro (⟨o', hm', r, e⟩ | ⟨r, e⟩)
          · exact ⟨o', List.mem_append_left _ hm', r, e⟩
          · exact ⟨o, by simp, r, e⟩
      refine ite2 (fun c => ?_) (fun c => ?_)
      · have gf : DGet H1 a (.str o) (some (.str (hd (nearR (M ++ [(n, p)]) (z : Int)) (namesOf M) o))) := .inl ⟨_, .inr o, .inr ⟨od, hfr⟩, rfl, (cK_val hoM).symm⟩
        obtain ⟨ns', e1, e2, e3⟩ := nk_put ns (hd (nearR (M ++ [(n, p)]) (z : Int)) (namesOf M) o)
        refine ⟨_, rfl, _, rfl, _, rfl, a, _, rfl, gf, nd, _, rfl, DPut.k (k := Sum.inr (hd (nearR (M ++ [(n, p)]) (z : Int)) (namesOf M) o)) hnd (by rw [nk_len]; exact small1000 (by omega)), ?_⟩
        rw [e1]
        refine ⟨_, ns', rfl, sx.at nnd, ?_, upd_same, fun h => ?_, by omega⟩
        · rw [upd_ne and_]; exact hfr
        · rw [e2, more]
          constructor
          · rintro (z' | z')
            · exact .inl z'
            · exact .inr ⟨c, z'.symm⟩
          · rintro (z' | z')
            · exact .inl z'
            · exact .inr z'.2.symm
      · refine ⟨_, ns, rfl, sx, hfr, hnd, fun h => ?_, by omega⟩
        rw [more]
        constructor
        · exact .inl
        · rintro (z' | z')
          · exact z'
          · exact absurd z'.1 c
    · rintro σ H1 ⟨x6, ns, rfl, sx, hfr, hnd, hns, hln⟩
      rw [ek, List.length_map, List.take_length] at hns
      refine ⟨hfr, ?_⟩
      have hda2 : upd H1 a (.dK (cK (namesOf M) (hd (nearR (M ++ [(n, p)]) (z : Int)) (namesOf M)))) a = some (.dK (cK (namesOf M) (hd (nearR (M ++ [(n, p)]) (z : Int)) (namesOf M)))) := upd_same
      have hnd2 : upd H1 a (.dK (cK (namesOf M) (hd (nearR (M ++ [(n, p)]) (z : Int)) (namesOf M)))) nd = some (.dK (nk ns)) := by rw [upd_ne and_.symm]; exact hnd
      have sx2 : SameX a H (upd H1 a (.dK (cK (namesOf M) (hd (nearR (M ++ [(n, p)]) (z : Int)) (namesOf M))))) := sx.upd
      have hln' : ns.length ≤ 60 := by rw [ek, List.length_map] at hln; omega
      generalize upd H1 a (.dK (cK (namesOf M) (hd (nearR (M ++ [(n, p)]) (z : Int)) (namesOf M)))) = H2 at hda2 hnd2 sx2 ⊢
      clear hfr hnd sx s0
      -- least = min([name] + list(near))
      refine ⟨_, rfl, (by show 1 ≤ sizeLine; decide), fun l1 nl1 => ?_⟩
      have t1 := same_upd (o := .lst [V.str n]) nl1
      refine ⟨_, rfl, nd, nk ns, rfl, .inl (t1 _ _ hnd2), fun l2 nl2 => ?_⟩
      rw [keys_at (nk_keys ns)]
      have t2 := same_upd (o := .lst (ns.map V.str)) nl2
      refine ⟨l1, l2, _, _, rfl, rfl, t2 _ _ upd_same, upd_same, by rw [List.length_map]; exact Nat.le_of_lt (small1000 (show 1 + _ ≤ 1000 by omega)), fun l3 nl3 => ?_⟩
      have t3 := same_upd (o := .lst ([V.str n] ++ ns.map V.str)) nl3
      have t := (t1.trans t2).trans t3
      refine ⟨l3, n, ns, rfl, sqL upd_same, ?_⟩
      have hda3 := t _ _ hda2
      have hnd3 := t _ _ hnd2
      have sx3 := sx2.same t
      generalize upd (upd (upd H2 l1 (.lst [V.str n])) l2 (.lst (ns.map V.str))) l3 (.lst ([V.str n] ++ ns.map V.str)) = H3 at hda3 hnd3 sx3 ⊢
      clear t1 t2 t3 t hda2 hnd2 sx2 nl1 nl2 nl3
      -- heads[name] = least
      refine ⟨_, rfl, _, rfl, _, rfl, a, _, rfl, DPut.k (k := Sum.inr n) hda3 (by rw [cK_len]; exact small1000 (by omega)), ?_⟩
      rw [cK_put_new hn]
      have hda4 := upd_same (H := H3) (a := a) (o := .dK (cK (namesOf M ++ [n]) (updf (hd (nearR (M ++ [(n, p)]) (z : Int)) (namesOf M)) n (minS n ns))))
      have hnd4 : upd H3 a (.dK (cK (namesOf M ++ [n]) (updf (hd (nearR (M ++ [(n, p)]) (z : Int)) (namesOf M)) n (minS n ns)))) nd = some (.dK (nk ns)) := by rw [upd_ne and_.symm]; exact hnd3
      have sx4 : SameX a H (upd H3 a (.dK (cK (namesOf M ++ [n]) (updf (hd (nearR (M ++ [(n, p)]) (z : Int)) (namesOf M)) n (minS n ns))))) := sx3.upd
      generalize upd H3 a (.dK (cK (namesOf M ++ [n]) (updf (hd (nearR (M ++ [(n, p)]) (z : Int)) (namesOf M)) n (minS n ns)))) = H4 at hda4 hnd4 sx4 ⊢
      -- for other in list(heads)
      refine ⟨_, rfl, a, _, rfl, .inl hda4, fun l nl => ?_⟩
      rw [keys_at (cK_keys _ _)]
      have tl := same_upd (o := .lst ((namesOf M ++ [n]).map V.str)) nl
      have nal : a ≠ l := ne_of_none hda4 nl
      have ndn : (namesOf M ++ [n]).Nodup := by rw [← eN]; exact ndM'
      have hjoin := join_hd (least := minS n ns) hR hn hns (by rcases List.mem_cons.mp (minS_mem n ns) with h | h; exact .inl h; exact .inr h) ⟨minS_le n ns n (by simp), fun h hh => minS_le n ns h (by simp [hh])⟩
      refine ⟨l, rfl, ⟨_, sqL upd_same⟩, for_enum (enum_list (xs := (namesOf M ++ [n]).map V.str)) (fun i σ H' => ∃ x6 g, σ = [some (.ref R.m), some (.str n), some (.int z), some (.ref a), some v1, some (.ref nd), x6, some (.str (minS n ns))] ∧ SameX a H H' ∧ H' a = some (.dK (cK (namesOf M ++ [n]) g)) ∧ H' nd = some (.dK (nk ns)) ∧ H' l = some (.lst ((namesOf M ++ [n]).map V.str)) ∧
        (∀ m ∈ (namesOf M ++ [n]).take i, g m = joinF (hd (nearR (M ++ [(n, p)]) (z : Int)) (namesOf M)) n ns (minS n ns) m) ∧ (∀ m ∈ (namesOf M ++ [n]).drop i, g m = updf (hd (nearR (M ++ [(n, p)]) (z : Int)) (namesOf M)) n (minS n ns) m))
        ⟨_, _, rfl, sx4.same tl, tl _ _ hda4, tl _ _ hnd4, upd_same, fun m hm => by simp at hm, fun m _ => rfl⟩ (fun _ _ _ _ h => by obtain ⟨_, _, _, _, _, _, h, _⟩ := h; exact sqL h) ?_ ?_⟩
      · rintro i v σ H5 ev ⟨x6, g, rfl, sx5, hda5, hnd5, hl5, h1, h2⟩
        obtain ⟨m, rfl, hmM, em⟩ := str_at ev
        have gm : g m = updf (hd (nearR (M ++ [(n, p)]) (z : Int)) (namesOf M)) n (minS n ns) m := h2 m (by
          have := split_at em
          obtain ⟨hi, e⟩ := List.getElem?_eq_some_iff.mp em
          rw [List.drop_eq_getElem_cons hi, e]; simp)
        have hnd' : m ∉ (namesOf M ++ [n]).drop (i + 1) ∧ m ∉ (namesOf M ++ [n]).take i := by
          have e := split_at em
          have nd2 := ndn
          rw [e] at nd2
          have h3 := List.nodup_append.mp nd2
          exact ⟨(List.nodup_cons.mp h3.2.1).1, fun z' => h3.2.2 m z' m (by simp) rfl⟩
        have hsub : ∀ x ∈ (namesOf M ++ [n]).drop (i + 1), x ∈ (namesOf M ++ [n]).drop i := fun x hx => by
          obtain ⟨hi, e⟩ := List.getElem?_eq_some_iff.mp em
          rw [List.drop_eq_getElem_cons hi]
          exact List.mem_cons_of_mem _ hx
        obtain ⟨oo, g1, e1⟩ := nk_get hnd5 (g m)
        refine ⟨_, rfl, _, rfl, a, _, rfl, cK_get hda5 hmM, _, rfl, nd, _, rfl, g1, _, rfl, ?_⟩
        rw [e1]
        have jm : joinF (hd (nearR (M ++ [(n, p)]) (z : Int)) (namesOf M)) n ns (minS n ns) m = if g m ∈ ns then minS n ns else g m := by
          rw [gm]
          unfold joinF updf
          by_cases e : m = n
          · rw [if_pos e, if_pos e]
            split <;> rfl
          · rw [if_neg e, if_neg e]
        refine ite2 (fun c => ?_) (fun c => ?_)
        · have c' : g m ∈ ns := of_decide_eq_true c
          refine ⟨_, rfl, _, rfl, _, rfl, a, _, rfl, DPut.k (k := Sum.inr m) hda5 (by rw [cK_len, List.length_append]; exact small1000 (show _ + 1 ≤ 1000 by omega)), ?_⟩
          rw [cK_put hmM]
          refine ⟨_, updf g m (minS n ns), rfl, sx5.upd, upd_same, by rw [upd_ne and_.symm]; exact hnd5, by rw [upd_ne nal.symm]; exact hl5, fun x hx => ?_, fun x hx => ?_⟩
          · rw [take_snoc em] at hx
            rcases List.mem_append.mp hx with hx | hx
            · unfold updf
              rw [if_neg (fun e => hnd'.2 (by rw [← e]; exact hx))]
              exact h1 x hx
            · rw [List.mem_singleton.mp hx, jm, if_pos c']
              unfold updf
              rw [if_pos rfl]
          · have := h2 x (hsub x hx)
            rw [← this]
            show (if x = m then _ else _) = _
            rw [if_neg (fun e => hnd'.1 (by rw [← e]; exact hx))]
        · have c' : ¬ g m ∈ ns := fun z' => c (decide_eq_true z')
          refine ⟨_, g, rfl, sx5, hda5, hnd5, hl5, fun x hx => ?_, fun x hx => h2 x (hsub x hx)⟩
          rw [take_snoc em] at hx
          rcases List.mem_append.mp hx with hx | hx
          · exact h1 x hx
          · rw [List.mem_singleton.mp hx, jm, if_neg c']
      · rintro σ H5 ⟨x6, g, rfl, sx5, hda5, hnd5, hl5, h1, h2⟩
        rw [List.length_map, List.take_length] at h1
        have e5 : cK (namesOf M ++ [n]) g = hdF (M ++ [(n, p)]) z := by
          unfold hdF
          rw [eN]
          exact cK_congr fun m hm => (h1 m hm).trans (hjoin m hm)
        rw [e5] at hda5
        exact q H5 (sx5.d (List.mem_of_getElem? ha)) (hm.x ha sx5 hda5)

def sp_Map_put (C CN CP : Addr) : Sp := fun vs H Q E => ∃ (R : MapR) (M : PM) (v u : V), vs = [.ref R.m, v, u] ∧ MapAt C H R M ∧ Dat H v ∧ (∀ x, v = .str x → x.length ≤ 1000) ∧ PD H u ∧
  ((∃ n p, v = .str n ∧ nameS n = true ∧ n ∉ namesOf M ∧ M.length < 60 ∧ PtAt H u p ∧ PtOk p ∧ ∀ H', SameD R.foot H H' → MapAt C H' R (M ++ [(n, p)]) → Q .non H') ∨
   ((isName v = false ∨ (∃ n ∈ namesOf M, v = .str n) ∨ 60 ≤ M.length) ∧ ∀ H', Same H H' → E (.ref CN) none H') ∨
   (∃ n, v = .str n ∧ nameS n = true ∧ n ∉ namesOf M ∧ M.length < 60 ∧ isPoint H u = false ∧ ∀ H', Same H H' → E (.ref CP) none H'))
theorem ok_Map_put (T : Tx K mg) : FnOk P w K mg base (L2N.CX P w) 3 T.f_Map_put T.d_Map_put ["self", "name", "point"] (sp_Map_put T.C_Map T.C_BadName T.C_BadPoint) := by
  refine okN T.F_Map_put sc_Map_put (fun vs H Q E h => ?_) (fun cdv A outer s H vs Q E hr h => ?_)
  · obtain ⟨R, M, v, u, rfl, _⟩ := h
    rfl
  · obtain ⟨R, M, v, u, rfl, hm, dv, hl, du, k⟩ := h
    refine ⟨_, (pss_cons (ps_expr (pe_call (ok_need_name T) (hr.mono (by decide)) (by rfl) T.g_need_name T.F_need_name.kp T.b_need_name .nil (L2N.passes_call (L2N.takes_of rfl rfl rfl rfl) (fun _ _ _ _ h => h)) (pa_cons (pv 1) pa_nil)))
      (pss_cons (ps_if (PW.pt (pw_or (pt_cmp (pc_din (hu_of hr) (pv 1) (pe_fld (pv 0) rfl))) (pw_or1 (pt_cmpR op_ge (pe_callB call_lenD (by rfl) T.n_len (by decide +kernel) (pa_cons (pe_fld (pv 0) rfl) pa_nil)) (pe_glob (v := .int 60) (by rfl) T.g_MOST_MARKS ⟨_, rfl⟩) (nomark _))))) (pss_one (L2N.ps_raise rfl (L2N.takes_of rfl rfl rfl rfl) (L2N.pmk_own PySem.F.excBase_ValueError T.x_BadName T.g_BadName T.k_BadName (raises_own T.e_BadName T.t_BadName) (by rfl)))) pss_nil)
      (pss_cons (ps_expr (pe_call (ok_need_point T) (hr.mono (by decide)) (by rfl) T.g_need_point T.F_need_point.kp T.b_need_point .nil (L2N.passes_call (L2N.takes_of rfl rfl rfl rfl) (fun _ _ _ _ h => h)) (pa_cons (pv 2) pa_nil)))
      (pss_cons (ps_dput (hu_of hr) (pe_fld (pv 0) rfl) (pv 1) (pv 2) rfl)
      (pss_one (ps_for (passes_of rfl) (by rfl) (pi_range1 (by rfl) T.n_range (pa_cons (pe_op op_add (pe_glob (v := .int 13) (by rfl) T.g_MOST_SIZE ⟨_, rfl⟩) pe_int) pa_nil)) (pg_name (i := 3) sc_Map_put.nd rfl (Or.inl rfl))
      (pss_one (ps_expr (pe_meth (pv 0) T.c_Map T.q_Map_join (ok_Map_join T) (hr.mono (by decide)) T.b_Map_join .nil pass0 (pa_cons (pv 1) (pa_cons (pv 3) pa_nil))))))))))), ?_⟩
    refine ⟨_, rfl, v, rfl, dv, hl, ?_⟩
    have lenK : ∀ {H1 : Hp} {kvs : List (Key × V)}, KvAt H1 kvs M → kvs.length = M.length := fun kv => kv.len
    rcases k with ⟨n, p, rfl, hn, nn, lm, pu, po, q⟩ | ⟨hb, q⟩ | ⟨n, rfl, hn, nn, lm, pu, q⟩
    · refine .inl ⟨hn, fun H1 s1 => ?_⟩
      have hm1 := hm.same s1
      obtain ⟨kvs, hp, kv, pa⟩ := hm1.ptsAt
      refine ⟨_, rfl, _, rfl, R.m, _, _, _, _, rfl, hm1.ins, T.c_Map, T.nA_Map_points, rfl, R.pd, _, rfl, pa.miss nn, _, rfl, iteF ?_⟩
      refine ⟨_, rfl, R.m, _, _, _, _, rfl, hm1.ins, T.c_Map, T.nA_Map_points, rfl, ?_⟩
      refine ⟨R.pd, kvs, rfl, hp, _, _, rfl, rfl, _, rfl, iteF' (decide_eq_false (by rw [kv.len]; omega)) ?_⟩
      have pu1 := pu.same s1
      refine ⟨_, rfl, u, rfl, pu1.pd.1, pu1.pd.2, .inl ⟨isPoint_of pu1 po, fun H2 s2 => ?_⟩⟩
      have hm2 := hm1.same s2
      obtain ⟨kvs, hp, kv, pa⟩ := hm2.ptsAt
      refine ⟨_, rfl, _, rfl, R.m, _, _, _, _, rfl, hm2.ins, T.c_Map, T.nA_Map_points, rfl, _, rfl, R.pd, _, rfl, DPut.k (k := Sum.inr n) hp (kvAt_lt kv hm2.ok.len), ?_⟩
      have hm3 := hm2.addPt hp kv (pu1.same s2) hn nn lm po
      have sd : SameD R.foot H (upd H2 R.pd (.dK (putK kvs (Sum.inr n) u))) := SameD.upd (s1.trans s2).d (List.mem_cons_self ..)
      generalize upd H2 R.pd (.dK (putK kvs (Sum.inr n) u)) = H3 at hm3 sd ⊢
      refine ⟨_, _, rfl, rfl, _, rfl, by decide, by decide, for_enum enum_range (fun i σ H' => ∃ x3, σ = [some (.ref R.m), some (.str n), some u, x3] ∧ SameD R.foot H H' ∧ MapG T.C_Map H' R (M ++ [(n, p)]) (fun t => if t < i then hdF (M ++ [(n, p)]) t else hdF M t)) ⟨none, rfl, sd, hm3.congr fun t _ => by rw [if_neg (Nat.not_lt_zero t)]⟩ (fun _ _ _ _ _ => trivial) ?_ ?_⟩
      · rintro i x σ H4 hx ⟨x3, rfl, sd4, hm4⟩
        obtain ⟨hi, rfl⟩ := rangeV_some hx
        have hi' : i < 14 := hi
        refine ⟨_, rfl, R.m, _, _, rfl, hm4.ins, rfl, _, rfl, _, rfl, R, M, _, n, p, i, by rw [Int.zero_add]; rfl, hi', nn, hm4, by rw [if_neg (Nat.lt_irrefl i)], fun H5 s5 hm5 => ?_⟩
        refine ⟨_, rfl, sd4.trans (s5.mono fun b hb => List.mem_cons_of_mem _ hb), hm5.congr fun t _ => ?_⟩
        by_cases e : t = i
        · rw [if_pos e, if_pos (by omega), e]
        · rw [if_neg e]
          by_cases e2 : t < i
          · rw [if_pos e2, if_pos (by omega)]
          · rw [if_neg e2, if_neg (by omega)]
      · rintro σ H4 ⟨x3, rfl, sd4, hm4⟩
        exact q H4 sd4 (hm4.congr fun t ht => by rw [rangeV_len]; exact if_pos ht)
    · cases e : isName v with
      | false => exact .inr ⟨rfl, fun H1 s1 => q H1 s1⟩
      | true =>
        refine .inl ⟨rfl, fun H1 s1 => ?_⟩
        have hm1 := hm.same s1
        obtain ⟨kvs, hp, kv, pa⟩ := hm1.ptsAt
        obtain ⟨n, rfl⟩ : ∃ n, v = .str n := by
          cases v <;> first | exact ⟨_, rfl⟩ | (simp [isName] at e)
        by_cases hn : n ∈ namesOf M
        · obtain ⟨w, g, _⟩ := pa.get hn
          exact ⟨_, rfl, _, rfl, R.m, _, _, _, _, rfl, hm1.ins, T.c_Map, T.nA_Map_points, rfl, R.pd, _, rfl, g, _, rfl, iteT (q H1 s1)⟩
        · have lm : 60 ≤ M.length := by
            rcases hb with h | ⟨m, hm', h⟩ | h
            · rw [h] at e; cases e
            · injection h with h
              rw [h] at hn
              exact absurd hm' hn
            · exact h
          refine ⟨_, rfl, _, rfl, R.m, _, _, _, _, rfl, hm1.ins, T.c_Map, T.nA_Map_points, rfl, R.pd, _, rfl, pa.miss hn, _, rfl, iteF ?_⟩
          refine ⟨_, rfl, R.m, _, _, _, _, rfl, hm1.ins, T.c_Map, T.nA_Map_points, rfl, ?_⟩
          exact ⟨R.pd, kvs, rfl, hp, _, _, rfl, rfl, _, rfl, iteT' (decide_eq_true (by rw [kv.len]; omega)) (q H1 s1)⟩
    · refine .inl ⟨hn, fun H1 s1 => ?_⟩
      have hm1 := hm.same s1
      obtain ⟨kvs, hp, kv, pa⟩ := hm1.ptsAt
      refine ⟨_, rfl, _, rfl, R.m, _, _, _, _, rfl, hm1.ins, T.c_Map, T.nA_Map_points, rfl, R.pd, _, rfl, pa.miss nn, _, rfl, iteF ?_⟩
      refine ⟨_, rfl, R.m, _, _, _, _, rfl, hm1.ins, T.c_Map, T.nA_Map_points, rfl, ?_⟩
      refine ⟨R.pd, kvs, rfl, hp, _, _, rfl, rfl, _, rfl, iteF' (decide_eq_false (by rw [kv.len]; omega)) ?_⟩
      have du1 := du.same s1
      exact ⟨_, rfl, u, rfl, du1.1, du1.2, .inr ⟨(isPoint_same du s1).trans pu, fun H2 s2 => q H2 (s1.trans s2)⟩⟩

def sp_Map_drop (C CN : Addr) : Sp := fun vs H Q E => ∃ (R : MapR) (M : PM) (v : V), vs = [.ref R.m, v] ∧ MapAt C H R M ∧ Dat H v ∧ (∀ x, v = .str x → x.length ≤ 1000) ∧
  ((∃ n, v = .str n ∧ n ∈ namesOf M ∧ ∀ H', SameD R.foot H H' → MapAt C H' R (dropP M n) → Q .non H') ∨ ((∀ n, v = .str n → n ∉ namesOf M) ∧ ∀ H', Same H H' → E (.ref CN) none H'))
theorem ok_Map_drop (T : Tx K mg) : FnOk P w K mg base (L2N.CX P w) 4 T.f_Map_drop T.d_Map_drop ["self", "name"] (sp_Map_drop T.C_Map T.C_BadName) := by
  refine okN T.F_Map_drop sc_Map_drop (fun vs H Q E h => ?_) (fun cdv A outer s H vs Q E hr h => ?_)
  · obtain ⟨R, M, v, rfl, _⟩ := h
    rfl
  · obtain ⟨R, M, v, rfl, hm, dv, hl, k⟩ := h
    refine ⟨_, (pss_cons (ps_expr (pe_meth (pv 0) T.c_Map T.q_Map_point (ok_Map_point T) (hr.mono (by decide)) T.b_Map_point .nil (L2N.passes_call (L2N.takes_of rfl rfl rfl rfl) (fun _ _ _ _ h => h)) (pa_cons (pv 1) pa_nil)))
      (pss_cons (ps_expr (pe_dpop1 (pe_fld (pv 0) rfl) (pv 1) ⟨rfl, rfl, rfl, rfl⟩))
      (pss_one (ps_for (passes_of rfl) (by rfl) (pi_range1 (by rfl) T.n_range (pa_cons (pe_op op_add (pe_glob (v := .int 13) (by rfl) T.g_MOST_SIZE ⟨_, rfl⟩) pe_int) pa_nil)) (pg_name (i := 2) sc_Map_drop.nd rfl (Or.inl rfl))
      (pss_cons (ps_set (i := 3) sc_Map_drop.nd rfl (Or.inr rfl) (pe_ix ix_list (pe_fld (pv 0) rfl) (pv 2) (fun _ _ => rfl)))
      (pss_cons (ps_set (i := 4) sc_Map_drop.nd rfl (Or.inr rfl) (pe_dpop1 (pv 3) (pv 1) ⟨rfl, rfl, rfl, rfl⟩))
      (pss_cons (ps_set (i := 5) sc_Map_drop.nd rfl (Or.inl rfl) (pe_callTy (call_dictP rfl) (by rfl) T.n_dict (by decide +kernel) (pa_cons (pe_lockR (pe_lc (own := [("other", 6)]) (g := gName 6)  (by rfl) sc_Map_drop.nd (pi_keys (pv 3)) (blkOk_by (own := [("other", 6)]) (N := ["self", "name", "size", "heads", "head", "some", "other", "row"]) (sc := defScope s_Map_drop) (by decide +kernel)) (fun _ _ _ _ _ => (pg_name (i := 6) sc_Map_drop.nd rfl (Or.inl rfl))) (fun _ _ _ _ _ => (pts_one (pt_cmpR op_eq (pe_dget (hu_of hr) (pv 3) (pv 6) (fun _ _ => rfl)) (pv 4) (nomark _)))) (fun _ _ _ _ _ => (pe_tup (pa_cons (pv 6) (pa_cons (pe_dget (hu_of hr) (pe_fldK (K := K) rfl (pv 0) rfl) (pv 6) (fun _ _ => rfl)) pa_nil)))))) pa_nil)))
      (pss_one (ps_for (passes_of rfl) (by rfl) (pi_list (pe_call (ok_heaps_of T) (hr.mono (by decide)) (by rfl) T.g_heaps_of T.F_heaps_of.kp T.b_heaps_of .nil pass0 (pa_cons (pv 5) (pa_cons (pv 2) pa_nil)))) (pg_name (i := 7) sc_Map_drop.nd rfl (Or.inl rfl))
      (pss_one (ps_for (passes_of rfl) (by rfl) (pi_tup (pv 7)) (pg_name (i := 6) sc_Map_drop.nd rfl (Or.inl rfl))
      (pss_one (ps_dput (hu_of hr) (pv 3) (pv 6) (pe_ix ix_tup (pv 7) pe_int (fun _ _ => rfl)) rfl))))))))))))), ?_⟩
    refine ⟨_, rfl, R.m, _, _, rfl, hm.ins, rfl, _, rfl, R, M, v, rfl, hm, dv, hl, ?_⟩
    rcases k with ⟨n, rfl, hnM, q⟩ | ⟨h1, q⟩
    rotate_left
    · exact .inr ⟨h1, fun H1 s1 => q H1 s1⟩
    refine .inl ⟨n, rfl, hnM, fun _ H1 s1 _ => ?_⟩
    have hm1 := hm.same s1
    obtain ⟨kvs, hp, kv, pa⟩ := hm1.ptsAt
    obtain ⟨w, ew, pw⟩ := kv.get hnM
    have ndM := hm.ok.nodup
    have lenN := hm.ok.lenN
    refine ⟨_, rfl, R.m, _, _, _, _, rfl, hm1.ins, T.c_Map, T.nA_Map_points, rfl, R.pd, rfl, .inl ⟨kvs, .inl hp⟩, _, rfl, kvs, Sum.inr n, w, hp, rfl, ew, ?_⟩
    have hm2 : MapG T.C_Map _ R (dropP M n) (hdF M) := hm1.delPt (n := n) hp kv
    have sd : SameD R.foot H (upd H1 R.pd (.dK (dropK kvs (Sum.inr n)))) := SameD.upd s1.d (List.mem_cons_self ..)
    generalize upd H1 R.pd (.dK (dropK kvs (Sum.inr n))) = H2 at hm2 sd ⊢
    clear hp kv pa ew pw hm1 s1
    refine ⟨_, _, rfl, rfl, _, rfl, by decide, by decide, for_enum enum_range (fun i σ H' => ∃ x2 x3 x4 x5 x6 x7, σ = [some (.ref R.m), some (.str n), x2, x3, x4, x5, x6, x7] ∧ SameD R.foot H H' ∧ MapG T.C_Map H' R (dropP M n) (fun t => if t < i then hdF (dropP M n) t else hdF M t)) ⟨none, none, none, none, none, none, rfl, sd, hm2.congr fun t _ => by rw [if_neg (Nat.not_lt_zero t)]⟩ (fun _ _ _ _ _ => trivial) ?_ ?_⟩
    rotate_left
    · rintro σ H4 ⟨x2, x3, x4, x5, x6, x7, rfl, sd4, hm4⟩
      exact q H4 sd4 (hm4.congr fun t ht => by rw [rangeV_len]; exact if_pos ht)
    clear sd hm2
    rintro z x σ H2 hx ⟨x2, x3, x4, x5, x6, x7, rfl, sd, hm2⟩
    obtain ⟨hz, rfl⟩ := rangeV_some hx
    have hz' : z < 14 := hz
    obtain ⟨a, ha, haf, hda⟩ := hm2.at hz'
    rw [if_neg (Nat.lt_irrefl z)] at hda
    -- heads, head
    refine ⟨_, rfl, R.m, _, _, _, _, rfl, hm2.ins, T.c_Map, T.nA_Map_heads, rfl, _, rfl, R.hl, _, _, .ref a, rfl, rfl, sqL hm2.lst, at_of (j := z) (Int.zero_add _) (mapRef_at ha), ?_⟩
    refine ⟨_, rfl, a, rfl, .inl ⟨_, .inl hda⟩, _, rfl, _, Sum.inr n, _, hda, rfl, cK_val hnM, ?_⟩
    rw [show dropK (hdF M z) (Sum.inr n) = cK ((namesOf M).filter fun m => decide (m ≠ n)) (hd (nearR M z) (namesOf M)) from cK_drop _]
    have hm3 := hm2.put ha (cK ((namesOf M).filter fun m => decide (m ≠ n)) (hd (nearR M z) (namesOf M)))
    have hda3 := upd_same (H := H2) (a := a) (o := .dK (cK ((namesOf M).filter fun m => decide (m ≠ n)) (hd (nearR M z) (namesOf M))))
    have sd3 : SameD R.foot H (upd H2 a (.dK (cK ((namesOf M).filter fun m => decide (m ≠ n)) (hd (nearR M z) (namesOf M))))) := sd.upd haf
    generalize upd H2 a (.dK (cK ((namesOf M).filter fun m => decide (m ≠ n)) (hd (nearR M z) (namesOf M)))) = H3 at hm3 hda3 sd3 ⊢
    clear hda sd hm2
    have eL : namesOf (dropP M n) = (namesOf M).filter fun m => decide (m ≠ n) := dropP_names M n
    have okD := hm.ok.drop n
    generalize hL' : (namesOf M).filter (fun m => decide (m ≠ n)) = L' at hm3 hda3 sd3 eL ⊢
    have ndL : L'.Nodup := by rw [← eL]; exact okD.nodup
    have lenL : L'.length ≤ 60 := by rw [← eL]; exact okD.lenN
    have ek : (cK L' (hd (nearR M z) (namesOf M))).map (fun kv => kV kv.1) = L'.map V.str := keys_at (cK_keys _ _)
    obtain ⟨kvs, hp, kv, pa⟩ := hm3.ptsAt
    have apd : R.pd ≠ a := fun e => (List.nodup_cons.mp hm.nodup).1 (by rw [e]; exact List.mem_of_getElem? ha)
    -- some = dict([..])
    refine ⟨a, .dK (cK L' (hd (nearR M z) (namesOf M))), _, hda3, .inl rfl, trivial, fun od => ⟨_, rfl, a, od, rfl, .inl ⟨_, upd_same, lc_rel enum_keys (strP fun m => decide (hd (nearR M z) (namesOf M) m = hd (nearR M z) (namesOf M) n)) (fun x y H' => ∃ o t v, x = .str o ∧ y = .ref t ∧ H' t = some (.tup [.str o, v]) ∧ PtAt H' v (ptOf (dropP M n) o)) (fun D H' nD s => s _ _ (ne_of_none upd_same nD) upd_same) ?_ ?_ ?_ ?_⟩⟩⟩
    · rw [ek, List.length_map]; exact small1000 (by omega)
    · rintro x y Ha Hb D nD ⟨o, t, v, rfl, rfl, ht, a', rfl, ha'⟩ keep ⟨l, hl⟩
      exact ⟨o, t, _, rfl, rfl, keep _ _ ht (ne_of ht hl (by intro e; cases e)), a', rfl, keep _ _ ha' (ne_of ha' hl (by intro e; cases e))⟩
    · intro i v H4 Cy Cn ev s4 h1 h2
      rw [ek] at ev
      obtain ⟨o, rfl, ho, _⟩ := str_at ev
      have sx : SameX a H3 H4 := (SameX.upd sameX_refl).same s4
      have pa4 : PtsAt H4 R.pd (.dK kvs) (dropP M n) := ⟨sx _ _ apd hp, kvs, .inl rfl, kv.x hda3 (fun xs e => by cases e) sx⟩
      have gf : DGet H4 a (.str o) (some (.str (hd (nearR M z) (namesOf M) o))) := .inl ⟨_, .inr o, .inr ⟨od, s4 _ _ upd_same⟩, rfl, (cK_val ho).symm⟩
      refine ⟨_, rfl, _, rfl, a, _, rfl, gf, _, rfl, rfl, _, rfl, ?_⟩
      rw [str_eq]
      refine ite2 (fun c => ?_) (fun c => ?_)
      · obtain ⟨v2, g2, p2⟩ := pa4.get (n := o) (by rw [eL]; exact ho)
        have hins : H4 R.m = _ := sx _ _ (ne_of hm3.ins hda3 (by intro e; cases e)) hm3.ins
        exact ⟨_, rfl, _, rfl, R.m, _, _, _, _, rfl, hins, T.c_Map, T.nA_Map_points, rfl, _, rfl, R.pd, v2, rfl, g2, (by show 2 ≤ sizeLine; decide), fun t nt => h1 _ _ (same_upd nt) c ⟨o, t, v2, rfl, rfl, upd_same, p2.same (same_upd nt)⟩⟩
      · exact h2 H4 (Same.refl _) (Bool.eq_false_iff.mpr c)
    intro D H4 ys nD s4 hD pr
    refine ⟨s4 _ _ upd_same, ?_⟩
    rw [ek, strP_filter] at pr
    obtain ⟨ts, rfl, hw⟩ := pairs_marks pr
    have hfr := s4 _ _ (upd_same (H := H3) (a := a) (o := .frz od (.dK (cK L' (hd (nearR M z) (namesOf M))))))
    have nDa : D ≠ a := fun e => by rw [e, upd_same] at nD; cases nD
    have s5 : Same H3 (upd H4 a (.dK (cK L' (hd (nearR M z) (namesOf M))))) := same_unlock hda3 s4
    have kt5 : KeepT H4 (upd H4 a (.dK (cK L' (hd (nearR M z) (namesOf M))))) := keepT_upd hfr (fun xs e => by cases e)
    generalize hS : L'.filter (fun m => decide (hd (nearR M z) (namesOf M) m = hd (nearR M z) (namesOf M) n)) = S at hw
    obtain ⟨kvS, w1, w2, w3⟩ := marks_kv (K := K) kt5 hw
    have ndS : S.Nodup := by rw [← hS]; exact ndL.filter _
    have subS : ∀ m ∈ S, m ∈ L' := fun m hm' => by rw [← hS] at hm'; exact (List.mem_filter.mp hm').1
    refine ⟨D, ts, kvS, rfl, sqL (by rw [upd_ne nDa]; exact hD), w1, fun sdc nsd => ?_⟩
    rw [merge_nil (by rw [w2]; exact nodup_inr ndS)]
    have eMs : (dropP M n).filter (fun p => decide (hd (nearR M z) (namesOf M) p.1 = hd (nearR M z) (namesOf M) n)) = S.map fun m => (m, ptOf (dropP M n) m) := by
      have := filter_names okD.nodup (fun m => decide (hd (nearR M z) (namesOf M) m = hd (nearR M z) (namesOf M) n))
      rw [eL, hS] at this
      exact this
    have okS : PMOk (S.map fun m => (m, ptOf (dropP M n) m)) := by rw [← eMs]; exact okD.filter _
    have t6 := same_upd (o := .dK kvS) nsd
    have hm6 := (hm3.same s5).same t6
    have hda6 := t6 _ _ (s5 _ _ hda3)
    have w6 := w3.keepT t6.keepT
    have hsd6 := upd_same (H := upd H4 a (.dK (cK L' (hd (nearR M z) (namesOf M))))) (a := sdc) (o := .dK kvS)
    have sd6 : SameD R.foot H (upd (upd H4 a (.dK (cK L' (hd (nearR M z) (namesOf M))))) sdc (.dK kvS)) := sd3.trans (s5.trans t6).d
    generalize upd (upd H4 a (.dK (cK L' (hd (nearR M z) (namesOf M))))) sdc (.dK kvS) = H6 at hm6 hda6 w6 hsd6 sd6 ⊢
    clear t6 s5 kt5 w1 w3 hw pr hfr s4 hD nD nsd hda3 sd3 hm3 hp kv pa
    -- heaps_of(some, size)
    refine ⟨_, rfl, _, rfl, sdc, _, .dK kvS, S.map fun m => (m, ptOf (dropP M n) m), rfl, ⟨hsd6, kvS, .inl rfl, w6⟩, okS, by omega, by omega, fun rw_ ts2 H7 s7 nrw hrw hrows => ?_⟩
    rw [names_pairs, Int.zero_add] at hrows
    have hm7 := hm6.same s7
    have hda7 := s7 _ _ hda6
    have sd7 := sd6.trans s7.d
    have hR := nearR_symm M (z : Int)
    have eR : ∀ m, hd (nearR (S.map fun m => (m, ptOf (dropP M n) m)) z) S m = hd (nearR M z) S m := fun m => hd_congr (fun x hx y hy => by
      have e1 : nearR (S.map fun m => (m, ptOf (dropP M n) m)) z x y = nearR (dropP M n) z x y := by
        rw [← eMs]
        exact near_filter okD.nodup x (by rw [eMs, names_pairs]; exact hx) y (by rw [eMs, names_pairs]; exact hy)
      rw [e1]
      exact near_filter ndM x (by show x ∈ namesOf (dropP M n); rw [eL]; exact subS x hx) y (by show y ∈ namesOf (dropP M n); rw [eL]; exact subS y hy)) m
    have hfl := rows_flat (R := nearR (S.map fun m => (m, ptOf (dropP M n) m)) z) (nearR_symm _ _) ndS
    generalize nearR (S.map fun m => (m, ptOf (dropP M n) m)) z = Rs at hrows eR hfl
    clear hm6 hda6 w6 hsd6 sd6 s7
    refine ⟨rw_, rfl, ⟨_, sqL hrw⟩, for_enum (enum_list (xs := ts2.map V.ref)) (fun i σ H' => ∃ x6 x7 g, σ = [some (.ref R.m), some (.str n), some (.int (0 + (z : Int))), some (.ref a), some (.str (hd (nearR M z) (namesOf M) n)), some (.ref sdc), x6, x7] ∧ SameX a H7 H' ∧ H' a = some (.dK (cK L' g)) ∧ ∀ m ∈ L', g m = if m ∈ ((rowsOf Rs S).take i).flatten then hd Rs S m else hd (nearR M z) (namesOf M) m) ⟨_, _, _, rfl, sameX_refl, hda7, fun m _ => by simp⟩ (fun _ _ _ _ h => by obtain ⟨_, _, _, _, s, _⟩ := h; exact sqL (s _ _ (ne_of hrw hda7 (by intro e; cases e)) hrw)) ?_ ?_⟩
    · rintro i v σ H8 ev ⟨x6, x7, g, rfl, sx8, hda8, hg⟩
      obtain ⟨t, r, rfl, er, ht⟩ := hrows.at ev
      have ht8 := sx8 _ _ (ne_of ht hda7 (by intro e; cases e)) ht
      obtain ⟨x, tl, e0, hrm⟩ := row_at ndS (List.mem_of_getElem? er)
      refine ⟨_, rfl, t, rfl, ⟨_, sqT ht8⟩, for_enum (enum_tup (xs := r.map V.str)) (fun j σ H' => ∃ x6 g, σ = [some (.ref R.m), some (.str n), some (.int (0 + (z : Int))), some (.ref a), some (.str (hd (nearR M z) (namesOf M) n)), some (.ref sdc), x6, some (.ref t)] ∧ SameX a H7 H' ∧ H' a = some (.dK (cK L' g)) ∧ ∀ m ∈ L', g m = if m ∈ ((rowsOf Rs S).take i).flatten ++ r.take j then hd Rs S m else hd (nearR M z) (namesOf M) m) ⟨_, g, rfl, sx8, hda8, fun m hm' => by rw [hg m hm']; simp⟩ (fun _ _ _ _ h => by obtain ⟨_, _, _, s, _⟩ := h; exact sqT (s _ _ (ne_of ht hda7 (by intro e; cases e)) ht)) ?_ ?_⟩
      · rintro j v σ H9 ev2 ⟨x6, g, rfl, sx9, hda9, hg9⟩
        obtain ⟨o, rfl, ho, eo⟩ := str_at ev2
        have ht9 := sx9 _ _ (ne_of ht hda7 (by intro e; cases e)) ht
        have hoS := hrm o ho
        have hoL := subS o hoS.1
        refine ⟨_, rfl, t, _, _, .str x, rfl, rfl, sqT ht9, atI_nat (j := 0) (by rw [e0]; rfl), _, rfl, _, rfl, a, _, rfl, DPut.k (k := Sum.inr o) hda9 (by rw [cK_len]; exact small1000 (by omega)), ?_⟩
        rw [cK_put hoL]
        refine ⟨_, updf g o x, rfl, sx9.upd, upd_same, fun m hm' => ?_⟩
        rw [take_snoc eo]
        unfold updf
        by_cases e : m = o
        · rw [if_pos e, e, if_pos (by simp), hoS.2]
        · rw [if_neg e, hg9 m hm']
          have : m ∈ ((rowsOf Rs S).take i).flatten ++ (r.take j ++ [o]) ↔ m ∈ ((rowsOf Rs S).take i).flatten ++ r.take j := by simp [e]
          by_cases c : m ∈ ((rowsOf Rs S).take i).flatten ++ r.take j
          · rw [if_pos c, if_pos (this.mpr c)]
          · rw [if_neg c, if_neg (fun z' => c (this.mp z'))]
      · rintro σ H9 ⟨x6, g, rfl, sx9, hda9, hg9⟩
        refine ⟨_, _, g, rfl, sx9, hda9, fun m hm' => ?_⟩
        rw [hg9 m hm', List.length_map, List.take_length, List.take_add_one, er, List.flatten_append]
        simp
    · rintro σ H8 ⟨x6, x7, g, rfl, sx8, hda8, hg⟩
      rw [List.length_map, paired_len hrows, List.take_length] at hg
      have e8 : cK L' g = hdF (dropP M n) z := by
        unfold hdF
        rw [eL]
        refine cK_congr fun m hm' => ?_
        have h9 := drop_hd (R := nearR M z) hR hnM m (by rw [hL']; exact hm')
        rw [hL', hS] at h9
        rw [hg m hm', eR m, hd_congr (R := nearR (dropP M n) z) (R' := nearR M z) (L := L') (fun x hx y hy => near_filter ndM x (by show x ∈ namesOf (dropP M n); rw [eL]; exact hx) y (by show y ∈ namesOf (dropP M n); rw [eL]; exact hy)) m, ← h9]
        by_cases c : m ∈ S
        · rw [if_pos c, if_pos (hfl.mem_iff.mpr c)]
        · rw [if_neg c, if_neg (fun z' => c (hfl.mem_iff.mp z'))]
      rw [e8] at hda8
      refine ⟨_, _, _, _, _, _, rfl, sd7.trans (sx8.d haf), (hm7.x ha sx8 hda8).congr fun t _ => ?_⟩
      by_cases e : t = z
      · rw [if_pos e, if_pos (by omega), e]
      · rw [if_neg e, if_neg e]
        by_cases e2 : t < z
        · rw [if_pos e2, if_pos (by omega)]
        · rw [if_neg e2, if_neg (by omega)]

def sp_Desk_stand (C CM : Addr) : Sp := fun vs H Q _ => ∃ (D : DeskR) (M : PM) (tg : Tg) (past ahead : List Stand), vs = [.ref D.dk] ∧ DeskAt C CM H D M tg past ahead ∧ ∀ (t : Addr) (fp : List Addr) (H' : Hp), Same H H' → StAt H' t (sortP M, tg) fp → (∀ b ∈ fp, H b = none) → H t = none → Q (.ref t) H'
theorem ok_Desk_stand (T : Tx K mg) : FnOk P w K mg base CX0 2 T.f_Desk_stand T.d_Desk_stand ["self"] (sp_Desk_stand T.C_Desk T.C_Map) := by
  refine T.F_Desk_stand.ok sc_Desk_stand (fun vs H Q E h => ?_) (fun cdv A outer s H vs Q E hr h => ?_)
  · obtain ⟨D, M, tg, past, ahead, rfl, _⟩ := h
    rfl
  · obtain ⟨D, M, tg, past, ahead, rfl, hd0, q⟩ := h
    refine ⟨_, (pss_one (ps_ret (pe_tup (pa_cons (pe_meth0 (pe_fld (pv 0) rfl) T.c_Map T.q_Map_marks (ok_Map_marks T) (hr.mono (by decide)) T.b_Map_marks .nil pass0 ) (pa_cons (pe_callTy (call_dictP rfl) (by rfl) T.n_dict (by decide +kernel) (pa_cons (pe_lockR (pe_lc (own := [("name", 1)]) (g := gName 1) (tt := tYes) (by rfl) sc_Desk_stand.nd (pi_keys (pe_fld (pv 0) rfl)) (blkOk_by (own := [("name", 1)]) (N := ["self", "name"]) (sc := defScope s_Desk_stand) (by decide +kernel)) (fun _ _ _ _ _ => (pg_name (i := 1) sc_Desk_stand.nd rfl (Or.inl rfl))) (fun _ _ _ _ _ => pts_nil) (fun _ _ _ _ _ => (pe_tup (pa_cons (pv 1) (pa_cons (pe_callTy (call_list_ofK (K := K) rfl) (by rfl) T.n_list (by decide +kernel) (pa_cons (pe_dget (hu_of hr) (pe_fldK (K := K) rfl (pv 0) rfl) (pv 1) (fun _ _ => rfl)) pa_nil)) pa_nil)))))) pa_nil)) pa_nil))))), ?_⟩
    refine ⟨_, rfl, D.dk, _, _, _, _, rfl, hd0.ins, T.c_Desk, T.nA_Desk_here, rfl, D.R.m, _, _, rfl, MapG.ins hd0.map, rfl, D.R, M, rfl, hd0.map, fun ml ts H1 s1 nml hml hw => ?_⟩
    have hd1 := hd0.same s1
    have ok := hd0.map.ok
    have lenT := hd0.tlen
    have ndT := hd0.tnd
    have lt := hd1.tgl.len
    have ek : (tgK tg D.tls).map (fun kv => kV kv.1) = (tg.map (·.1)).map V.str := keys_at (tgK_keys lt)
    have ekt : D.dk ≠ D.td := ne_of hd1.ins hd1.tgd (by intro e; cases e)
    refine ⟨D.td, .dK (tgK tg D.tls), _, hd1.tgd, .inl rfl, trivial, fun od => ⟨_, rfl, D.dk, _, _, _, _, rfl, (by rw [upd_ne ekt]; exact hd1.ins), T.c_Desk, T.nA_Desk_tags_of, rfl, D.td, od, rfl, .inl ⟨_, upd_same, lc_relD enum_keys (fun _ => true) (fun D' x y H' => ∃ n t l, x = V.str n ∧ y = V.ref t ∧ H' t = some (.tup [.str n, .ref l]) ∧ H' l = some (.lst ((tagOf tg n).map V.str)) ∧ H l = none ∧ t ≠ D' ∧ l ≠ D') (fun D' H' nD s => s _ _ (ne_of_none upd_same nD) upd_same) ?_ ?_ ?_ ?_⟩⟩⟩
    · rw [ek, List.length_map, List.length_map]; exact small1000 (by omega)
    · rintro D' x y Ha Hb nD ⟨n, t, l, rfl, rfl, h1, h2, h3, h4, h5⟩ s
      exact ⟨n, t, l, rfl, rfl, s _ _ h4 h1, s _ _ h5 h2, h3, h4, h5⟩
    · intro D' i x H2 Cy Cn nD hD ex s2 h1 _
      show if true = true then _ else Cn H2
      rw [if_pos rfl]
      rw [ek] at ex
      obtain ⟨n, rfl, hn, _⟩ := str_at ex
      obtain ⟨tl, htl, vt, hl⟩ := hd1.tgl.get hn
      have etd : tl ≠ D.td := ne_of hl hd1.tgd (by intro e; cases e)
      have hl2 := s2 _ _ (show upd H1 D.td (.frz od (.dK (tgK tg D.tls))) tl = _ by rw [upd_ne etd]; exact hl)
      have hi2 := s2 _ _ (show upd H1 D.td (.frz od (.dK (tgK tg D.tls))) D.dk = _ by rw [upd_ne ekt]; exact hd1.ins)
      have gf : DGet H2 D.td (.str n) (some (.ref tl)) := .inl ⟨_, .inr n, .inr ⟨od, s2 _ _ upd_same⟩, rfl, vt.symm⟩
      obtain ⟨acc, hD⟩ := hD
      refine ⟨_, rfl, _, rfl, D.dk, _, _, _, _, rfl, hi2, T.c_Desk, T.nA_Desk_tags_of, rfl, _, rfl, D.td, _, rfl, gf, tl, _, rfl, .inl (sqL hl2), fun l nl => ⟨(by show 2 ≤ sizeLine; decide), fun t nt => ?_⟩⟩
      have nl0 : H l = none := by
        have h3 := s2.free nl
        exact s1.free (none_of_upd h3)
      have sl := same_upd (o := .lst ((tagOf tg n).map V.str)) nl
      have nlD : l ≠ D' := fun e => by rw [e, hD] at nl; cases nl
      have ntD : t ≠ D' := fun e => by rw [e, sl _ _ hD] at nt; cases nt
      exact h1 _ _ (sl.trans (same_upd nt)) rfl ⟨n, t, l, rfl, rfl, upd_same, (same_upd nt) _ _ upd_same, nl0, ntD, nlD⟩
    intro D' H2 ys nD s2 hD pr
    rw [ek, List.filter_eq_self.mpr (fun _ _ => rfl)] at pr
    refine ⟨s2 _ _ upd_same, ?_⟩
    have s3 : Same H1 (upd H2 D.td (.dK (tgK tg D.tls))) := same_unlock hd1.tgd s2
    have hfz := s2 _ _ (upd_same (H := H1) (a := D.td) (o := .frz od (.dK (tgK tg D.tls))))
    have pr3 : Paired (fun x y => ∃ n t l, x = V.str n ∧ y = V.ref t ∧ upd H2 D.td (.dK (tgK tg D.tls)) t = some (.tup [.str n, .ref l]) ∧ upd H2 D.td (.dK (tgK tg D.tls)) l = some (.lst ((tagOf tg n).map V.str)) ∧ H l = none) ((tg.map (·.1)).map V.str) ys := Paired.mapP pr fun x y ⟨n, t, l, e1, e2, h1, h2, h3, _⟩ => ⟨n, t, l, e1, e2, by rw [upd_ne (ne_of h1 hfz (by intro e; cases e))]; exact h1, by rw [upd_ne (ne_of h2 hfz (by intro e; cases e))]; exact h2, h3⟩
    have nDt : D' ≠ D.td := ne_of hD hfz (by intro e; cases e)
    have hD3 : upd H2 D.td (.dK (tgK tg D.tls)) D' = some (.lst ys) := by rw [upd_ne nDt]; exact hD
    generalize upd H2 D.td (.dK (tgK tg D.tls)) = H3 at s3 pr3 hD3 ⊢
    obtain ⟨ts2, tls, rfl, w1, w2, w3⟩ := tag_pairs (K := K) (fun p hp => tagOf_mem ndT hp) pr3
    refine ⟨D', ts2, _, rfl, sqL hD3, w1, fun dd ndd => ?_⟩
    rw [merge_nil (by rw [tgK_keys w2.len]; exact nodup_inr ndT)]
    have s4 := same_upd (o := .dK (tgK tg tls)) ndd
    have hdd := upd_same (H := H3) (a := dd) (o := .dK (tgK tg tls))
    generalize upd H3 dd (.dK (tgK tg tls)) = H4 at s4 hdd ⊢
    refine ⟨(by show 2 ≤ sizeLine; decide), fun t nt => ?_⟩
    have s5 := same_upd (o := .tup [V.ref ml, .ref dd]) nt
    have s14 := (s1.trans s3).trans s4
    have pmP : (sortP M).Perm M := sortP_perm ok.nodup
    have okP : PMOk (sortP M) := ok.perm pmP.symm
    have nmP : namesOf (sortP M) = sortS (namesOf M) := names_pairs M _
    refine q t (ml :: dd :: tls) _ (s14.trans s5) ⟨ml, dd, ts, tls, upd_same, s5 _ _ (s4 _ _ (s3 _ _ hml)), ?_, s5 _ _ hdd, (w2.keep fun b _ o e => s5 b o (s4 b o e)), rfl⟩ ?_ (s14.free nt)
    · show MarksAt _ ts (namesOf (sortP M)) (sortP M)
      rw [nmP]
      refine marks_pt ((((hw.keepT s3.keepT).keepT s4.keepT).keepT s5.keepT)) fun n hn => ?_
      exact (ptOf_perm pmP okP.nodup (by rw [nmP]; exact hn)).symm
    · intro b hb
      rcases List.mem_cons.mp hb with e | hb
      · rw [e]; exact nml
      rcases List.mem_cons.mp hb with e | hb
      · rw [e]; exact (s1.trans s3).free ndd
      · exact w3 b hb

def sp_Desk_keep (C CM : Addr) : Sp := fun vs H Q _ => ∃ (D : DeskR) (M : PM) (tg : Tg) (past ahead : List Stand) (t : Addr) (st : Stand) (fp : List Addr), vs = [.ref D.dk, .ref t] ∧ DeskAt C CM H D M tg past ahead ∧ StAt H t st fp ∧ (∀ b ∈ fp, b ∉ D.own) ∧ past.length ≤ 900 ∧
  ∀ (ah : Addr) (H' : Hp), H ah = none → DeskTo H H' D { D with ps := D.ps ++ [(t, fp)], ah := ah, as := [] } → DeskAt C CM H' { D with ps := D.ps ++ [(t, fp)], ah := ah, as := [] } M tg (past ++ [st]) [] → Q .non H'
theorem ok_Desk_keep (T : Tx K mg) : FnOk P w K mg base CX0 1 T.f_Desk_keep T.d_Desk_keep ["self", "stand"] (sp_Desk_keep T.C_Desk T.C_Map) := by
  refine T.F_Desk_keep.ok sc_Desk_keep (fun vs H Q E h => ?_) (fun cdv A outer s H vs Q E hr h => ?_)
  · obtain ⟨D, M, tg, past, ahead, t, st, fp, rfl, _⟩ := h
    rfl
  · obtain ⟨D, M, tg, past, ahead, t, st, fp, rfl, hd0, hst, hfp, lp, q⟩ := h
    refine ⟨_, (pss_cons (ps_expr (pe_bm PySem.F.plainAttrs_list PySem.F.slot_list_append PySem.F.type_list_append mt_append (pe_fld (pv 0) rfl) (pa_cons (pv 1) pa_nil)))
      (pss_one (ps_fld (pv 0) (pe_lst pa_nil) rfl))), ?_⟩
    have lps : D.ps.length = past.length := paired_len hd0.psA
    refine ⟨_, rfl, D.dk, _, _, _, _, rfl, hd0.ins, T.c_Desk, T.nA_Desk_past, rfl, .inl ⟨rfl, _, sqL hd0.pst⟩, _, rfl, D.pa, _, _, rfl, rfl, hd0.pst, (by rw [List.length_map]; exact small1000 (by omega)), ?_⟩
    obtain ⟨h1, d1⟩ := hd0.setPast (ps' := D.ps ++ [(t, fp)]) (past' := past ++ [st]) (paired_snoc hd0.psA hst) (fun p hp b hb => by
      rcases List.mem_append.mp hp with hp | hp
      · exact hd0.sep p (List.mem_append_left _ hp) b hb
      · rw [List.mem_singleton.mp hp] at hb; exact hfp b hb)
    have e0 : ((D.ps ++ [(t, fp)]).map fun p => V.ref p.1) = (D.ps.map fun p => V.ref p.1) ++ [V.ref t] := by rw [List.map_append]; rfl
    rw [e0] at h1 d1
    generalize upd H D.pa (.lst ((D.ps.map fun p => V.ref p.1) ++ [V.ref t])) = H1 at h1 d1 ⊢
    refine ⟨Nat.zero_le _, fun ah nah => ?_⟩
    obtain ⟨h2, d2⟩ := h1.newAhead nah
    have hi := (same_upd (o := .lst []) nah) _ _ h1.ins
    refine ⟨_, rfl, D.dk, _, D.dx, _, rfl, hi, T.c_Desk, T.nA_Desk_ahead, by simp, ?_⟩
    have e1 : putF "ahead" (V.ref ah) [(("here" : Str), V.ref D.R.m), ("tags_of", V.ref D.td), ("past", V.ref D.pa), ("ahead", V.ref D.ah)] = [(("here" : Str), V.ref D.R.m), ("tags_of", V.ref D.td), ("past", V.ref D.pa), ("ahead", V.ref ah)] := rfl
    rw [e1]
    have nah0 : H ah = none := by
      cases e : H ah with
      | none => rfl
      | some o =>
        by_cases c : ah ∈ D.own
        · obtain ⟨o2, e2⟩ := h1.has ah c
          rw [nah] at e2; cases e2
        · rw [d1.keep ah o c e] at nah; cases nah
    exact q ah _ nah0 (d1.trans d2) h2

def sp_Desk_put (C CM CN CP : Addr) : Sp := fun vs H Q E => ∃ (D : DeskR) (M : PM) (tg : Tg) (past ahead : List Stand) (v u : V), vs = [.ref D.dk, v, u] ∧ DeskAt C CM H D M tg past ahead ∧ (tg.map (·.1)).Perm (namesOf M) ∧ past.length ≤ 900 ∧ Dat H v ∧ (∀ x, v = .str x → x.length ≤ 1000) ∧ PD H u ∧
  ((∃ n p, v = .str n ∧ nameS n = true ∧ n ∉ namesOf M ∧ M.length < 60 ∧ PtAt H u p ∧ PtOk p ∧ ∀ D' H', DeskTo H H' D D' → FpsNew H D D' → DeskAt C CM H' D' (M ++ [(n, p)]) (tg ++ [(n, [])]) (past ++ [(sortP M, tg)]) [] → Q .non H') ∨
   ((isName v = false ∨ (∃ n ∈ namesOf M, v = .str n) ∨ 60 ≤ M.length) ∧ ∀ H', Same H H' → E (.ref CN) none H') ∨
   (∃ n, v = .str n ∧ nameS n = true ∧ n ∉ namesOf M ∧ M.length < 60 ∧ isPoint H u = false ∧ ∀ H', Same H H' → E (.ref CP) none H'))
theorem ok_Desk_put (T : Tx K mg) : FnOk P w K mg base (L2N.CX P w) 4 T.f_Desk_put T.d_Desk_put ["self", "name", "point"] (sp_Desk_put T.C_Desk T.C_Map T.C_BadName T.C_BadPoint) := by
  refine okN T.F_Desk_put sc_Desk_put (fun vs H Q E h => ?_) (fun cdv A outer s H vs Q E hr h => ?_)
  · obtain ⟨D, M, tg, past, ahead, v, u, rfl, _⟩ := h
    rfl
  · obtain ⟨D, M, tg, past, ahead, v, u, rfl, hd0, tgn, lp, dv, lv, du, k⟩ := h
    refine ⟨_, (pss_cons (ps_set (i := 3) sc_Desk_put.nd rfl (Or.inl rfl) (pe_meth0 (pv 0) T.c_Desk T.q_Desk_stand (ok_Desk_stand T) (hr.mono (by decide)) T.b_Desk_stand .nil pass0 ))
      (pss_cons (ps_expr (pe_meth (pe_fld (pv 0) rfl) T.c_Map T.q_Map_put (ok_Map_put T) (hr.mono (by decide)) T.b_Map_put .nil (L2N.passes_call (L2N.takes_of rfl rfl rfl rfl) (fun _ _ _ _ h => h)) (pa_cons (pv 1) (pa_cons (pv 2) pa_nil))))
      (pss_cons (ps_dput (hu_of hr) (pe_fld (pv 0) rfl) (pv 1) (pe_lst pa_nil) rfl)
      (pss_one (ps_expr (pe_meth (pv 0) T.c_Desk T.q_Desk_keep (ok_Desk_keep T) (hr.mono (by decide)) T.b_Desk_keep .nil pass0 (pa_cons (pv 3) pa_nil))))))), ?_⟩
    refine ⟨_, rfl, D.dk, _, _, rfl, hd0.ins, rfl, D, M, tg, past, ahead, rfl, hd0, fun t fp H1 s1 hst hfp nt => ?_⟩
    have hd1 := hd0.same s1
    have nown : ∀ b ∈ fp, b ∉ D.own := fun b hb => hd0.notin (hfp b hb)
    refine ⟨_, rfl, D.dk, _, _, _, _, rfl, hd1.ins, T.c_Desk, T.nA_Desk_here, rfl, D.R.m, _, _, rfl, MapG.ins hd1.map, rfl, _, rfl, _, rfl, D.R, M, v, u, rfl, hd1.map, dv.same s1, lv, du.same s1, ?_⟩
    rcases k with ⟨n, p, rfl, h1, h2, h3, pu, po, q⟩ | ⟨h1, q⟩ | ⟨n, rfl, h1, h2, h3, h4, q⟩
    rotate_left
    · exact .inr (.inl ⟨h1, fun H2 s2 => q H2 (s1.trans s2)⟩)
    · exact .inr (.inr ⟨n, rfl, h1, h2, h3, (isPoint_same du s1).trans h4, fun H2 s2 => q H2 (s1.trans s2)⟩)
    refine .inl ⟨n, p, rfl, h1, h2, h3, pu.same s1, po, fun H2 s2 hm2 => ?_⟩
    obtain ⟨hd2, to2⟩ := hd1.setMap s2 hm2
    obtain ⟨hst2, nown2⟩ := hst.to nown to2
    have hn : n ∉ tg.map (·.1) := fun z => h2 (tgn.mem_iff.mp z)
    have lt : tg.length = M.length := by
      have := tgn.length_eq
      unfold NM.namesOf at this
      simpa using this
    have ltl := hd2.tgl.len
    refine ⟨Nat.zero_le _, fun l nl => ⟨_, rfl, D.dk, _, _, _, _, rfl, (same_upd nl) _ _ hd2.ins, T.c_Desk, T.nA_Desk_tags_of, rfl, _, rfl, D.td, _, rfl, DPut.k (k := Sum.inr n) ((same_upd nl) _ _ hd2.tgd) (by unfold tgK; rw [List.length_map, List.length_zip]; exact small1000 (by omega)), ?_⟩⟩
    rw [tgK_snoc (ws := []) ltl hn]
    have nlt : l ∉ D.tls := fun z => hd2.notin nl (own_tls z)
    have ndt := (own_parts.mp hd2.nd).2.1
    obtain ⟨hd3, to3⟩ := hd2.setTags (same_upd (o := .lst []) nl) (tls' := D.tls ++ [l]) (tg' := tg ++ [(n, [])]) (paired_snoc' (hd2.tgl.keep fun b _ o e => (same_upd nl) b o e) upd_same)
      (by rw [List.map_append]; exact List.nodup_append.mpr ⟨hd2.tnd, by simp, fun a ha b hb e => hn (by rw [← show b = n from List.mem_singleton.mp hb, ← e]; exact ha)⟩)
      (by rw [List.length_append]; show tg.length + 1 ≤ 60; omega)
      (fun r hr => by
        rcases List.mem_append.mp hr with hr | hr
        · exact hd2.tgw r hr
        · rw [List.mem_singleton.mp hr]; exact ⟨Nat.zero_le _, fun w hw => nomatch hw⟩)
      (List.nodup_append.mpr ⟨ndt, by simp, fun a ha b hb e => nlt (by rw [List.mem_singleton] at hb; rw [← hb, ← e]; exact ha)⟩)
      (fun b hb => by
        rcases List.mem_append.mp hb with hb | hb
        · exact .inl hb
        · rw [List.mem_singleton.mp hb]; exact .inr nl)
    obtain ⟨hst3, nown3⟩ := hst2.to nown2 to3
    exact ⟨_, rfl, D.dk, _, _, rfl, hd3.ins, rfl, _, rfl, { D with tls := D.tls ++ [l] }, _, _, past, ahead, t, _, fp, rfl, hd3, hst3, nown3, lp, fun ah H5 nah to5 hd5 => q _ _ ((((DeskTo.of_same s1).trans to2).trans to3).trans to5) (fpsNew_of (t := t) (fp := fp) rfl rfl hfp) hd5⟩

def sp_Desk_drop (C CM CN : Addr) : Sp := fun vs H Q E => ∃ (D : DeskR) (M : PM) (tg : Tg) (past ahead : List Stand) (v : V), vs = [.ref D.dk, v] ∧ DeskAt C CM H D M tg past ahead ∧ (tg.map (·.1)).Perm (namesOf M) ∧ past.length ≤ 900 ∧ Dat H v ∧ (∀ x, v = .str x → x.length ≤ 1000) ∧
  ((∃ n, v = .str n ∧ n ∈ namesOf M ∧ ∀ D' H', DeskTo H H' D D' → FpsNew H D D' → DeskAt C CM H' D' (dropP M n) (dropTg tg n) (past ++ [(sortP M, tg)]) [] → Q .non H') ∨
   ((∀ n, v = .str n → n ∉ namesOf M) ∧ ∀ H', Same H H' → E (.ref CN) none H'))
theorem ok_Desk_drop (T : Tx K mg) : FnOk P w K mg base (L2N.CX P w) 5 T.f_Desk_drop T.d_Desk_drop ["self", "name"] (sp_Desk_drop T.C_Desk T.C_Map T.C_BadName) := by
  refine okN T.F_Desk_drop sc_Desk_drop (fun vs H Q E h => ?_) (fun cdv A outer s H vs Q E hr h => ?_)
  · obtain ⟨D, M, tg, past, ahead, v, rfl, _⟩ := h
    rfl
  · obtain ⟨D, M, tg, past, ahead, v, rfl, hd0, tgn, lp, dv, lv, k⟩ := h
    refine ⟨_, (pss_cons (ps_set (i := 2) sc_Desk_drop.nd rfl (Or.inl rfl) (pe_meth0 (pv 0) T.c_Desk T.q_Desk_stand (ok_Desk_stand T) (hr.mono (by decide)) T.b_Desk_stand .nil pass0 ))
      (pss_cons (ps_expr (pe_meth (pe_fld (pv 0) rfl) T.c_Map T.q_Map_drop (ok_Map_drop T) (hr.mono (by decide)) T.b_Map_drop .nil (L2N.passes_call (L2N.takes_of rfl rfl rfl rfl) (fun _ _ _ _ h => h)) (pa_cons (pv 1) pa_nil)))
      (pss_cons (ps_expr (pe_dpop1 (pe_fld (pv 0) rfl) (pv 1) ⟨rfl, rfl, rfl, rfl⟩))
      (pss_one (ps_expr (pe_meth (pv 0) T.c_Desk T.q_Desk_keep (ok_Desk_keep T) (hr.mono (by decide)) T.b_Desk_keep .nil pass0 (pa_cons (pv 2) pa_nil))))))), ?_⟩
    refine ⟨_, rfl, D.dk, _, _, rfl, hd0.ins, rfl, D, M, tg, past, ahead, rfl, hd0, fun t fp H1 s1 hst hfp nt => ?_⟩
    have hd1 := hd0.same s1
    have nown : ∀ b ∈ fp, b ∉ D.own := fun b hb => hd0.notin (hfp b hb)
    refine ⟨_, rfl, D.dk, _, _, _, _, rfl, hd1.ins, T.c_Desk, T.nA_Desk_here, rfl, D.R.m, _, _, rfl, MapG.ins hd1.map, rfl, _, rfl, D.R, M, v, rfl, hd1.map, dv.same s1, lv, ?_⟩
    rcases k with ⟨n, rfl, hn, q⟩ | ⟨h1, q⟩
    rotate_left
    · exact .inr ⟨h1, fun H2 s2 => q H2 (s1.trans s2)⟩
    refine .inl ⟨n, rfl, hn, fun H2 s2 hm2 => ?_⟩
    obtain ⟨hd2, to2⟩ := hd1.setMap s2 hm2
    obtain ⟨hst2, nown2⟩ := hst.to nown to2
    obtain ⟨tl, htl, vt, hl⟩ := hd2.tgl.get (tgn.mem_iff.mpr hn)
    have ltl := hd2.tgl.len
    refine ⟨_, rfl, D.dk, _, _, _, _, rfl, hd2.ins, T.c_Desk, T.nA_Desk_tags_of, rfl, D.td, rfl, .inl ⟨_, .inl hd2.tgd⟩, _, rfl, _, Sum.inr n, _, hd2.tgd, rfl, vt, ?_⟩
    rw [tgK_drop ltl]
    have ndt := (own_parts.mp hd2.nd).2.1
    obtain ⟨hd3, to3⟩ := hd2.setTags (Same.refl _) (tls' := dropA tg D.tls n) (tg' := dropTg tg n) hd2.tgl.drop
      (by rw [dropTg_names]; exact hd2.tnd.filter _)
      (by
        have := hd2.tlen
        have h2 := List.length_filter_le (fun p : Str × List Str => decide (p.1 ≠ n)) tg
        unfold dropTg
        omega)
      (fun r hr => hd2.tgw r (List.mem_filter.mp hr).1)
      (dropA_nodup ndt ltl)
      (fun b hb => .inl (dropA_mem hb))
    obtain ⟨hst3, nown3⟩ := hst2.to nown2 to3
    exact ⟨_, rfl, D.dk, _, _, rfl, hd3.ins, rfl, _, rfl, { D with tls := dropA tg D.tls n }, _, _, past, ahead, t, _, fp, rfl, hd3, hst3, nown3, lp, fun ah H5 nah to5 hd5 => q _ _ ((((DeskTo.of_same s1).trans to2).trans to3).trans to5) (fpsNew_of (t := t) (fp := fp) rfl rfl hfp) hd5⟩

def sp_Map_move (C CN CP : Addr) : Sp := fun vs H Q E => ∃ (R : MapR) (M : PM) (v u : V), vs = [.ref R.m, v, u] ∧ MapAt C H R M ∧ Dat H v ∧ (∀ x, v = .str x → x.length ≤ 1000) ∧ PD H u ∧
  ((∃ n p, v = .str n ∧ n ∈ namesOf M ∧ PtAt H u p ∧ PtOk p ∧ ∀ H', SameD R.foot H H' → MapAt C H' R (dropP M n ++ [(n, p)]) → Q .non H') ∨
   ((∀ n, v = .str n → n ∉ namesOf M) ∧ ∀ H', Same H H' → E (.ref CN) none H') ∨
   (∃ n, v = .str n ∧ n ∈ namesOf M ∧ isPoint H u = false ∧ ∀ H', Same H H' → E (.ref CP) none H'))
theorem ok_Map_move (T : Tx K mg) : FnOk P w K mg base (L2N.CX P w) 6 T.f_Map_move T.d_Map_move ["self", "name", "point"] (sp_Map_move T.C_Map T.C_BadName T.C_BadPoint) := by
  refine okN T.F_Map_move sc_Map_move (fun vs H Q E h => ?_) (fun cdv A outer s H vs Q E hr h => ?_)
  · obtain ⟨R, M, v, u, rfl, _⟩ := h
    rfl
  · obtain ⟨R, M, v, u, rfl, hm, dv, hl, du, k⟩ := h
    refine ⟨_, (pss_cons (ps_expr (pe_meth (pv 0) T.c_Map T.q_Map_point (ok_Map_point T) (hr.mono (by decide)) T.b_Map_point .nil (L2N.passes_call (L2N.takes_of rfl rfl rfl rfl) (fun _ _ _ _ h => h)) (pa_cons (pv 1) pa_nil)))
      (pss_cons (ps_expr (pe_call (ok_need_point T) (hr.mono (by decide)) (by rfl) T.g_need_point T.F_need_point.kp T.b_need_point .nil (L2N.passes_call (L2N.takes_of rfl rfl rfl rfl) (fun _ _ _ _ h => h)) (pa_cons (pv 2) pa_nil)))
      (pss_cons (ps_expr (pe_meth (pv 0) T.c_Map T.q_Map_drop (ok_Map_drop T) (hr.mono (by decide)) T.b_Map_drop .nil (L2N.passes_call (L2N.takes_of rfl rfl rfl rfl) (fun _ _ _ _ h => h)) (pa_cons (pv 1) pa_nil)))
      (pss_one (ps_expr (pe_meth (pv 0) T.c_Map T.q_Map_put (ok_Map_put T) (hr.mono (by decide)) T.b_Map_put .nil (L2N.passes_call (L2N.takes_of rfl rfl rfl rfl) (fun _ _ _ _ h => h)) (pa_cons (pv 1) (pa_cons (pv 2) pa_nil)))))))), ?_⟩
    refine ⟨_, rfl, R.m, _, _, rfl, hm.ins, rfl, _, rfl, R, M, v, rfl, hm, dv, hl, ?_⟩
    rcases k with ⟨n, p, rfl, h4, pu, po, q⟩ | ⟨h1, q⟩ | ⟨n, rfl, h4, h5, q⟩
    · refine .inl ⟨n, rfl, h4, fun _ H1 s1 _ => ?_⟩
      have pu1 := pu.same s1
      refine ⟨_, rfl, u, rfl, pu1.pd.1, pu1.pd.2, .inl ⟨isPoint_of pu1 po, fun H2 s2 => ?_⟩⟩
      have hm2 := (hm.same s1).same s2
      refine ⟨_, rfl, R.m, _, _, rfl, hm2.ins, rfl, _, rfl, R, M, _, rfl, hm2, trivial, hl, .inl ⟨n, rfl, h4, fun H3 s3 hm3 => ?_⟩⟩
      have pu3 := (pu1.same s2).keepT (s3.keepT hm2.dcts)
      have hn := hm.ok.name h4
      have nn : n ∉ namesOf (dropP M n) := by rw [dropP_names]; simp
      have lm : (dropP M n).length < 60 := by
        have e : (namesOf (dropP M n)).length = (dropP M n).length := by unfold NM.namesOf; rw [List.length_map]
        have h6 := filter_lt (p := fun m => decide (m ≠ n)) (q := fun _ => true) (x := n) (L := namesOf M) (by simp) rfl h4 (fun _ _ _ => rfl)
        rw [← dropP_names, List.filter_eq_self.mpr (fun _ _ => rfl), e] at h6
        have := hm.ok.lenN
        omega
      exact ⟨_, rfl, R.m, _, _, rfl, hm3.ins, rfl, _, rfl, _, rfl, R, _, _, u, rfl, hm3, trivial, hl, pu3.pd, .inl ⟨n, p, rfl, hn, nn, lm, pu3, po, fun H4 s4 hm4 => q H4 ((SameD.trans (s1.trans s2).d s3).trans s4) hm4⟩⟩
    · exact .inr ⟨h1, fun H1 s1 => q H1 s1⟩
    · exact .inl ⟨n, rfl, h4, fun _ H1 s1 _ => ⟨_, rfl, u, rfl, (du.same s1).1, (du.same s1).2, .inr ⟨(isPoint_same du s1).trans h5, fun H2 s2 => q H2 (s1.trans s2)⟩⟩⟩

def sp_Map_names_at (C CN CS CH : Addr) : Sp := fun vs H Q E => ∃ (R : MapR) (M : PM) (v sv : V), vs = [.ref R.m, v, sv] ∧ MapAt C H R M ∧ Dat H v ∧ (∀ x, v = .str x → x.length ≤ 1000) ∧ Dat H sv ∧
  ((∃ (n : Str) (z : Nat), v = .str n ∧ sv = .int z ∧ z < 14 ∧ n ∈ headsOf (nearR M z) (namesOf M) ∧ ∀ l H', Same H H' → H l = none → H' l = some (.lst ((rowOf (nearR M z) (namesOf M) n).map V.str)) → Q (.ref l) H') ∨
   (isName v = false ∧ ∀ H', Same H H' → E (.ref CN) none H') ∨
   (isName v = true ∧ isCount 0 13 sv = false ∧ ∀ H', Same H H' → E (.ref CS) none H') ∨
   (∃ (n : Str) (z : Nat), v = .str n ∧ nameS n = true ∧ sv = .int z ∧ z < 14 ∧ n ∉ headsOf (nearR M z) (namesOf M) ∧ ∀ H', Same H H' → E (.ref CH) none H'))
theorem ok_Map_names_at (T : Tx K mg) : FnOk P w K mg base (L2N.CX P w) 3 T.f_Map_names_at T.d_Map_names_at ["self", "head", "size"] (sp_Map_names_at T.C_Map T.C_BadName T.C_BadSize T.C_BadHeap) := by
  refine okN T.F_Map_names_at sc_Map_names_at (fun vs H Q E h => ?_) (fun cdv A outer s H vs Q E hr h => ?_)
  · obtain ⟨R, M, v, sv, rfl, _⟩ := h
    rfl
  · obtain ⟨R, M, v, sv, rfl, hm, dv, hl, ds, k⟩ := h
    refine ⟨_, (pss_cons (ps_expr (pe_call (ok_need_name T) (hr.mono (by decide)) (by rfl) T.g_need_name T.F_need_name.kp T.b_need_name .nil (L2N.passes_call (L2N.takes_of rfl rfl rfl rfl) (fun _ _ _ _ h => h)) (pa_cons (pv 1) pa_nil)))
      (pss_cons (ps_expr (pe_call (ok_need_size T) (hr.mono (by decide)) (by rfl) T.g_need_size T.F_need_size.kp T.b_need_size .nil (L2N.passes_call (L2N.takes_of rfl rfl rfl rfl) (fun _ _ _ _ h => h)) (pa_cons (pv 2) pa_nil)))
      (pss_cons (ps_set (i := 3) sc_Map_names_at.nd rfl (Or.inr rfl) (pe_ix ix_list (pe_fld (pv 0) rfl) (pv 2) (fun _ _ => rfl)))
      (pss_cons (ps_if (PW.pt (pw_or (pt_cmp (pc_dnotin (hu_of hr) (pv 1) (pv 3))) (pw_or1 (pt_cmpR op_ne (pe_dget (hu_of hr) (pv 3) (pv 1) (fun _ _ => rfl)) (pv 1) (nomark _))))) (pss_one (L2N.ps_raise rfl (L2N.takes_of rfl rfl rfl rfl) (L2N.pmk_own PySem.F.excBase_ValueError T.x_BadHeap T.g_BadHeap T.k_BadHeap (raises_own T.e_BadHeap T.t_BadHeap) (by rfl)))) pss_nil)
      (pss_one (ps_ret (pe_callB cr_sortedS (by rfl) T.n_sorted (by decide +kernel) (pa_cons (pe_lockR (pe_lc (own := [("name", 4)]) (g := gName 4)  (by rfl) sc_Map_names_at.nd (pi_keys (pv 3)) (blkOk_by (own := [("name", 4)]) (N := ["self", "head", "size", "heads", "name"]) (sc := defScope s_Map_names_at) (by decide +kernel)) (fun _ _ _ _ _ => (pg_name (i := 4) sc_Map_names_at.nd rfl (Or.inl rfl))) (fun _ _ _ _ _ => (pts_one (pt_cmpR op_eq (pe_dget (hu_of hr) (pv 3) (pv 4) (fun _ _ => rfl)) (pv 1) (nomark _)))) (fun _ _ _ _ _ => (pv 4)))) pa_nil)))))))), ?_⟩
    refine ⟨_, rfl, v, rfl, dv, hl, ?_⟩
    have lenN := hm.ok.lenN
    rcases k with ⟨n, z, rfl, rfl, h3, h4, q⟩ | ⟨h1, q⟩ | ⟨h1, h2, q⟩ | ⟨n, z, rfl, hn, rfl, h3, h4, q⟩
    · have hnM := mem_headsOf.mp h4
      refine .inl ⟨hm.ok.name hnM.1, fun H0 s0 => ⟨_, rfl, _, rfl, trivial, .inl ⟨isCount_nat h3, ?_⟩⟩⟩
      replace hm := hm.same s0
      obtain ⟨a, ha, haf, hda⟩ := hm.at h3
      refine ⟨_, rfl, R.m, _, _, _, _, rfl, hm.ins, T.c_Map, T.nA_Map_heads, rfl, _, rfl, R.hl, _, _, .ref a, rfl, rfl, sqL hm.lst, at_of (j := z) rfl (mapRef_at ha), ?_⟩
      have g0 := cK_get hda hnM.1
      refine ⟨_, rfl, _, rfl, a, _, rfl, g0, _, rfl, iteF ⟨_, rfl, _, rfl, a, _, rfl, g0, _, rfl, rfl, _, rfl, iteNS (by rw [hnM.2]) ?_⟩⟩
      have ek : (hdF M z).map (fun kv => kV kv.1) = (namesOf M).map V.str := keys_at (cK_keys _ _)
      refine ⟨a, .dK (hdF M z), _, hda, .inl rfl, trivial, fun od => ⟨_, rfl, a, od, rfl, .inl ⟨_, upd_same, lc_fun enum_keys (strP fun m => decide (hd (nearR M z) (namesOf M) m = n)) (fun v => v) (fun D H' nD s => s _ _ (ne_of_none upd_same nD) upd_same) ?_ ?_ ?_⟩⟩⟩
      · rw [ek, List.length_map]; exact small1000 (by omega)
      · intro i v H1 Cy Cn ev s1 h1 h2
        rw [ek] at ev
        obtain ⟨m, rfl, hmM, em⟩ := str_at ev
        have gf : DGet H1 a (.str m) (some (.str (hd (nearR M z) (namesOf M) m))) := .inl ⟨_, .inr m, .inr ⟨od, s1 _ _ upd_same⟩, rfl, (cK_val hmM).symm⟩
        refine ⟨_, rfl, _, rfl, a, _, rfl, gf, _, rfl, rfl, _, rfl, ?_⟩
        rw [str_eq]
        refine ite2 (fun c => ?_) (fun c => ?_)
        · exact ⟨_, rfl, h1 H1 (Same.refl _) c⟩
        · exact h2 H1 (Same.refl _) (Bool.eq_false_iff.mpr c)
      · intro D H1 nD s1 hD
        rw [map_idV, ek, strP_filter] at hD
        refine ⟨s1 _ _ upd_same, ?_⟩
        have s2 : Same H0 (upd H1 a (.dK (hdF M z))) := same_unlock hda s1
        have nDa : D ≠ a := fun e => by rw [e, upd_same] at nD; cases nD
        have hD' : upd H1 a (.dK (hdF M z)) D = some (.lst (((namesOf M).filter fun m => decide (hd (nearR M z) (namesOf M) m = n)).map V.str)) := by rw [upd_ne nDa]; exact hD
        refine ⟨D, _, rfl, sqL hD', ?_, fun ys p pm so np => ?_⟩
        · have := List.length_filter_le (fun m => decide (hd (nearR M z) (namesOf M) m = n)) (namesOf M)
          omega
        · have eys := sortedS_eq so pm
          rw [sortS_filter] at eys
          subst eys
          exact q p _ ((s0.trans s2).trans (same_upd np)) ((s0.trans s2).free np) upd_same
    · exact .inr ⟨h1, fun H1 s1 => q H1 s1⟩
    · exact .inl ⟨h1, fun H1 s1 => ⟨_, rfl, sv, rfl, ds.same s1, .inr ⟨h2, q H1 s1⟩⟩⟩
    · refine .inl ⟨hn, fun H0 s0 => ⟨_, rfl, _, rfl, trivial, .inl ⟨isCount_nat h3, ?_⟩⟩⟩
      replace hm := hm.same s0
      obtain ⟨a, ha, haf, hda⟩ := hm.at h3
      refine ⟨_, rfl, R.m, _, _, _, _, rfl, hm.ins, T.c_Map, T.nA_Map_heads, rfl, _, rfl, R.hl, _, _, .ref a, rfl, rfl, sqL hm.lst, at_of (j := z) rfl (mapRef_at ha), ?_⟩
      by_cases hnM : n ∈ namesOf M
      · have g0 := cK_get hda hnM
        have ne : hd (nearR M z) (namesOf M) n ≠ n := fun e => h4 (mem_headsOf.mpr ⟨hnM, e⟩)
        refine ⟨_, rfl, _, rfl, a, _, rfl, g0, _, rfl, iteF ⟨_, rfl, _, rfl, a, _, rfl, g0, _, rfl, rfl, _, rfl, iteT' ?_ (q H0 s0)⟩⟩
        rw [str_eq, decide_eq_false ne]; rfl
      · have g0 : DGet H0 a (.str n) none := by
          have := DGet.k (k := Sum.inr n) hda
          rw [show valV (hdF M z) (Sum.inr n) = none from cK_none hnM] at this
          exact this
        exact ⟨_, rfl, _, rfl, a, _, rfl, g0, _, rfl, iteT (q H0 s0)⟩

def sp_Map_heap_of (C CN CS : Addr) : Sp := fun vs H Q E => ∃ (R : MapR) (M : PM) (v sv : V), vs = [.ref R.m, v, sv] ∧ MapAt C H R M ∧ Dat H v ∧ (∀ x, v = .str x → x.length ≤ 1000) ∧ Dat H sv ∧
  ((∃ (n : Str) (z : Nat), v = .str n ∧ sv = .int z ∧ z < 14 ∧ n ∈ namesOf M ∧ ∀ H', Same H H' → Q (.str (hd (nearR M z) (namesOf M) n)) H') ∨
   ((∀ n, v = .str n → n ∉ namesOf M) ∧ ∀ H', Same H H' → E (.ref CN) none H') ∨
   (∃ (n : Str), v = .str n ∧ n ∈ namesOf M ∧ isCount 0 13 sv = false ∧ ∀ H', Same H H' → E (.ref CS) none H'))
theorem ok_Map_heap_of (T : Tx K mg) : FnOk P w K mg base (L2N.CX P w) 4 T.f_Map_heap_of T.d_Map_heap_of ["self", "name", "size"] (sp_Map_heap_of T.C_Map T.C_BadName T.C_BadSize) := by
  refine okN T.F_Map_heap_of sc_Map_heap_of (fun vs H Q E h => ?_) (fun cdv A outer s H vs Q E hr h => ?_)
  · obtain ⟨R, M, v, sv, rfl, _⟩ := h
    rfl
  · obtain ⟨R, M, v, sv, rfl, hm, dv, hl, ds, k⟩ := h
    refine ⟨_, (pss_cons (ps_expr (pe_meth (pv 0) T.c_Map T.q_Map_point (ok_Map_point T) (hr.mono (by decide)) T.b_Map_point .nil (L2N.passes_call (L2N.takes_of rfl rfl rfl rfl) (fun _ _ _ _ h => h)) (pa_cons (pv 1) pa_nil)))
      (pss_cons (ps_expr (pe_call (ok_need_size T) (hr.mono (by decide)) (by rfl) T.g_need_size T.F_need_size.kp T.b_need_size .nil (L2N.passes_call (L2N.takes_of rfl rfl rfl rfl) (fun _ _ _ _ h => h)) (pa_cons (pv 2) pa_nil)))
      (pss_one (ps_ret (pe_dget (hu_of hr) (pe_ix ix_list (pe_fld (pv 0) rfl) (pv 2) (fun _ _ => rfl)) (pv 1) (fun _ _ => rfl)))))), ?_⟩
    refine ⟨_, rfl, R.m, _, _, rfl, hm.ins, rfl, _, rfl, R, M, v, rfl, hm, dv, hl, ?_⟩
    rcases k with ⟨n, z, rfl, rfl, h3, h4, q⟩ | ⟨h1, q⟩ | ⟨n, rfl, h4, h5, q⟩
    · refine .inl ⟨n, rfl, h4, fun u H1 s1 _ => ⟨_, rfl, _, rfl, trivial, .inl ⟨isCount_nat h3, ?_⟩⟩⟩
      have hm1 := hm.same s1
      obtain ⟨a, ha, haf, hda⟩ := hm1.at h3
      exact ⟨_, rfl, R.m, _, _, _, _, rfl, hm1.ins, T.c_Map, T.nA_Map_heads, rfl, _, rfl, R.hl, _, _, .ref a, rfl, rfl, sqL hm1.lst, at_of (j := z) rfl (mapRef_at ha), _, rfl, a, _, rfl, cK_get hda h4, q H1 s1⟩
    · exact .inr ⟨h1, fun H1 s1 => q H1 s1⟩
    · exact .inl ⟨n, rfl, h4, fun u H1 s1 _ => ⟨_, rfl, sv, rfl, ds.same s1, .inr ⟨h5, q H1 s1⟩⟩⟩

--IMPORT Map_names_at
theorem ok_Map_names (T : Tx K mg) : FnOk P w K mg base (L2N.CX P w) 4 T.f_Map_names T.d_Map_names ["self", "head", "size"] (sp_Map_names_at T.C_Map T.C_BadName T.C_BadSize T.C_BadHeap) := by
  refine okN T.F_Map_names sc_Map_names (fun vs H Q E h => ?_) (fun cdv A outer s H vs Q E hr h => ?_)
  · obtain ⟨R, M, v, sv, rfl, _⟩ := h
    rfl
  · obtain ⟨R, M, v, sv, rfl, hm, dv, hl, ds, k⟩ := h
    refine ⟨_, (pss_one (ps_ret (pe_meth (pv 0) T.c_Map T.q_Map_names_at (ok_Map_names_at T) (hr.mono (by decide)) T.b_Map_names_at .nil (L2N.passes_call (L2N.takes_of rfl rfl rfl rfl) (fun _ _ _ _ h => h)) (pa_cons (pv 1) (pa_cons (pv 2) pa_nil))))), ?_⟩
    exact ⟨_, rfl, R.m, _, _, rfl, hm.ins, rfl, _, rfl, _, rfl, R, M, v, sv, rfl, hm, dv, hl, ds, k⟩

def sp_need_box (C : Addr) : Sp := fun vs H Q E => ∃ (v : V), vs = [v] ∧ PD H v ∧ ((isBoxB H v = true ∧ ∀ H', Same H H' → Q .non H') ∨ (isBoxB H v = false ∧ ∀ H', Same H H' → E (.ref C) none H'))
theorem ok_need_box (T : Tx K mg) : FnOk P w K mg base (L2N.CX P w) 2 T.f_need_box T.d_need_box ["box"] (sp_need_box T.C_BadSize) := by
  refine okN T.F_need_box sc_need_box (fun vs H Q E h => ?_) (fun cdv A outer s H vs Q E hr h => ?_)
  · obtain ⟨v, rfl, _⟩ := h
    rfl
  · obtain ⟨v, rfl, ⟨d, hx⟩, k⟩ := h
    have k1 : isBoxB H v = true → ∀ H', Same H H' → Q .non H' := fun e => k.elim (fun z => z.2) (fun z => by rw [e] at z; cases z.1)
    have k2 : isBoxB H v = false → ∀ H', Same H H' → E (.ref T.C_BadSize) none H' := fun e => k.elim (fun z => by rw [e] at z; cases z.1) (fun z => z.2)
    refine ⟨_, (pss_cons (ps_set (i := 1) sc_need_box.nd rfl (Or.inl rfl) (pe_and (pe_callB call_isi (by rfl) T.n_isinstance (by decide +kernel) (pa_cons (pv 0) (pa_cons (pe_bltn (v := .ty "tuple") (by rfl) T.n_tuple (by decide +kernel) rfl) pa_nil))) (pe_and (pe_cmpR op_eq (pe_callB call_len_seq (by rfl) T.n_len (by decide +kernel) (pa_cons (pv 0) pa_nil)) pe_int (nomark _)) (pe_one (pe_callB (cr_all rfl) (by rfl) T.n_all (by decide +kernel) (pa_cons (pe_lc (own := [("one", 2)]) (g := gName 2) (tt := tYes) (by rfl) sc_need_box.nd (pi_tup (pv 0)) (blkOk_by (own := [("one", 2)]) (N := ["box", "good", "one"]) (sc := defScope s_need_box) (by decide +kernel)) (fun _ _ _ _ _ => (pg_name (i := 2) sc_need_box.nd rfl (Or.inl rfl))) (fun _ _ _ _ _ => pts_nil) (fun _ _ _ _ _ => (pe_call (ok_is_count T) (hr.mono (by decide)) (by rfl) T.g_is_count T.F_is_count.kp T.b_is_count .nil pass0 (pa_cons (pv 2) (pa_cons pe_int (pa_cons (pe_glob (v := .int 4095) (by rfl) T.g_MOST_SIDE ⟨_, rfl⟩) pa_nil)))))) pa_nil))))))
      (pss_one (ps_if (PW.pt (pw_or (pt_not (pt_val (pv 1))) (pw_or (pt_cmpR op_gt (pe_ix ix_tup (pv 0) pe_int (fun _ _ => rfl)) (pe_ix ix_tup (pv 0) pe_int (fun _ _ => rfl)) (nomark _)) (pw_or1 (pt_cmpR op_gt (pe_ix ix_tup (pv 0) pe_int (fun _ _ => rfl)) (pe_ix ix_tup (pv 0) pe_int (fun _ _ => rfl)) (nomark _)))))) (pss_one (L2N.ps_raise rfl (L2N.takes_of rfl rfl rfl rfl) (L2N.pmk_own PySem.F.excBase_ValueError T.x_BadSize T.g_BadSize T.k_BadSize (raises_own T.e_BadSize T.t_BadSize) (by rfl)))) pss_nil))), ?_⟩
    have no : tupOf H v = none → isBoxB H v = false := fun e => by unfold isBoxB; rw [e]
    have bad : ∀ {H' : Hp}, Same H H' → isBoxB H v = false → _ := fun {H'} s e => k2 e H' s
    rcases tyN_cases d with ⟨e, t⟩ | ⟨b, e, t⟩ | ⟨i, e, t⟩ | ⟨x, e, t⟩ | ⟨a, xs, e, e2, t⟩ | ⟨a, xs, e, e2, t⟩
    · subst e
      exact ⟨_, rfl, _, _, _, _, false, rfl, .ty _, d.ty, kit_ty (by rw [t]; decide +kernel), _, rfl, iteF ⟨_, rfl, _, rfl, iteT (iteT (k2 (no rfl) H (Same.refl H)))⟩⟩
    · subst e
      exact ⟨_, rfl, _, _, _, _, false, rfl, .ty _, d.ty, kit_ty (by rw [t]; decide +kernel), _, rfl, iteF ⟨_, rfl, _, rfl, iteT (iteT (k2 (no rfl) H (Same.refl H)))⟩⟩
    · subst e
      exact ⟨_, rfl, _, _, _, _, false, rfl, .ty _, d.ty, kit_ty (by rw [t]; decide +kernel), _, rfl, iteF ⟨_, rfl, _, rfl, iteT (iteT (k2 (no rfl) H (Same.refl H)))⟩⟩
    · subst e
      exact ⟨_, rfl, _, _, _, _, false, rfl, .ty _, d.ty, kit_ty (by rw [t]; decide +kernel), _, rfl, iteF ⟨_, rfl, _, rfl, iteT (iteT (k2 (no rfl) H (Same.refl H)))⟩⟩
    · subst e
      have et := tupOf_ref e2
      obtain ⟨hl, hd⟩ := hx xs et
      have ebx : isBoxB H (.ref a) = (goodBx xs && ordBx xs) := by unfold isBoxB; rw [et]
      refine ⟨_, rfl, _, _, _, _, true, rfl, .ty _, d.ty, kit_ty (by rw [t]; decide +kernel), _, rfl, iteT ?_⟩
      refine ⟨_, rfl, a, xs, rfl, .inr (sqT e2), rfl, _, rfl, ?_⟩
      by_cases c : xs.length = 4
      rotate_left
      · have ec : decide (V.int (xs.length : Nat) = V.int 4) = false := decide_eq_false (fun z => c (by injection z with z; omega))
        rw [ec]
        have e3 : isBoxB H (.ref a) = false := by rw [ebx]; unfold goodBx; rw [decide_eq_false c]; rfl
        exact iteF ⟨_, rfl, _, rfl, iteT (iteT (k2 e3 H (Same.refl H)))⟩
      have ec : decide (V.int (xs.length : Nat) = V.int 4) = true := decide_eq_true (by rw [c]; rfl)
      rw [ec]
      refine iteT ⟨_, rfl, a, rfl, ⟨xs, sqT e2⟩, lc_map (enum_tup (xs := xs)) (fun v => .bl (isCount 0 4095 v)) (fun D H' nD s => sqT (s _ _ (ne_of_none e2 nD) e2)) (small1000 hl) ?_ ?_⟩
      · intro i v H' Cy ev sm h1
        exact ⟨_, rfl, v, 0, 4095, rfl, (hd v (List.mem_of_getElem? ev)).same sm, h1 H' (Same.refl _)⟩
      intro D H' nD sm hD
      refine ⟨D, xs.map (isCount 0 4095), rfl, sqL (by rw [List.map_map]; exact hD), ?_⟩
      have e3 : goodBx xs = (xs.map (isCount 0 4095)).all id := by
        unfold goodBx
        rw [decide_eq_true c, Bool.true_and, List.all_map]
        rfl
      refine ⟨_, rfl, _, rfl, ?_⟩
      cases e4 : (xs.map (isCount 0 4095)).all id with
      | false => exact iteT (iteT (k2 (by rw [ebx, e3, e4]; rfl) H' sm))
      | true =>
        refine iteF ?_
        obtain ⟨b, rfl, _⟩ := goodBx_of (e3.trans e4)
        have e2' := sm _ _ e2
        refine ⟨_, rfl, a, _, _, .int b.1, rfl, rfl, sqT e2', atI_nat (j := 0) rfl, _, rfl, a, _, _, .int b.2.2.1, rfl, rfl, sqT e2', atI_nat (j := 2) rfl, _, _, rfl, rfl, _, rfl, ?_⟩
        by_cases c1 : b.1 > b.2.2.1
        · refine iteT' (decide_eq_true c1) (iteT (k2 ?_ H' sm))
          rw [ebx]
          have : ordBx (boxV b) = false := by simp only [ordBx, boxV]; rw [decide_eq_false (by omega)]; rfl
          rw [this, Bool.and_false]
        refine iteF' (decide_eq_false c1) ?_
        refine ⟨_, rfl, a, _, _, .int b.2.1, rfl, rfl, sqT e2', atI_nat (j := 1) rfl, _, rfl, a, _, _, .int b.2.2.2, rfl, rfl, sqT e2', atI_nat (j := 3) rfl, _, _, rfl, rfl, _, rfl, ?_⟩
        by_cases c2 : b.2.1 > b.2.2.2
        · refine iteT' (decide_eq_true c2) (k2 ?_ H' sm)
          rw [ebx]
          have : ordBx (boxV b) = false := by simp only [ordBx, boxV]; rw [decide_eq_false (show ¬ b.2.1 ≤ b.2.2.2 by omega), Bool.and_false]
          rw [this, Bool.and_false]
        refine iteF' (decide_eq_false c2) (k1 ?_ H' sm)
        rw [ebx, e3, e4]
        simp only [ordBx, boxV]
        rw [decide_eq_true (show b.1 ≤ b.2.2.1 by omega), decide_eq_true (show b.2.1 ≤ b.2.2.2 by omega)]
        rfl
    · subst e
      have et : tupOf H (.ref a) = none := by simp [tupOf, e2]
      exact ⟨_, rfl, _, _, _, _, false, rfl, .ty _, d.ty, kit_ty (by rw [t]; decide +kernel), _, rfl, iteF ⟨_, rfl, _, rfl, iteT (iteT (k2 (no et) H (Same.refl H)))⟩⟩

def sp_is_in : Sp := fun vs H Q _ => ∃ (v : V) (t : Addr) (p : Pt) (b : Bx), vs = [v, .ref t] ∧ PtAt H v p ∧ H t = some (.tup (boxV b)) ∧ Q (.bl (inBx b p)) H
theorem ok_is_in (T : Tx K mg) : FnOk P w K mg base CX0 1 T.f_is_in T.d_is_in ["point", "box"] (sp_is_in) := by
  refine T.F_is_in.ok sc_is_in (fun vs H Q E h => ?_) (fun cdv A outer s H vs Q E hr h => ?_)
  · obtain ⟨v, t, p, b, rfl, _⟩ := h
    rfl
  · obtain ⟨v, t, p, b, rfl, ⟨a, rfl, ha⟩, ht, q⟩ := h
    refine ⟨_, (pss_one (ps_ret (pe_and (pe_chain op_le op_le (pe_ix ix_tup (pv 1) pe_int (fun _ _ => rfl)) (pe_ix ix_tup (pv 0) pe_int (fun _ _ => rfl)) (pe_ix ix_tup (pv 1) pe_int (fun _ _ => rfl))) (pe_one (pe_chain op_le op_le (pe_ix ix_tup (pv 1) pe_int (fun _ _ => rfl)) (pe_ix ix_tup (pv 0) pe_int (fun _ _ => rfl)) (pe_ix ix_tup (pv 1) pe_int (fun _ _ => rfl))))))), ?_⟩
    refine ⟨_, rfl, t, _, _, .int b.1, rfl, rfl, sqT ht, atI_nat (j := 0) rfl, _, rfl, a, _, _, .int p.1, rfl, rfl, sqT ha, atI_nat (j := 0) rfl, _, _, rfl, rfl, _, rfl, ?_⟩
    by_cases c1 : b.1 ≤ p.1
    rotate_left
    · refine iteF' (decide_eq_false c1) ⟨_, rfl, iteF ?_⟩
      have e : inBx b p = false := by unfold inBx; rw [decide_eq_false c1]; rfl
      rw [e] at q
      exact q
    refine iteT' (decide_eq_true c1) ⟨_, rfl, t, _, _, .int b.2.2.1, rfl, rfl, sqT ht, atI_nat (j := 2) rfl, _, _, rfl, rfl, _, rfl, ?_⟩
    by_cases c2 : p.1 ≤ b.2.2.1
    rotate_left
    · refine iteF' (decide_eq_false c2) ?_
      have e : inBx b p = false := by unfold inBx; rw [decide_eq_false c2, Bool.and_false]; rfl
      rw [e] at q
      exact q
    refine iteT' (decide_eq_true c2) ?_
    refine ⟨_, rfl, t, _, _, .int b.2.1, rfl, rfl, sqT ht, atI_nat (j := 1) rfl, _, rfl, a, _, _, .int p.2, rfl, rfl, sqT ha, atI_nat (j := 1) rfl, _, _, rfl, rfl, _, rfl, ?_⟩
    by_cases c3 : b.2.1 ≤ p.2
    rotate_left
    · refine iteF' (decide_eq_false c3) ?_
      have e : inBx b p = false := by unfold inBx; rw [decide_eq_false c3, Bool.false_and, Bool.and_false]
      rw [e] at q
      exact q
    refine iteT' (decide_eq_true c3) ⟨_, rfl, t, _, _, .int b.2.2.2, rfl, rfl, sqT ht, atI_nat (j := 3) rfl, _, _, rfl, rfl, ?_⟩
    have e : inBx b p = decide (p.2 ≤ b.2.2.2) := by unfold inBx; rw [decide_eq_true c1, decide_eq_true c2, decide_eq_true c3]; simp
    rw [e] at q
    exact q

def sp_Desk___init__ (C CM : Addr) : Sp := fun vs H Q _ => ∃ (m dx : Addr), vs = [.ref m] ∧ H m = some (.ins C dx []) ∧ ∀ (D : DeskR) H', D.dk = m → D.dx = dx → SameX m H H' → (∀ b ∈ D.own, b ≠ m → H b = none) → DeskAt C CM H' D [] [] [] [] → Q .non H'
theorem ok_Desk___init__ (T : Tx K mg) : FnOk P w K mg base CX0 3 T.f_Desk___init__ T.d_Desk___init__ ["self"] (sp_Desk___init__ T.C_Desk T.C_Map) := by
  refine T.F_Desk___init__.ok sc_Desk___init__ (fun vs H Q E h => ?_) (fun cdv A outer s H vs Q E hr h => ?_)
  · obtain ⟨m, dx, rfl, _⟩ := h
    rfl
  · obtain ⟨m, dx, rfl, hm, q⟩ := h
    refine ⟨_, (pss_cons (ps_fld (pv 0) (pe_make0 T.m_Map (ok_Map___init__ T) (hr.mono (by decide)) (by rfl) T.g_Map T.b_Map___init__ .nil pass0) rfl)
      (pss_cons (ps_fld (pv 0) pe_dnewK rfl)
      (pss_cons (ps_fld (pv 0) (pe_lst pa_nil) rfl)
      (pss_one (ps_fld (pv 0) (pe_lst pa_nil) rfl))))), ?_⟩
    -- self.here = Map()
    refine fun mm dxm nm ndx nex => mk_map nm ndx nex.symm rfl fun R H2 e1 s2 frR hR => ⟨rfl, ?_⟩
    subst e1
    have mR : m ∉ R.own := frR.notin hm
    refine ⟨_, rfl, m, _, dx, _, rfl, s2 _ _ hm, T.c_Desk, T.nA_Desk_here, by decide, ?_⟩
    have e0 : putF "here" (V.ref R.m) [] = [(("here" : Str), V.ref R.m)] := rfl
    rw [e0]
    have hm3 := upd_same (H := H2) (a := m) (o := .ins T.C_Desk dx [("here", .ref R.m)])
    have hR3 : MapAt T.C_Map (upd H2 m (.ins T.C_Desk dx [("here", .ref R.m)])) R [] := MapG.set hR mR (s2 _ _ hm) (fun xs e => by cases e)
    have sx3 : SameX m H (upd H2 m (.ins T.C_Desk dx [("here", .ref R.m)])) := SameX.upd s2.x
    generalize upd H2 m (.ins T.C_Desk dx [("here", .ref R.m)]) = H3 at hm3 hR3 sx3 ⊢
    have fr3 : ∀ b, H3 b = none → H b = none := fun b h => by
      cases e : H b with
      | none => rfl
      | some o =>
        by_cases z : b = m
        · rw [z, hm3] at h; cases h
        · rw [sx3 b o z e] at h; cases h
    -- self.tags_of = {}
    intro td ntd
    have st := same_upd (o := .dK []) ntd
    have ht := upd_same (H := H3) (a := td) (o := .dK [])
    generalize upd H3 td (.dK []) = H4 at st ht ⊢
    have mtd : td ≠ m := fun e => by rw [e, hm3] at ntd; cases ntd
    refine ⟨_, rfl, m, _, dx, _, rfl, st _ _ hm3, T.c_Desk, T.nA_Desk_tags_of, by simp, ?_⟩
    have e0 : putF "tags_of" (V.ref td) [(("here" : Str), V.ref R.m)] = [(("here" : Str), V.ref R.m), ("tags_of", V.ref td)] := rfl
    rw [e0]
    have hm5 := upd_same (H := H4) (a := m) (o := .ins T.C_Desk dx [("here", .ref R.m), ("tags_of", .ref td)])
    have hR5 : MapAt T.C_Map (upd H4 m (.ins T.C_Desk dx [("here", .ref R.m), ("tags_of", .ref td)])) R [] := MapG.set (hR3.same st) mR (st _ _ hm3) (fun xs e => by cases e)
    have sx5 : SameX m H3 (upd H4 m (.ins T.C_Desk dx [("here", .ref R.m), ("tags_of", .ref td)])) := SameX.upd st.x
    have ht5 : upd H4 m (.ins T.C_Desk dx [("here", .ref R.m), ("tags_of", .ref td)]) td = some (.dK []) := by rw [upd_ne mtd]; exact ht
    generalize upd H4 m (.ins T.C_Desk dx [("here", .ref R.m), ("tags_of", .ref td)]) = H5 at hm5 hR5 sx5 ht5 ⊢
    have fr5 : ∀ b, H5 b = none → H3 b = none := fun b h => by
      cases e : H3 b with
      | none => rfl
      | some o =>
        by_cases z : b = m
        · rw [z, hm5] at h; cases h
        · rw [sx5 b o z e] at h; cases h
    -- self.past = []
    refine ⟨Nat.zero_le _, fun pa npa => ?_⟩
    have sp := same_upd (o := .lst []) npa
    have hp := upd_same (H := H5) (a := pa) (o := .lst [])
    generalize upd H5 pa (.lst []) = H6 at sp hp ⊢
    have mpa : pa ≠ m := fun e => by rw [e, hm5] at npa; cases npa
    refine ⟨_, rfl, m, _, dx, _, rfl, sp _ _ hm5, T.c_Desk, T.nA_Desk_past, by simp, ?_⟩
    have e0 : putF "past" (V.ref pa) [(("here" : Str), V.ref R.m), ("tags_of", V.ref td)] = [(("here" : Str), V.ref R.m), ("tags_of", V.ref td), ("past", V.ref pa)] := rfl
    rw [e0]
    have hm7 := upd_same (H := H6) (a := m) (o := .ins T.C_Desk dx [("here", .ref R.m), ("tags_of", .ref td), ("past", .ref pa)])
    have hR7 : MapAt T.C_Map (upd H6 m (.ins T.C_Desk dx [("here", .ref R.m), ("tags_of", .ref td), ("past", .ref pa)])) R [] := MapG.set (hR5.same sp) mR (sp _ _ hm5) (fun xs e => by cases e)
    have sx7 : SameX m H5 (upd H6 m (.ins T.C_Desk dx [("here", .ref R.m), ("tags_of", .ref td), ("past", .ref pa)])) := SameX.upd sp.x
    have hp7 : upd H6 m (.ins T.C_Desk dx [("here", .ref R.m), ("tags_of", .ref td), ("past", .ref pa)]) pa = some (.lst []) := by rw [upd_ne mpa]; exact hp
    generalize upd H6 m (.ins T.C_Desk dx [("here", .ref R.m), ("tags_of", .ref td), ("past", .ref pa)]) = H7 at hm7 hR7 sx7 hp7 ⊢
    have fr7 : ∀ b, H7 b = none → H5 b = none := fun b h => by
      cases e : H5 b with
      | none => rfl
      | some o =>
        by_cases z : b = m
        · rw [z, hm7] at h; cases h
        · rw [sx7 b o z e] at h; cases h
    have ht7 := sx7 _ _ mtd ht5
    -- self.ahead = []
    refine ⟨Nat.zero_le _, fun ah nah => ?_⟩
    have sa := same_upd (o := .lst []) nah
    have ha := upd_same (H := H7) (a := ah) (o := .lst [])
    generalize upd H7 ah (.lst []) = H8 at sa ha ⊢
    have mah : ah ≠ m := fun e => by rw [e, hm7] at nah; cases nah
    refine ⟨_, rfl, m, _, dx, _, rfl, sa _ _ hm7, T.c_Desk, T.nA_Desk_ahead, by simp, ?_⟩
    have e0 : putF "ahead" (V.ref ah) [(("here" : Str), V.ref R.m), ("tags_of", V.ref td), ("past", V.ref pa)] = [(("here" : Str), V.ref R.m), ("tags_of", V.ref td), ("past", V.ref pa), ("ahead", V.ref ah)] := rfl
    rw [e0]
    have hR9 : MapAt T.C_Map (upd H8 m (.ins T.C_Desk dx [("here", .ref R.m), ("tags_of", .ref td), ("past", .ref pa), ("ahead", .ref ah)])) R [] := MapG.set (hR7.same sa) mR (sa _ _ hm7) (fun xs e => by cases e)
    have pR : pa ∉ R.own := MapG.notin hR5 npa
    have tR : td ∉ R.own := MapG.notin hR3 ntd
    have aR : ah ∉ R.own := MapG.notin hR7 nah
    have tp : td ≠ pa := fun e => by rw [← e, ht5] at npa; cases npa
    have ta : td ≠ ah := fun e => by rw [← e, ht7] at nah; cases nah
    have pa' : pa ≠ ah := fun e => by rw [← e, hp7] at nah; cases nah
    refine q ⟨m, dx, R, td, [], pa, ah, [], []⟩ _ rfl rfl ?_ ?_ ⟨upd_same, hR9, ?_, .nil, .nil, Nat.zero_le _, (fun p hp => nomatch hp), ?_, .nil, ?_, .nil, ?_, (fun p hp => nomatch hp)⟩
    · intro b o hb e
      rw [upd_ne hb]
      exact sa _ _ (sx7 _ _ hb (sx5 _ _ hb (sx3 _ _ hb e)))
    · intro b hb hbm
      simp only [DeskR.own, List.nil_append, List.mem_cons] at hb
      rcases hb with e | e | e | e | hb
      · exact absurd e hbm
      · rw [e]; exact fr3 _ ntd
      · rw [e]; exact fr3 _ (fr5 _ npa)
      · rw [e]; exact fr3 _ (fr5 _ (fr7 _ nah))
      · exact frR b (by simpa using hb)
    · show upd H8 m _ td = _
      rw [upd_ne mtd]; exact sa _ _ ht7
    · show upd H8 m _ pa = _
      rw [upd_ne mpa]; exact sa _ _ hp7
    · show upd H8 m _ ah = _
      rw [upd_ne mah]; exact ha
    · show (m :: td :: pa :: ah :: ([] ++ R.own)).Nodup
      have ndR := MapG.own_nd hR9
      refine List.nodup_cons.mpr ⟨fun z => ?_, List.nodup_cons.mpr ⟨fun z => ?_, List.nodup_cons.mpr ⟨fun z => ?_, List.nodup_cons.mpr ⟨fun z => aR (by simpa using z), by simpa using ndR⟩⟩⟩⟩
      · simp only [List.nil_append, List.mem_cons] at z
        rcases z with e | e | e | z
        · exact mtd e.symm
        · exact mpa e.symm
        · exact mah e.symm
        · exact mR z
      · simp only [List.nil_append, List.mem_cons] at z
        rcases z with e | e | z
        · exact tp e
        · exact ta e
        · exact tR z
      · simp only [List.nil_append, List.mem_cons] at z
        rcases z with e | z
        · exact pa' e
        · exact pR z

def sp_Desk_to (C CM : Addr) : Sp := fun vs H Q _ => ∃ (D : DeskR) (M : PM) (tg : Tg) (past ahead : List Stand) (t : Addr) (st : Stand) (fp : List Addr), vs = [.ref D.dk, .ref t] ∧ DeskAt C CM H D M tg past ahead ∧ StAt H t st fp ∧ (∀ b ∈ fp, b ∉ D.own) ∧ StOk st ∧
  ∀ (D' : DeskR) (H' : Hp), DeskTo H H' D D' → DeskAt C CM H' D' st.1 st.2 past ahead → Q .non H'
/-- a comprehension, with all that is made in sight -/
theorem lc_inv {J : It} {ok : Hp → Prop} {xs : List V} (en : Enum J ok xs) {j : Nat} {tt : TT} {te : TE} {σ : L2.St} {H1 : Hp} {Q : Addr → Hp → Prop} (Iv : Addr → Nat → List V → Hp → Prop)
    (h0 : ∀ D, H1 D = none → Iv D 0 [] (upd H1 D (.lst []))) (hok : ∀ D i acc H, H1 D = none → Iv D i acc H → ok H) (hlen : xs.length < sizeLine)
    (turn : ∀ (D : Addr) (i : Nat) (x : V) (acc : List V) (H : Hp) (Cy : VK) (Cn : Hp → Prop), H1 D = none → H D = some (.lst acc) → xs[i]? = some x → Iv D i acc H → (∀ y H', H' D = some (.lst acc) → Iv D (i + 1) (acc ++ [y]) (upd H' D (.lst (acc ++ [y]))) → Cy y H') → (∀ H', H' D = some (.lst acc) → Iv D (i + 1) acc H' → Cn H') →
      tt ((wipe σ [j]).set j (some x)) H fun b H3 => if b = true then te ((wipe σ [j]).set j (some x)) H3 Cy else Cn H3)
    (done : ∀ D H acc, H1 D = none → H D = some (.lst acc) → Iv D xs.length acc H → Q D H) :
    ∀ D, H1 D = none → ∃ W : Nat → Nat → Hp → Prop, (∃ m, W 0 m (upd H1 D (.lst []))) ∧ ∀ i m H, W i m H →
      (J.stop i H ∧ Q D H) ∨ (J.go i H ∧ ∃ Nx : Hp → Prop, (∀ H', Nx H' → ∃ m', m' < m ∧ W (i + 1) m' H') ∧ ∀ x H', J.yld i H x H' → gName j x (wipe σ [j]) H' fun σ2 H2 => wipe σ2 [j] = wipe σ [j] ∧ tt σ2 H2 fun b H3 =>
        if b = true then te σ2 H3 fun y H4 => ∃ acc, H4 D = some (.lst acc) ∧ acc.length < sizeLine ∧ Nx (upd H4 D (.lst (acc ++ [y]))) else Nx H3) := by
  intro D nD
  let Pv : Nat → Hp → Prop := fun i H => ∃ ys, H D = some (.lst ys) ∧ ys.length ≤ i ∧ Iv D i ys H
  refine ⟨fun i m H => m = xs.length - i ∧ i ≤ xs.length ∧ Pv i H, ⟨xs.length, by simp, Nat.zero_le _, [], upd_same, Nat.le_refl _, h0 D nD⟩, ?_⟩
  rintro i m H ⟨rfl, hi, ys, hD, hy, iv⟩
  have okH : ok H := hok D i ys H nD iv
  by_cases hlt : i < xs.length
  · refine .inr ⟨en.go i H okH hlt, Pv (i + 1), fun H' p' => ⟨xs.length - (i + 1), by omega, rfl, hlt, p'⟩, fun x H' y => ?_⟩
    obtain ⟨e, ex⟩ := en.yld i H x H' okH hlt y
    subst e
    refine ⟨wipe_set, ?_⟩
    refine turn D i x ys H' _ _ nD hD ex iv (fun y H4 h4 iv4 => ?_) fun H3 h3 iv3 => ?_
    · exact ⟨ys, h4, by omega, ys ++ [y], upd_same, by rw [List.length_append]; simp; omega, iv4⟩
    · exact ⟨ys, h3, by omega, iv3⟩
  · have e : i = xs.length := by omega
    subst e
    exact .inl ⟨en.stop _ H okH (Nat.le_refl _), done D H ys nD hD iv⟩
theorem tgK_add {tg : Tg} {tls : List Addr} {p : Str × List Str} {l : Addr} (hl : tls.length = tg.length) : tgK (tg ++ [p]) (tls ++ [l]) = tgK tg tls ++ [(Sum.inr p.1, V.ref l)] := by
  unfold tgK
  rw [List.zip_append hl.symm, List.map_append]
  rfl
theorem ok_Desk_to (T : Tx K mg) : FnOk P w K mg base CX0 5 T.f_Desk_to T.d_Desk_to ["self", "stand"] (sp_Desk_to T.C_Desk T.C_Map) := by
  refine T.F_Desk_to.ok sc_Desk_to (fun vs H Q E h => ?_) (fun cdv A outer s H vs Q E hr h => ?_)
  · obtain ⟨D, M, tg, past, ahead, t, st, fp, rfl, _⟩ := h
    rfl
  · obtain ⟨D, M, tg, past, ahead, t, st, fp, rfl, hd0, hst, hfp, sok, q⟩ := h
    refine ⟨_, (pss_cons (ps_fld (pv 0) (pe_make0 T.m_Map (ok_Map___init__ T) (hr.mono (by decide)) (by rfl) T.g_Map T.b_Map___init__ .nil pass0) rfl)
      (pss_cons (ps_for PassesOwn.never (by rfl) (pi_list (pe_ix ix_tup (pv 1) pe_int (fun _ _ => rfl))) (pg_tup (by rfl) (pgs_cons (pg_name (i := 2) sc_Desk_to.nd rfl (Or.inl rfl)) (pgs_cons (pg_name (i := 3) sc_Desk_to.nd rfl (Or.inl rfl)) pgs_nil)))
      (pss_one (ps_expr (pe_meth (pe_fld (pv 0) rfl) T.c_Map T.q_Map_put (ok_Map_put T) (hr.mono (by decide)) T.b_Map_put .nil passN0 (pa_cons (pv 2) (pa_cons (pv 3) pa_nil))))))
      (pss_one (ps_fld (pv 0) (pe_callTy (call_dictP rfl) (by rfl) T.n_dict (by decide +kernel) (pa_cons (pe_lockR (pe_lc (own := [("name", 2)]) (g := gName 2) (tt := tYes) (by rfl) sc_Desk_to.nd (pi_keys (pe_ix ix_tup (pv 1) pe_int (fun _ _ => rfl))) (blkOk_by (own := [("name", 2)]) (N := ["self", "stand", "name", "point"]) (sc := defScope s_Desk_to) (by decide +kernel)) (fun _ _ _ _ _ => (pg_name (i := 2) sc_Desk_to.nd rfl (Or.inl rfl))) (fun _ _ _ _ _ => pts_nil) (fun _ _ _ _ _ => (pe_tup (pa_cons (pv 2) (pa_cons (pe_callTy (call_list_ofK (K := K) rfl) (by rfl) T.n_list (by decide +kernel) (pa_cons (pe_dget (hu_of hr) (pe_ix (ix_tupK (K := K) rfl) (pv 1) pe_int (fun _ _ => rfl)) (pv 2) (fun _ _ => rfl)) pa_nil)) pa_nil)))))) pa_nil)) rfl)))), ?_⟩
    obtain ⟨ml, dd, ts, tls, ht, hml, hw, hdd, htl, rfl⟩ := hst
    have nml : ml ∉ D.own := hfp ml (List.mem_cons_self ..)
    have ndd : dd ∉ D.own := hfp dd (List.mem_cons_of_mem _ (List.mem_cons_self ..))
    have ntl : ∀ b ∈ tls, b ∉ D.own := fun b hb => hfp b (List.mem_cons_of_mem _ (List.mem_cons_of_mem _ hb))
    refine fun mm dx nm ndx nex => mk_map nm ndx nex.symm rfl fun R H2 e1 s2 frR hm => ⟨rfl, ?_⟩
    subst e1
    have hd2 := hd0.same s2
    obtain ⟨hd3, to3⟩ := hd0.newHere s2 frR hm
    refine ⟨_, rfl, D.dk, _, D.dx, _, rfl, hd2.ins, T.c_Desk, T.nA_Desk_here, by simp, ?_⟩
    have e0 : putF "here" (V.ref R.m) [(("here" : Str), V.ref D.R.m), ("tags_of", V.ref D.td), ("past", V.ref D.pa), ("ahead", V.ref D.ah)] = [(("here" : Str), V.ref R.m), ("tags_of", V.ref D.td), ("past", V.ref D.pa), ("ahead", V.ref D.ah)] := rfl
    rw [e0]
    generalize upd H2 D.dk (.ins T.C_Desk D.dx [("here", .ref R.m), ("tags_of", .ref D.td), ("past", .ref D.pa), ("ahead", .ref D.ah)]) = H3 at hd3 to3 ⊢
    have lenL : (ts.map V.ref).length = st.1.length := by
      rw [List.length_map, paired_len hw]
      unfold NM.namesOf
      rw [List.length_map]
    have ht3 := to3.kt _ _ ht
    refine ⟨_, rfl, t, _, _, .ref ml, rfl, rfl, sqT ht3, atI_nat (j := 0) rfl, ml, rfl, ⟨_, sqL (to3.keep _ _ nml hml)⟩, for_enum (enum_list (xs := ts.map V.ref)) (fun i σ H' => ∃ x2 x3, σ = [some (.ref D.dk), some (.ref t), x2, x3] ∧ DeskTo H H' D { D with R := R } ∧ DeskAt T.C_Desk T.C_Map H' { D with R := R } (st.1.take i) tg past ahead) ⟨none, none, rfl, to3, hd3⟩ ?_ ?_ ?_⟩
    · rintro i σ H5 _ ⟨_, _, rfl, to5, _⟩
      exact sqL (to5.keep _ _ nml hml)
    · rintro i v σ H5 ev ⟨x2, x3, rfl, to5, hd5⟩
      obtain ⟨tt, n, u, rfl, _, en, htt, hu⟩ := hw.at ev
      obtain ⟨n1, n2, n3, n4, n5⟩ := take_next sok.ok en
      refine ⟨tt, _, rfl, sqT (to5.kt _ _ htt), rfl, _, _, rfl, _, [], rfl, rfl, ?_⟩
      refine ⟨_, rfl, D.dk, _, _, _, _, rfl, hd5.ins, T.c_Desk, T.nA_Desk_here, rfl, R.m, _, _, rfl, MapG.ins hd5.map, rfl, _, rfl, _, rfl, R, _, _, u, rfl, hd5.map, trivial, ?_, (hu.keepT to5.kt).pd, .inl ⟨_, _, rfl, n1, n2, n3, hu.keepT to5.kt, n4, fun H6 s6 hm6 => ?_⟩⟩
      · intro x e
        injection e with e
        rw [← e]
        have := nameS_len n1
        show n.cps.size ≤ 1000
        omega
      obtain ⟨hd6, to6⟩ := hd5.setMap s6 hm6
      exact ⟨_, _, rfl, to5.trans to6, by rw [n5]; exact hd6⟩
    rintro σ H5 ⟨x2, x3, rfl, to5, hd5⟩
    rw [lenL, List.take_length] at hd5
    clear ht3 hd3 to3 hm frR s2 hd2
    have ht5 := to5.kt _ _ ht
    have hdd5 := to5.keep _ _ ndd hdd
    have htl5 : TgL H5 tls st.2 := htl.keep fun b hb o e => to5.keep b o (ntl b hb) e
    have ltl := htl.len
    have ndT := sok.nd
    have lenT := sok.len
    have ek : (tgK st.2 tls).map (fun kv => kV kv.1) = (st.2.map (·.1)).map V.str := keys_at (tgK_keys ltl)
    have etd : t ≠ dd := ne_of ht5 hdd5 (by intro e; cases e)
    refine ⟨dd, .dK (tgK st.2 tls), _, hdd5, .inl rfl, trivial, fun od => ⟨_, rfl, t, _, _, .ref dd, rfl, rfl, sqT (by rw [upd_ne etd]; exact ht5), atI_nat (j := 1) rfl, dd, od, rfl, .inl ⟨_, upd_same, lc_inv enum_keys (fun D' i acc H' => Same (upd H5 dd (.frz od (.dK (tgK st.2 tls)))) H' ∧ (∃ o, H' D' = some o) ∧ ∃ ts2 tls2, acc = ts2.map V.ref ∧ Paired (fun t kv => H' t = some (.tup [kV kv.1, kv.2]) ∧ t ≠ D') ts2 (tgK (st.2.take i) tls2) ∧ TgL H' tls2 (st.2.take i) ∧ tls2.Nodup ∧ ∀ l ∈ tls2, H5 l = none ∧ l ≠ D') ?_ ?_ ?_ ?_ ?_⟩⟩⟩
    · intro D' nD
      exact ⟨same_upd nD, ⟨_, upd_same⟩, [], [], rfl, .nil, .nil, .nil, fun l hl => nomatch hl⟩
    · rintro D' i acc H' nD ⟨s, _⟩
      exact s _ _ upd_same
    · rw [ek, List.length_map, List.length_map]; exact small1000 (by omega)
    · rintro D' i x acc H6 Cy Cn nD hD ex ⟨s6, _, ts2, tls2, rfl, w1, w2, w3, w4⟩ h1 _
      show if true = true then _ else Cn H6
      rw [if_pos rfl]
      rw [ek] at ex
      obtain ⟨n, rfl, hn, en⟩ := str_at ex
      obtain ⟨p, ep, rfl⟩ : ∃ p, st.2[i]? = some p ∧ p.1 = n := by
        rw [List.getElem?_map] at en
        cases e : st.2[i]? with
        | none => rw [e] at en; cases en
        | some p => rw [e] at en; exact ⟨p, rfl, Option.some.inj en⟩
      obtain ⟨tl, htl', vt, hl⟩ := htl5.get hn
      rw [tagOf_mem ndT (List.mem_of_getElem? ep)] at hl
      have etl : tl ≠ dd := ne_of hl hdd5 (by intro e; cases e)
      have hl6 := s6 _ _ (show upd H5 dd (.frz od (.dK (tgK st.2 tls))) tl = _ by rw [upd_ne etl]; exact hl)
      have ht6 := s6 _ _ (show upd H5 dd (.frz od (.dK (tgK st.2 tls))) t = _ by rw [upd_ne etd]; exact ht5)
      have gf : DGet H6 dd (.str p.1) (some (.ref tl)) := .inl ⟨_, .inr p.1, .inr ⟨od, s6 _ _ upd_same⟩, rfl, vt.symm⟩
      refine ⟨_, rfl, _, rfl, t, _, _, .ref dd, rfl, rfl, sqT ht6, atI_nat (j := 1) rfl, _, rfl, dd, _, rfl, gf, tl, _, rfl, .inl (sqL hl6), fun l nl => ⟨(by show 2 ≤ sizeLine; decide), fun t2 nt2 => ?_⟩⟩
      have nl5 : H5 l = none := none_of_upd (s6.free nl)
      have sl := same_upd (o := .lst (p.2.map V.str)) nl
      have st2 := same_upd (o := .tup [.str p.1, .ref l]) nt2
      have hl7 : upd H6 l (.lst (p.2.map V.str)) l = some (.lst (p.2.map V.str)) := upd_same
      have hD7 := st2 _ _ (sl _ _ hD)
      have ht7 := upd_same (H := upd H6 l (.lst (p.2.map V.str))) (a := t2) (o := .tup [.str p.1, .ref l])
      have hl8 := st2 _ _ hl7
      have s8 := sl.trans st2
      have nlD : l ≠ D' := fun e => by rw [e, hD] at nl; cases nl
      have ntD : t2 ≠ D' := fun e => by rw [e, sl _ _ hD] at nt2; cases nt2
      generalize upd (upd H6 l (.lst (p.2.map V.str))) t2 (.tup [.str p.1, .ref l]) = H8 at hD7 ht7 hl8 s8 ⊢
      have et : st.2.take (i + 1) = st.2.take i ++ [p] := by rw [List.take_add_one, ep]; rfl
      have l2 := w2.len
      refine h1 _ _ hD7 ⟨fun b o e => by rw [upd_ne (ne_of_none e nD)]; exact s8 _ _ (s6 _ _ e), ⟨_, upd_same⟩, ts2 ++ [t2], tls2 ++ [l], by rw [List.map_append]; rfl, ?_, ?_, ?_, ?_⟩
      · rw [et, tgK_add l2]
        exact paired_snoc' (Paired.mapP w1 fun a kv ⟨h1, h2⟩ => ⟨by rw [upd_ne h2]; exact s8 _ _ h1, h2⟩) ⟨by rw [upd_ne ntD]; exact ht7, ntD⟩
      · rw [et]
        exact paired_snoc' (TgL.keep w2 fun b hb o e => by rw [upd_ne (w4 b hb).2]; exact s8 _ _ e) (by rw [upd_ne nlD]; exact hl8)
      · refine List.nodup_append.mpr ⟨w3, by simp, fun a ha b hb e => ?_⟩
        rw [List.mem_singleton] at hb
        have : a = l := e.trans hb
        have hx : ∃ o, H6 a = some o := by
          have go : ∀ {tls : List Addr} {tg : Tg}, TgL H6 tls tg → a ∈ tls → ∃ o, H6 a = some o := fun {tls tg} h hb => by
            induction h with
            | nil => exact nomatch hb
            | cons h _ ih =>
              rcases List.mem_cons.mp hb with e | hb
              · rw [e]; exact ⟨_, h⟩
              · exact ih hb
          exact go w2 ha
        obtain ⟨o, eo⟩ := hx
        rw [this, nl] at eo
        cases eo
      · intro x hx
        rcases List.mem_append.mp hx with hx | hx
        · exact w4 x hx
        · rw [List.mem_singleton.mp hx]; exact ⟨nl5, nlD⟩
    rintro D' H6 acc nD hD ⟨s6, _, ts2, tls2, rfl, w1, w2, w3, w4⟩
    rw [ek, List.length_map, List.length_map, List.take_length] at w1 w2
    refine ⟨s6 _ _ upd_same, ?_⟩
    have s7 : Same H5 (upd H6 dd (.dK (tgK st.2 tls))) := same_unlock hdd5 s6
    have hfz := s6 _ _ (upd_same (H := H5) (a := dd) (o := .frz od (.dK (tgK st.2 tls))))
    have nDd : D' ≠ dd := ne_of hD hfz (by intro e; cases e)
    have hD7 : upd H6 dd (.dK (tgK st.2 tls)) D' = some (.lst (ts2.map V.ref)) := by rw [upd_ne nDd]; exact hD
    have w17 : Paired (fun p kv => SqT K (upd H6 dd (.dK (tgK st.2 tls))) p [kV kv.1, kv.2]) ts2 (tgK st.2 tls2) := Paired.mapP w1 fun a kv ⟨h1, _⟩ => sqT (by rw [upd_ne (ne_of h1 hfz (by intro e; cases e))]; exact h1)
    have w27 : TgL (upd H6 dd (.dK (tgK st.2 tls))) tls2 st.2 := TgL.keep w2 fun b hb o e => by rw [upd_ne (fun z => by have := (w4 b hb).1; rw [z, hdd5] at this; cases this)]; exact e
    generalize upd H6 dd (.dK (tgK st.2 tls)) = H7 at s7 hD7 w17 w27 ⊢
    refine ⟨D', ts2, _, rfl, sqL hD7, w17, fun d2 nd2 => ?_⟩
    rw [merge_nil (by rw [tgK_keys w27.len]; exact nodup_inr ndT)]
    have s8 := s7.trans (same_upd (o := .dK (tgK st.2 tls2)) nd2)
    have hd8 := upd_same (H := H7) (a := d2) (o := .dK (tgK st.2 tls2))
    have w28 : TgL (upd H7 d2 (.dK (tgK st.2 tls2))) tls2 st.2 := TgL.keep w27 fun b _ o e => (same_upd nd2) b o e
    have nd25 : H5 d2 = none := s7.free nd2
    have dn : d2 ∉ tls2 := fun z => by
      have go : ∀ {tls : List Addr} {tg : Tg}, TgL H7 tls tg → d2 ∈ tls → ∃ o, H7 d2 = some o := fun {tls tg} h hb => by
        induction h with
        | nil => exact nomatch hb
        | cons h _ ih =>
          rcases List.mem_cons.mp hb with e | hb
          · rw [e]; exact ⟨_, h⟩
          · exact ih hb
      obtain ⟨o, e⟩ := go w27 z
      rw [nd2] at e; cases e
    obtain ⟨hd9, to9⟩ := hd5.newTags s8 hd8 w28 ndT lenT sok.tgw w3 nd25 (fun b hb => (w4 b hb).1) dn
    have hi8 := s8 _ _ hd5.ins
    refine ⟨_, rfl, D.dk, _, D.dx, _, rfl, hi8, T.c_Desk, T.nA_Desk_tags_of, by simp, ?_⟩
    have e0 : putF "tags_of" (V.ref d2) [(("here" : Str), V.ref R.m), ("tags_of", V.ref D.td), ("past", V.ref D.pa), ("ahead", V.ref D.ah)] = [(("here" : Str), V.ref R.m), ("tags_of", V.ref d2), ("past", V.ref D.pa), ("ahead", V.ref D.ah)] := rfl
    rw [e0]
    exact q _ _ (to5.trans to9) hd9

def sp_Desk_move (C CM CN CP : Addr) : Sp := fun vs H Q E => ∃ (D : DeskR) (M : PM) (tg : Tg) (past ahead : List Stand) (v u : V), vs = [.ref D.dk, v, u] ∧ DeskAt C CM H D M tg past ahead ∧ past.length ≤ 900 ∧ Dat H v ∧ (∀ x, v = .str x → x.length ≤ 1000) ∧ PD H u ∧
  ((∃ n p, v = .str n ∧ n ∈ namesOf M ∧ PtAt H u p ∧ PtOk p ∧ ∀ D' H', DeskTo H H' D D' → FpsNew H D D' → DeskAt C CM H' D' (dropP M n ++ [(n, p)]) tg (past ++ [(sortP M, tg)]) [] → Q .non H') ∨
   ((∀ n, v = .str n → n ∉ namesOf M) ∧ ∀ H', Same H H' → E (.ref CN) none H') ∨
   (∃ n, v = .str n ∧ n ∈ namesOf M ∧ isPoint H u = false ∧ ∀ H', Same H H' → E (.ref CP) none H'))
theorem ok_Desk_move (T : Tx K mg) : FnOk P w K mg base (L2N.CX P w) 7 T.f_Desk_move T.d_Desk_move ["self", "name", "point"] (sp_Desk_move T.C_Desk T.C_Map T.C_BadName T.C_BadPoint) := by
  refine okN T.F_Desk_move sc_Desk_move (fun vs H Q E h => ?_) (fun cdv A outer s H vs Q E hr h => ?_)
  · obtain ⟨D, M, tg, past, ahead, v, u, rfl, _⟩ := h
    rfl
  · obtain ⟨D, M, tg, past, ahead, v, u, rfl, hd0, lp, dv, lv, du, k⟩ := h
    refine ⟨_, (pss_cons (ps_set (i := 3) sc_Desk_move.nd rfl (Or.inl rfl) (pe_meth0 (pv 0) T.c_Desk T.q_Desk_stand (ok_Desk_stand T) (hr.mono (by decide)) T.b_Desk_stand .nil pass0 ))
      (pss_cons (ps_expr (pe_meth (pe_fld (pv 0) rfl) T.c_Map T.q_Map_move (ok_Map_move T) (hr.mono (by decide)) T.b_Map_move .nil (L2N.passes_call (L2N.takes_of rfl rfl rfl rfl) (fun _ _ _ _ h => h)) (pa_cons (pv 1) (pa_cons (pv 2) pa_nil))))
      (pss_one (ps_expr (pe_meth (pv 0) T.c_Desk T.q_Desk_keep (ok_Desk_keep T) (hr.mono (by decide)) T.b_Desk_keep .nil pass0 (pa_cons (pv 3) pa_nil)))))), ?_⟩
    refine ⟨_, rfl, D.dk, _, _, rfl, hd0.ins, rfl, D, M, tg, past, ahead, rfl, hd0, fun t fp H1 s1 hst hfp nt => ?_⟩
    have hd1 := hd0.same s1
    have nown : ∀ b ∈ fp, b ∉ D.own := fun b hb => hd0.notin (hfp b hb)
    refine ⟨_, rfl, D.dk, _, _, _, _, rfl, hd1.ins, T.c_Desk, T.nA_Desk_here, rfl, D.R.m, _, _, rfl, MapG.ins hd1.map, rfl, _, rfl, _, rfl, D.R, M, v, u, rfl, hd1.map, dv.same s1, lv, du.same s1, ?_⟩
    rcases k with ⟨n, p, rfl, hn, pu, po, q⟩ | ⟨h1, q⟩ | ⟨n, rfl, hn, h4, q⟩
    rotate_left
    · exact .inr (.inl ⟨h1, fun H2 s2 => q H2 (s1.trans s2)⟩)
    · exact .inr (.inr ⟨n, rfl, hn, (isPoint_same du s1).trans h4, fun H2 s2 => q H2 (s1.trans s2)⟩)
    refine .inl ⟨n, p, rfl, hn, pu.same s1, po, fun H2 s2 hm2 => ?_⟩
    obtain ⟨hd2, to2⟩ := hd1.setMap s2 hm2
    obtain ⟨hst2, nown2⟩ := hst.to nown to2
    exact ⟨_, rfl, D.dk, _, _, rfl, hd2.ins, rfl, _, rfl, _, _, _, past, ahead, t, _, fp, rfl, hd2, hst2, nown2, lp, fun ah H5 nah to5 hd5 => q _ _ (((DeskTo.of_same s1).trans to2).trans to5) (fpsNew_of (t := t) (fp := fp) rfl rfl hfp) hd5⟩

def sp_Desk_tag (C CM CN CT : Addr) : Sp := fun vs H Q E => ∃ (D : DeskR) (M : PM) (tg : Tg) (past ahead : List Stand) (v u : V), vs = [.ref D.dk, v, u] ∧ DeskAt C CM H D M tg past ahead ∧ (tg.map (·.1)).Perm (namesOf M) ∧ past.length ≤ 900 ∧ Dat H v ∧ (∀ x, v = .str x → x.length ≤ 1000) ∧ Dat H u ∧ (∀ x, u = .str x → x.length ≤ 1000) ∧
  ((∃ n w, v = .str n ∧ n ∈ namesOf M ∧ u = .str w ∧ nameS w = true ∧ w ∉ tagOf tg n ∧ (tagOf tg n).length < 5 ∧ ∀ D' H', DeskTo H H' D D' → FpsNew H D D' → DeskAt C CM H' D' M (setTg tg n (tagOf tg n ++ [w])) (past ++ [(sortP M, tg)]) [] → Q .non H') ∨
   ((∀ n, v = .str n → n ∉ namesOf M) ∧ ∀ H', Same H H' → E (.ref CN) none H') ∨
   (∃ n, v = .str n ∧ n ∈ namesOf M ∧ (isName u = false ∨ (∃ w ∈ tagOf tg n, u = .str w) ∨ 5 ≤ (tagOf tg n).length) ∧ ∀ H', Same H H' → E (.ref CT) none H'))
theorem ok_Desk_tag (T : Tx K mg) : FnOk P w K mg base (L2N.CX P w) 4 T.f_Desk_tag T.d_Desk_tag ["self", "name", "word"] (sp_Desk_tag T.C_Desk T.C_Map T.C_BadName T.C_BadTag) := by
  refine okN T.F_Desk_tag sc_Desk_tag (fun vs H Q E h => ?_) (fun cdv A outer s H vs Q E hr h => ?_)
  · obtain ⟨D, M, tg, past, ahead, v, u, rfl, _⟩ := h
    rfl
  · obtain ⟨D, M, tg, past, ahead, v, u, rfl, hd0, tgn, lp, dv, lv, du, lu, k⟩ := h
    refine ⟨_, (pss_cons (ps_expr (pe_meth (pe_fld (pv 0) rfl) T.c_Map T.q_Map_point (ok_Map_point T) (hr.mono (by decide)) T.b_Map_point .nil (L2N.passes_call (L2N.takes_of rfl rfl rfl rfl) (fun _ _ _ _ h => h)) (pa_cons (pv 1) pa_nil)))
      (pss_cons (ps_set (i := 3) sc_Desk_tag.nd rfl (Or.inl rfl) (pe_dget (hu_of hr) (pe_fld (pv 0) rfl) (pv 1) (fun _ _ => rfl)))
      (pss_cons (ps_if (PW.pt (pw_or (pt_not (pt_val (pe_call (ok_is_name T) (hr.mono (by decide)) (by rfl) T.g_is_name T.F_is_name.kp T.b_is_name .nil pass0 (pa_cons (pv 2) pa_nil)))) (pw_or (pt_cmpR op_in_seq (pv 2) (pv 3) (by rfl)) (pw_or1 (pt_cmpR op_ge (pe_callB call_len_seq (by rfl) T.n_len (by decide +kernel) (pa_cons (pv 3) pa_nil)) (pe_glob (v := .int 5) (by rfl) T.g_MOST_TAGS ⟨_, rfl⟩) (nomark _)))))) (pss_one (L2N.ps_raise rfl (L2N.takes_of rfl rfl rfl rfl) (L2N.pmk_own PySem.F.excBase_ValueError T.x_BadTag T.g_BadTag T.k_BadTag (raises_own T.e_BadTag T.t_BadTag) (by rfl)))) pss_nil)
      (pss_cons (ps_expr (pe_meth (pv 0) T.c_Desk T.q_Desk_keep (ok_Desk_keep T) (hr.mono (by decide)) T.b_Desk_keep .nil pass0 (pa_cons (pe_meth0 (pv 0) T.c_Desk T.q_Desk_stand (ok_Desk_stand T) (hr.mono (by decide)) T.b_Desk_stand .nil pass0 ) pa_nil)))
      (pss_one (ps_expr (pe_bm PySem.F.plainAttrs_list PySem.F.slot_list_append PySem.F.type_list_append mt_append (pv 3) (pa_cons (pv 2) pa_nil)))))))), ?_⟩
    refine ⟨_, rfl, D.dk, _, _, _, _, rfl, hd0.ins, T.c_Desk, T.nA_Desk_here, rfl, D.R.m, _, _, rfl, MapG.ins hd0.map, rfl, _, rfl, D.R, M, v, rfl, hd0.map, dv, lv, ?_⟩
    by_cases hv : ∃ n, v = .str n ∧ n ∈ NM.namesOf M
    rotate_left
    · have hv' : ∀ n, v = .str n → n ∉ NM.namesOf M := fun n e z => hv ⟨n, e, z⟩
      rcases k with ⟨n, w, rfl, hn, _⟩ | ⟨h1, q⟩ | ⟨n, rfl, hn, _⟩
      · exact absurd hn (hv' n rfl)
      · exact .inr ⟨h1, q⟩
      · exact absurd hn (hv' n rfl)
    obtain ⟨n, rfl, hn⟩ := hv
    refine .inl ⟨n, rfl, hn, fun u1 H1 s1 _ => ?_⟩
    have hd1 := hd0.same s1
    obtain ⟨tl, htl, vt, hl⟩ := hd1.tgl.get (tgn.mem_iff.mpr hn)
    have g := DGet.k (k := Sum.inr n) hd1.tgd
    rw [vt] at g
    have tw := tagOf_w (n := n) hd0.tgw
    have hnt := tgn.mem_iff.mpr hn
    refine ⟨_, rfl, D.dk, _, _, _, _, rfl, hd1.ins, T.c_Desk, T.nA_Desk_tags_of, rfl, _, rfl, D.td, _, rfl, g, ?_⟩
    refine ⟨_, rfl, u, rfl, du.same s1, lu, fun H2 s2 => ⟨_, rfl, ?_⟩⟩
    have hd2 := hd1.same s2
    have hl2 := s2 _ _ hl
    have s02 := s1.trans s2
    have bad : (isName u = false ∨ (∃ w ∈ tagOf tg n, u = .str w) ∨ 5 ≤ (tagOf tg n).length) → E (.ref T.C_BadTag) none H2 := fun b => by
      rcases k with ⟨n', w, e1, _, rfl, c1, c2, c3, q⟩ | ⟨h1, q⟩ | ⟨n', e1, _, _, q⟩
      · injection e1 with e1
        rw [← e1] at c2 c3
        rcases b with b | ⟨w', hw', b⟩ | b
        · rw [show isName (.str w) = nameS w from rfl, c1] at b; cases b
        · injection b with b
          rw [← b] at hw'
          exact absurd hw' c2
        · omega
      · exact absurd hn (h1 n rfl)
      · exact q H2 s02
    cases en : isName u with
    | false => exact iteT (iteT (bad (.inl en)))
    | true =>
      obtain ⟨w, rfl, hw⟩ : ∃ w, u = .str w ∧ nameS w = true := by
        cases u <;> simp [isName] at en
        exact ⟨_, rfl, en⟩
      refine iteF ⟨_, rfl, _, rfl, tl, _, rfl, .inl (sqL hl2), rfl, flat_strs _, _, rfl, ?_⟩
      rw [inV_str]
      by_cases c : w ∈ tagOf tg n
      · rw [decide_eq_true c]
        exact iteT (iteT (bad (.inr (.inl ⟨w, c, rfl⟩))))
      rw [decide_eq_false c]
      refine iteF ⟨_, rfl, tl, _, rfl, .inl (sqL hl2), _, _, rfl, rfl, _, rfl, ?_⟩
      rw [List.length_map]
      by_cases c5 : (5 : Int) ≤ ((tagOf tg n).length : Int)
      · rw [decide_eq_true c5]
        exact iteT (bad (.inr (.inr (by omega))))
      rw [decide_eq_false c5]
      refine iteF ?_
      refine ⟨_, rfl, D.dk, _, _, rfl, hd2.ins, rfl, _, rfl, D.dk, _, _, rfl, hd2.ins, rfl, D, M, tg, past, ahead, rfl, hd2, fun t fp H3 s3 hst hfp nt => ?_⟩
      have hd3 := hd2.same s3
      refine ⟨D, M, tg, past, ahead, t, _, fp, rfl, hd3, hst, fun b hb => hd2.notin (hfp b hb), lp, fun ah H4 nah to4 hd4 => ?_⟩
      obtain ⟨tl', _, vt', hl4⟩ := hd4.tgl.get hnt
      have ett : tl' = tl := by
        have e9 : some (V.ref tl') = some (V.ref tl) := vt'.symm.trans vt
        injection e9 with e9
        injection e9
      rw [ett] at hl4
      refine ⟨_, rfl, .inl ⟨rfl, _, sqL hl4⟩, _, rfl, tl, _, _, rfl, rfl, hl4, (by rw [List.length_map]; exact small1000 (by omega)), ?_⟩
      have e0 : (tagOf tg n).map V.str ++ [V.str w] = (tagOf tg n ++ [w]).map V.str := by simp
      rw [e0]
      have ndt := (own_parts.mp hd4.nd).2.1
      obtain ⟨hd5, to5⟩ := hd4.setTagL (tg' := setTg tg n (tagOf tg n ++ [w])) (xs := (tagOf tg n ++ [w]).map V.str) htl (hd4.tgl.setI ndt hd4.tnd vt) (tgK_names (setTg_names tg n _)) (by rw [setTg_names]; exact hd4.tnd) (by unfold setTg; rw [List.length_map]; exact hd4.tlen) (setTg_w hd4.tgw ⟨by rw [List.length_append]; show (tagOf tg n).length + 1 ≤ 5; omega, fun x hx => by
        rcases List.mem_append.mp hx with hx | hx
        · exact tw.2 x hx
        · rw [List.mem_singleton.mp hx]; exact hw⟩)
      rcases k with ⟨n', w', e1, _, e2, c1, c2, c3, q⟩ | ⟨h1, q⟩ | ⟨n', e1, _, b, q⟩
      · injection e1 with e1
        injection e2 with e2
        subst e1
        subst e2
        exact q _ _ (((DeskTo.of_same (s02.trans s3)).trans to4).trans to5) (fpsNew_of (t := t) (fp := fp) rfl rfl (fun b hb => s02.free (hfp b hb))) hd5
      · exact absurd hn (h1 n rfl)
      · injection e1 with e1
        rw [← e1] at b
        rcases b with b | ⟨w', hw', b⟩ | b
        · rw [show isName (.str w) = nameS w from rfl, hw] at b; cases b
        · injection b with b
          rw [← b] at hw'
          exact absurd hw' c
        · omega

def sp_Desk_untag (C CM CN CT : Addr) : Sp := fun vs H Q E => ∃ (D : DeskR) (M : PM) (tg : Tg) (past ahead : List Stand) (v u : V), vs = [.ref D.dk, v, u] ∧ DeskAt C CM H D M tg past ahead ∧ (tg.map (·.1)).Perm (namesOf M) ∧ past.length ≤ 900 ∧ Dat H v ∧ (∀ x, v = .str x → x.length ≤ 1000) ∧ Dat H u ∧ (∀ x, u = .str x → x.length ≤ 1000) ∧
  ((∃ n w, v = .str n ∧ n ∈ namesOf M ∧ u = .str w ∧ w ∈ tagOf tg n ∧ ∀ D' H', DeskTo H H' D D' → FpsNew H D D' → DeskAt C CM H' D' M (setTg tg n ((tagOf tg n).filter fun x => !decide (x = w))) (past ++ [(sortP M, tg)]) [] → Q .non H') ∨
   ((∀ n, v = .str n → n ∉ namesOf M) ∧ ∀ H', Same H H' → E (.ref CN) none H') ∨
   (∃ n, v = .str n ∧ n ∈ namesOf M ∧ (∀ w, u = .str w → w ∉ tagOf tg n) ∧ ∀ H', Same H H' → E (.ref CT) none H'))
theorem ok_Desk_untag (T : Tx K mg) : FnOk P w K mg base (L2N.CX P w) 4 T.f_Desk_untag T.d_Desk_untag ["self", "name", "word"] (sp_Desk_untag T.C_Desk T.C_Map T.C_BadName T.C_BadTag) := by
  refine okN T.F_Desk_untag sc_Desk_untag (fun vs H Q E h => ?_) (fun cdv A outer s H vs Q E hr h => ?_)
  · obtain ⟨D, M, tg, past, ahead, v, u, rfl, _⟩ := h
    rfl
  · obtain ⟨D, M, tg, past, ahead, v, u, rfl, hd0, tgn, lp, dv, lv, du, lu, k⟩ := h
    refine ⟨_, (pss_cons (ps_expr (pe_meth (pe_fld (pv 0) rfl) T.c_Map T.q_Map_point (ok_Map_point T) (hr.mono (by decide)) T.b_Map_point .nil (L2N.passes_call (L2N.takes_of rfl rfl rfl rfl) (fun _ _ _ _ h => h)) (pa_cons (pv 1) pa_nil)))
      (pss_cons (ps_if (PW.pt (pw_or (pt_not (pt_val (pe_callB call_isi (by rfl) T.n_isinstance (by decide +kernel) (pa_cons (pv 2) (pa_cons (pe_bltn (v := .ty "str") (by rfl) T.n_str (by decide +kernel) rfl) pa_nil))))) (pw_or1 (pt_cmpR op_notIn_seq (pv 2) (pe_dget (hu_of hr) (pe_fld (pv 0) rfl) (pv 1) (fun _ _ => rfl)) (by rfl))))) (pss_one (L2N.ps_raise rfl (L2N.takes_of rfl rfl rfl rfl) (L2N.pmk_own PySem.F.excBase_ValueError T.x_BadTag T.g_BadTag T.k_BadTag (raises_own T.e_BadTag T.t_BadTag) (by rfl)))) pss_nil)
      (pss_cons (ps_expr (pe_meth (pv 0) T.c_Desk T.q_Desk_keep (ok_Desk_keep T) (hr.mono (by decide)) T.b_Desk_keep .nil pass0 (pa_cons (pe_meth0 (pv 0) T.c_Desk T.q_Desk_stand (ok_Desk_stand T) (hr.mono (by decide)) T.b_Desk_stand .nil pass0 ) pa_nil)))
      (pss_one (ps_dput (hu_of hr) (pe_fld (pv 0) rfl) (pv 1) (pe_lc (own := [("own", 3)]) (g := gName 3)  (by rfl) sc_Desk_untag.nd (pi_list (pe_dget (hu_of hr) (pe_fld (pv 0) rfl) (pv 1) (fun _ _ => rfl))) (blkOk_by (own := [("own", 3)]) (N := ["self", "name", "word", "own"]) (sc := defScope s_Desk_untag) (by decide +kernel)) (fun _ _ _ _ _ => (pg_name (i := 3) sc_Desk_untag.nd rfl (Or.inl rfl))) (fun _ _ _ _ _ => (pts_one (pt_cmpR op_ne (pv 3) (pv 2) (nomark _)))) (fun _ _ _ _ _ => (pv 3))) rfl))))), ?_⟩
    refine ⟨_, rfl, D.dk, _, _, _, _, rfl, hd0.ins, T.c_Desk, T.nA_Desk_here, rfl, D.R.m, _, _, rfl, MapG.ins hd0.map, rfl, _, rfl, D.R, M, v, rfl, hd0.map, dv, lv, ?_⟩
    by_cases hv : ∃ n, v = .str n ∧ n ∈ NM.namesOf M
    rotate_left
    · have hv' : ∀ n, v = .str n → n ∉ NM.namesOf M := fun n e z => hv ⟨n, e, z⟩
      rcases k with ⟨n, w, rfl, hn, _⟩ | ⟨h1, q⟩ | ⟨n, rfl, hn, _⟩
      · exact absurd hn (hv' n rfl)
      · exact .inr ⟨h1, q⟩
      · exact absurd hn (hv' n rfl)
    obtain ⟨n, rfl, hn⟩ := hv
    refine .inl ⟨n, rfl, hn, fun u1 H1 s1 _ => ?_⟩
    have hd1 := hd0.same s1
    obtain ⟨tl, htl, vt, hl⟩ := hd1.tgl.get (tgn.mem_iff.mpr hn)
    have g := DGet.k (k := Sum.inr n) hd1.tgd
    rw [vt] at g
    have tw := tagOf_w (n := n) hd0.tgw
    have hnt := tgn.mem_iff.mpr hn
    have bad : (∀ w, u = .str w → w ∉ tagOf tg n) → E (.ref T.C_BadTag) none H1 := fun b => by
      rcases k with ⟨n', w, e1, _, rfl, c1, q⟩ | ⟨h1, q⟩ | ⟨n', e1, _, _, q⟩
      · injection e1 with e1
        rw [← e1] at c1
        exact absurd c1 (b w rfl)
      · exact absurd hn (h1 n rfl)
      · exact q H1 s1
    have du1 := du.same s1
    rcases tyN_cases du1 with ⟨e, t⟩ | ⟨b, e, t⟩ | ⟨i, e, t⟩ | ⟨x, e, t⟩ | ⟨a, xs, e, e2, t⟩ | ⟨a, xs, e, e2, t⟩
    · subst e
      exact ⟨_, rfl, _, _, _, _, false, rfl, .ty _, du1.ty, kit_ty (by rw [t]; decide +kernel), _, rfl, iteT (iteT (bad fun w e => by cases e))⟩
    · subst e
      exact ⟨_, rfl, _, _, _, _, false, rfl, .ty _, du1.ty, kit_ty (by rw [t]; decide +kernel), _, rfl, iteT (iteT (bad fun w e => by cases e))⟩
    · subst e
      exact ⟨_, rfl, _, _, _, _, false, rfl, .ty _, du1.ty, kit_ty (by rw [t]; decide +kernel), _, rfl, iteT (iteT (bad fun w e => by cases e))⟩
    rotate_left
    · subst e
      exact ⟨_, rfl, _, _, _, _, false, rfl, .ty _, du1.ty, kit_ty (by rw [t]; decide +kernel), _, rfl, iteT (iteT (bad fun w e => by cases e))⟩
    · subst e
      exact ⟨_, rfl, _, _, _, _, false, rfl, .ty _, du1.ty, kit_ty (by rw [t]; decide +kernel), _, rfl, iteT (iteT (bad fun w e => by cases e))⟩
    subst e
    refine ⟨_, rfl, _, _, _, _, true, rfl, .ty _, du1.ty, kit_ty (by rw [t]; decide +kernel), _, rfl, iteF ?_⟩
    refine ⟨_, rfl, _, rfl, D.dk, _, _, _, _, rfl, hd1.ins, T.c_Desk, T.nA_Desk_tags_of, rfl, _, rfl, D.td, _, rfl, g, tl, _, rfl, .inl (sqL hl), rfl, flat_strs _, _, rfl, ?_⟩
    rw [inV_str]
    by_cases c : x ∈ tagOf tg n
    rotate_left
    · rw [decide_eq_false c]
      exact iteT (bad fun w e => by injection e with e; rw [← e]; exact c)
    rw [decide_eq_true c]
    refine iteF' rfl ?_
    refine ⟨_, rfl, D.dk, _, _, rfl, hd1.ins, rfl, _, rfl, D.dk, _, _, rfl, hd1.ins, rfl, D, M, tg, past, ahead, rfl, hd1, fun t fp H3 s3 hst hfp nt => ?_⟩
    have hd3 := hd1.same s3
    refine ⟨D, M, tg, past, ahead, t, _, fp, rfl, hd3, hst, fun b hb => hd1.notin (hfp b hb), lp, fun ah H4 nah to4 hd4 => ?_⟩
    obtain ⟨tl', _, vt', hl4⟩ := hd4.tgl.get hnt
    have ett : tl' = tl := by
      have e9 : some (V.ref tl') = some (V.ref tl) := vt'.symm.trans vt
      injection e9 with e9
      injection e9
    rw [ett] at hl4
    have g4 := DGet.k (k := Sum.inr n) hd4.tgd
    rw [show valV (tgK tg _) (Sum.inr n) = _ from vt] at g4
    refine ⟨_, rfl, D.dk, _, _, _, _, rfl, hd4.ins, T.c_Desk, T.nA_Desk_tags_of, rfl, _, rfl, D.td, _, rfl, g4, tl, rfl, ⟨_, sqL hl4⟩, lc_fun (enum_list (xs := (tagOf tg n).map V.str)) (strP fun y => !decide (y = x)) (fun v => v) (fun D' H' nD s => sqL (s _ _ (ne_of_none hl4 nD) hl4)) (by rw [List.length_map]; exact small1000 (by omega)) ?_ ?_⟩
    · intro i v H7 Cy Cn ev s7 h1 h2
      obtain ⟨y, rfl, hy, _⟩ := str_at ev
      refine ⟨_, rfl, _, rfl, rfl, _, rfl, ?_⟩
      rw [str_eq]
      refine ite2 (fun c => ?_) (fun c => ?_)
      · exact ⟨_, rfl, h1 H7 (Same.refl _) c⟩
      · exact h2 H7 (Same.refl _) (Bool.eq_false_iff.mpr c)
    intro l H7 nl s7 hl7
    rw [map_idV, strP_filter] at hl7
    have hd7 := hd4.same s7
    have ltl := hd4.tgl.len
    refine ⟨_, rfl, D.dk, _, _, _, _, rfl, hd7.ins, T.c_Desk, T.nA_Desk_tags_of, rfl, _, rfl, D.td, _, rfl, DPut.k (k := Sum.inr n) hd7.tgd (by have := hd0.tlen; unfold tgK; rw [List.length_map, List.length_zip]; exact small1000 (by omega)), ?_⟩
    rw [tgK_set (ws := (tagOf tg n).filter fun y => !decide (y = x)) ltl hnt]
    have ndt := (own_parts.mp hd4.nd).2.1
    obtain ⟨hd8, to8⟩ := hd4.setTags s7 (tg' := setTg tg n ((tagOf tg n).filter fun y => !decide (y = x))) (tls' := setA tg D.tls n l) (TgL.setN hl7 hd7.tgl) (by rw [setTg_names]; exact hd4.tnd) (by unfold setTg; rw [List.length_map]; exact hd4.tlen) (setTg_w hd4.tgw ⟨Nat.le_trans (List.length_filter_le _ _) tw.1, fun y hy => tw.2 y (List.mem_filter.mp hy).1⟩) (setA_nodup ltl ndt hd4.tnd fun z => hd4.notin nl (own_tls (D := { D with ps := D.ps ++ [(t, fp)], ah := ah, as := [] }) z)) (fun b hb => by
      rcases setA_mem hb with z | z
      · exact .inl z
      · rw [z]; exact .inr nl)
    rcases k with ⟨n', w', e1, _, e2, c1, q⟩ | ⟨h1, q⟩ | ⟨n', e1, _, b, q⟩
    · injection e1 with e1
      injection e2 with e2
      subst e1
      subst e2
      exact q _ _ (((DeskTo.of_same (s1.trans s3)).trans to4).trans to8) (fpsNew_of (t := t) (fp := fp) rfl rfl (fun b hb => s1.free (hfp b hb))) hd8
    · exact absurd hn (h1 n rfl)
    · injection e1 with e1
      rw [← e1] at b
      exact absurd c (b x rfl)

def sp_Desk_undo (C CM CO : Addr) : Sp := fun vs H Q E => ∃ (D : DeskR) (M : PM) (tg : Tg) (past ahead : List Stand), vs = [.ref D.dk] ∧ DeskAt C CM H D M tg past ahead ∧ past.length ≤ 900 ∧ ahead.length ≤ 900 ∧
  ((∃ st rest, past = rest ++ [st] ∧ StOk st ∧ ∀ D' H', DeskTo H H' D D' → DeskAt C CM H' D' st.1 st.2 rest (ahead ++ [(sortP M, tg)]) → Q .non H') ∨
   (past = [] ∧ ∀ H', Same H H' → E (.ref CO) none H'))
theorem paired_last {α β : Type} {R : α → β → Prop} {l : List α} {m : List β} {b : β} (h : Paired R l (m ++ [b])) : ∃ l0 a, l = l0 ++ [a] ∧ Paired R l0 m ∧ R a b := by
  induction m generalizing l with
  | nil =>
    cases h with
    | cons r t =>
      cases t
      exact ⟨[], _, rfl, .nil, r⟩
  | cons c m ih =>
    cases h with
    | cons r t =>
      obtain ⟨l0, a, rfl, p, q⟩ := ih t
      exact ⟨_ :: l0, a, rfl, .cons r p, q⟩
theorem ok_Desk_undo (T : Tx K mg) : FnOk P w K mg base (L2N.CX P w) 6 T.f_Desk_undo T.d_Desk_undo ["self"] (sp_Desk_undo T.C_Desk T.C_Map T.C_Nothing) := by
  refine okN T.F_Desk_undo sc_Desk_undo (fun vs H Q E h => ?_) (fun cdv A outer s H vs Q E hr h => ?_)
  · obtain ⟨D, M, tg, past, ahead, rfl, _⟩ := h
    rfl
  · obtain ⟨D, M, tg, past, ahead, rfl, hd0, lp, la, k⟩ := h
    refine ⟨_, (pss_cons (ps_if (pt_cmpR (op_eq_list0 hr.units) (pe_fld (pv 0) rfl) (pe_lst pa_nil) (nomark _)) (pss_one (L2N.ps_raise rfl (L2N.takes_of rfl rfl rfl rfl) (L2N.pmk_own PySem.F.excBase_ValueError T.x_Nothing T.g_Nothing T.k_Nothing (raises_own T.e_Nothing T.t_Nothing) (by rfl)))) pss_nil)
      (pss_cons (ps_expr (pe_bm PySem.F.plainAttrs_list PySem.F.slot_list_append PySem.F.type_list_append mt_append (pe_fld (pv 0) rfl) (pa_cons (pe_meth0 (pv 0) T.c_Desk T.q_Desk_stand (ok_Desk_stand T) (hr.mono (by decide)) T.b_Desk_stand .nil pass0 ) pa_nil)))
      (pss_one (ps_expr (pe_meth (pv 0) T.c_Desk T.q_Desk_to (ok_Desk_to T) (hr.mono (by decide)) T.b_Desk_to .nil pass0 (pa_cons (pe_bm0 PySem.F.plainAttrs_list PySem.F.slot_list_pop PySem.F.type_list_pop mt_pop (pe_fld (pv 0) rfl) ) pa_nil)))))), ?_⟩
    refine ⟨_, rfl, D.dk, _, _, _, _, rfl, hd0.ins, T.c_Desk, T.nA_Desk_past, rfl, Nat.zero_le _, fun e0 ne0 => ?_⟩
    have s1 := same_upd (o := .lst []) ne0
    have h0 := upd_same (H := H) (a := e0) (o := .lst [])
    generalize upd H e0 (.lst []) = H1 at s1 h0 ⊢
    have hd1 := hd0.same s1
    refine ⟨D.pa, e0, _, rfl, rfl, sqL hd1.pst, sqL h0, _, rfl, ?_⟩
    rcases k with ⟨st, rest, rfl, sok, q⟩ | ⟨rfl, q⟩
    rotate_left
    · have e1 : D.ps = [] := List.length_eq_zero_iff.mp (paired_len hd0.psA)
      rw [e1]
      exact iteT (q H1 s1)
    obtain ⟨ps0, t0, e1, pr, hst0⟩ := paired_last hd1.psA
    have e2 : (D.ps.map fun p => V.ref p.1).isEmpty = false := by rw [e1]; simp
    rw [e2]
    refine iteF ?_
    refine ⟨_, rfl, D.dk, _, _, _, _, rfl, hd1.ins, T.c_Desk, T.nA_Desk_ahead, rfl, .inl ⟨rfl, _, sqL hd1.aht⟩, _, rfl, D.dk, _, _, rfl, hd1.ins, rfl, D, M, tg, rest ++ [st], ahead, rfl, hd1, fun t fp H2 s2 hst hfp nt => ?_⟩
    have hd2 := hd1.same s2
    have las : D.as.length = ahead.length := paired_len hd1.asA
    refine ⟨D.ah, _, _, rfl, rfl, hd2.aht, (by rw [List.length_map]; exact small1000 (by omega)), ?_⟩
    have nown : ∀ b ∈ fp, b ∉ D.own := fun b hb => hd1.notin (hfp b hb)
    obtain ⟨hd3, to3⟩ := hd2.setAhead (as' := D.as ++ [(t, fp)]) (ahead' := ahead ++ [(sortP M, tg)]) (paired_snoc hd2.asA hst) (fun p hp b hb => by
      rcases List.mem_append.mp hp with hp | hp
      · exact hd2.sep p (List.mem_append_right _ hp) b hb
      · rw [List.mem_singleton.mp hp] at hb; exact nown b hb)
    have e3 : ((D.as ++ [(t, fp)]).map fun p => V.ref p.1) = (D.as.map fun p => V.ref p.1) ++ [V.ref t] := by rw [List.map_append]; rfl
    rw [e3] at hd3 to3
    generalize upd H2 D.ah (.lst ((D.as.map fun p => V.ref p.1) ++ [V.ref t])) = H3 at hd3 to3 ⊢
    have ep : (D.ps.map fun p => V.ref p.1) = (ps0.map fun p => V.ref p.1) ++ [V.ref t0.1] := by rw [e1, List.map_append]; rfl
    have pst3 := hd3.pst
    rw [show (DeskR.ps { D with as := D.as ++ [(t, fp)] }) = D.ps from rfl, ep] at pst3
    refine ⟨_, rfl, D.dk, _, _, rfl, hd3.ins, rfl, _, rfl, D.dk, _, _, _, _, rfl, hd3.ins, T.c_Desk, T.nA_Desk_past, rfl, .inl ⟨rfl, _, sqL pst3⟩, D.pa, _, .ref t0.1, rfl, rfl, pst3, by simp, ?_⟩
    rw [List.dropLast_concat]
    have nown0 : ∀ b ∈ t0.2, b ∉ D.own := hd1.sep t0 (by rw [e1]; simp)
    obtain ⟨hst2, _⟩ := (show StAt H1 t0.1 st t0.2 from hst0).to nown0 (DeskTo.of_same s2)
    obtain ⟨hst3, nown3⟩ := hst2.to nown0 to3
    obtain ⟨ps3, t3, e5, pr3, _⟩ := paired_last hd3.psA
    obtain ⟨rfl, rfl⟩ : ps3 = ps0 ∧ t3 = t0 := by
      have e6 : ps3 ++ [t3] = ps0 ++ [t0] := e5.symm.trans e1
      have := List.append_inj' e6 rfl
      exact ⟨this.1, by simpa using this.2⟩
    obtain ⟨hd4, to4⟩ := hd3.setPast (ps' := ps3) (past' := rest) pr3 (fun p hp b hb => hd3.sep p (List.mem_append_left _ (by rw [e5]; exact List.mem_append_left _ hp)) b hb)
    obtain ⟨hst4, nown4⟩ := hst3.to nown3 to4
    exact ⟨{ D with as := D.as ++ [(t, fp)], ps := ps3 }, M, tg, rest, _, t3.1, st, t3.2, rfl, hd4, hst4, nown4, sok, fun D' H5 to5 hd5 => q D' H5 ((((DeskTo.of_same (s1.trans s2)).trans to3).trans to4).trans to5) hd5⟩

def sp_Desk_redo (C CM CO : Addr) : Sp := fun vs H Q E => ∃ (D : DeskR) (M : PM) (tg : Tg) (past ahead : List Stand), vs = [.ref D.dk] ∧ DeskAt C CM H D M tg past ahead ∧ past.length ≤ 900 ∧ ahead.length ≤ 900 ∧
  ((∃ st rest, ahead = rest ++ [st] ∧ StOk st ∧ ∀ D' H', DeskTo H H' D D' → DeskAt C CM H' D' st.1 st.2 (past ++ [(sortP M, tg)]) rest → Q .non H') ∨
   (ahead = [] ∧ ∀ H', Same H H' → E (.ref CO) none H'))
theorem paired_lastR {α β : Type} {R : α → β → Prop} {l : List α} {m : List β} {b : β} (h : Paired R l (m ++ [b])) : ∃ l0 a, l = l0 ++ [a] ∧ Paired R l0 m ∧ R a b := by
  induction m generalizing l with
  | nil =>
    cases h with
    | cons r t =>
      cases t
      exact ⟨[], _, rfl, .nil, r⟩
  | cons c m ih =>
    cases h with
    | cons r t =>
      obtain ⟨l0, a, rfl, p, q⟩ := ih t
      exact ⟨_ :: l0, a, rfl, .cons r p, q⟩
theorem ok_Desk_redo (T : Tx K mg) : FnOk P w K mg base (L2N.CX P w) 6 T.f_Desk_redo T.d_Desk_redo ["self"] (sp_Desk_redo T.C_Desk T.C_Map T.C_Nothing) := by
  refine okN T.F_Desk_redo sc_Desk_redo (fun vs H Q E h => ?_) (fun cdv A outer s H vs Q E hr h => ?_)
  · obtain ⟨D, M, tg, past, ahead, rfl, _⟩ := h
    rfl
  · obtain ⟨D, M, tg, past, ahead, rfl, hd0, lp, la, k⟩ := h
    refine ⟨_, (pss_cons (ps_if (pt_cmpR (op_eq_list0 hr.units) (pe_fld (pv 0) rfl) (pe_lst pa_nil) (nomark _)) (pss_one (L2N.ps_raise rfl (L2N.takes_of rfl rfl rfl rfl) (L2N.pmk_own PySem.F.excBase_ValueError T.x_Nothing T.g_Nothing T.k_Nothing (raises_own T.e_Nothing T.t_Nothing) (by rfl)))) pss_nil)
      (pss_cons (ps_expr (pe_bm PySem.F.plainAttrs_list PySem.F.slot_list_append PySem.F.type_list_append mt_append (pe_fld (pv 0) rfl) (pa_cons (pe_meth0 (pv 0) T.c_Desk T.q_Desk_stand (ok_Desk_stand T) (hr.mono (by decide)) T.b_Desk_stand .nil pass0 ) pa_nil)))
      (pss_one (ps_expr (pe_meth (pv 0) T.c_Desk T.q_Desk_to (ok_Desk_to T) (hr.mono (by decide)) T.b_Desk_to .nil pass0 (pa_cons (pe_bm0 PySem.F.plainAttrs_list PySem.F.slot_list_pop PySem.F.type_list_pop mt_pop (pe_fld (pv 0) rfl) ) pa_nil)))))), ?_⟩
    refine ⟨_, rfl, D.dk, _, _, _, _, rfl, hd0.ins, T.c_Desk, T.nA_Desk_ahead, rfl, Nat.zero_le _, fun e0 ne0 => ?_⟩
    have s1 := same_upd (o := .lst []) ne0
    have h0 := upd_same (H := H) (a := e0) (o := .lst [])
    generalize upd H e0 (.lst []) = H1 at s1 h0 ⊢
    have hd1 := hd0.same s1
    refine ⟨D.ah, e0, _, rfl, rfl, sqL hd1.aht, sqL h0, _, rfl, ?_⟩
    rcases k with ⟨st, rest, rfl, sok, q⟩ | ⟨rfl, q⟩
    rotate_left
    · have e1 : D.as = [] := List.length_eq_zero_iff.mp (paired_len hd0.asA)
      rw [e1]
      exact iteT (q H1 s1)
    obtain ⟨ps0, t0, e1, pr, hst0⟩ := paired_lastR hd1.asA
    have e2 : (D.as.map fun p => V.ref p.1).isEmpty = false := by rw [e1]; simp
    rw [e2]
    refine iteF ?_
    refine ⟨_, rfl, D.dk, _, _, _, _, rfl, hd1.ins, T.c_Desk, T.nA_Desk_past, rfl, .inl ⟨rfl, _, sqL hd1.pst⟩, _, rfl, D.dk, _, _, rfl, hd1.ins, rfl, D, M, tg, past, rest ++ [st], rfl, hd1, fun t fp H2 s2 hst hfp nt => ?_⟩
    have hd2 := hd1.same s2
    have las : D.ps.length = past.length := paired_len hd1.psA
    refine ⟨D.pa, _, _, rfl, rfl, hd2.pst, (by rw [List.length_map]; exact small1000 (by omega)), ?_⟩
    have nown : ∀ b ∈ fp, b ∉ D.own := fun b hb => hd1.notin (hfp b hb)
    obtain ⟨hd3, to3⟩ := hd2.setPast (ps' := D.ps ++ [(t, fp)]) (past' := past ++ [(sortP M, tg)]) (paired_snoc hd2.psA hst) (fun p hp b hb => by
      rcases List.mem_append.mp hp with hp | hp
      · exact hd2.sep p (List.mem_append_left _ hp) b hb
      · rw [List.mem_singleton.mp hp] at hb; exact nown b hb)
    have e3 : ((D.ps ++ [(t, fp)]).map fun p => V.ref p.1) = (D.ps.map fun p => V.ref p.1) ++ [V.ref t] := by rw [List.map_append]; rfl
    rw [e3] at hd3 to3
    generalize upd H2 D.pa (.lst ((D.ps.map fun p => V.ref p.1) ++ [V.ref t])) = H3 at hd3 to3 ⊢
    have ep : (D.as.map fun p => V.ref p.1) = (ps0.map fun p => V.ref p.1) ++ [V.ref t0.1] := by rw [e1, List.map_append]; rfl
    have aht3 := hd3.aht
    rw [show (DeskR.as { D with ps := D.ps ++ [(t, fp)] }) = D.as from rfl, ep] at aht3
    refine ⟨_, rfl, D.dk, _, _, rfl, hd3.ins, rfl, _, rfl, D.dk, _, _, _, _, rfl, hd3.ins, T.c_Desk, T.nA_Desk_ahead, rfl, .inl ⟨rfl, _, sqL aht3⟩, D.ah, _, .ref t0.1, rfl, rfl, aht3, by simp, ?_⟩
    rw [List.dropLast_concat]
    have nown0 : ∀ b ∈ t0.2, b ∉ D.own := hd1.sep t0 (by rw [e1]; simp)
    obtain ⟨hst2, _⟩ := (show StAt H1 t0.1 st t0.2 from hst0).to nown0 (DeskTo.of_same s2)
    obtain ⟨hst3, nown3⟩ := hst2.to nown0 to3
    obtain ⟨ps3, t3, e5, pr3, _⟩ := paired_lastR hd3.asA
    obtain ⟨rfl, rfl⟩ : ps3 = ps0 ∧ t3 = t0 := by
      have e6 : ps3 ++ [t3] = ps0 ++ [t0] := e5.symm.trans e1
      have := List.append_inj' e6 rfl
      exact ⟨this.1, by simpa using this.2⟩
    obtain ⟨hd4, to4⟩ := hd3.setAhead (as' := ps3) (ahead' := rest) pr3 (fun p hp b hb => hd3.sep p (List.mem_append_right _ (by rw [e5]; exact List.mem_append_left _ hp)) b hb)
    obtain ⟨hst4, nown4⟩ := hst3.to nown3 to4
    exact ⟨{ D with ps := D.ps ++ [(t, fp)], as := ps3 }, M, tg, _, rest, t3.1, st, t3.2, rfl, hd4, hst4, nown4, sok, fun D' H5 to5 hd5 => q D' H5 ((((DeskTo.of_same (s1.trans s2)).trans to3).trans to4).trans to5) hd5⟩

def sp_Desk_chart (C CM : Addr) : Sp := fun vs H Q _ => ∃ (D : DeskR) (M : PM) (tg : Tg) (past ahead : List Stand), vs = [.ref D.dk] ∧ DeskAt C CM H D M tg past ahead ∧ ∀ (R : MapR) (H' : Hp), Same H H' → Fresh H R → MapAt CM H' R (sortP M) → Q (.ref R.m) H'
theorem ok_Desk_chart (T : Tx K mg) : FnOk P w K mg base CX0 5 T.f_Desk_chart T.d_Desk_chart ["self"] (sp_Desk_chart T.C_Desk T.C_Map) := by
  refine T.F_Desk_chart.ok sc_Desk_chart (fun vs H Q E h => ?_) (fun cdv A outer s H vs Q E hr h => ?_)
  · obtain ⟨D, M, tg, past, ahead, rfl, _⟩ := h
    rfl
  · obtain ⟨D, M, tg, past, ahead, rfl, hd0, q⟩ := h
    refine ⟨_, (pss_cons (ps_set (i := 1) sc_Desk_chart.nd rfl (Or.inl rfl) (pe_make0 T.m_Map (ok_Map___init__ T) (hr.mono (by decide)) (by rfl) T.g_Map T.b_Map___init__ .nil pass0))
      (pss_cons (ps_for PassesOwn.never (by rfl) (pi_list (pe_meth0 (pe_fld (pv 0) rfl) T.c_Map T.q_Map_marks (ok_Map_marks T) (hr.mono (by decide)) T.b_Map_marks .nil pass0 )) (pg_tup (by rfl) (pgs_cons (pg_name (i := 2) sc_Desk_chart.nd rfl (Or.inl rfl)) (pgs_cons (pg_name (i := 3) sc_Desk_chart.nd rfl (Or.inl rfl)) pgs_nil)))
      (pss_one (ps_expr (pe_meth (pv 1) T.c_Map T.q_Map_put (ok_Map_put T) (hr.mono (by decide)) T.b_Map_put .nil passN0 (pa_cons (pv 2) (pa_cons (pv 3) pa_nil))))))
      (pss_one (ps_ret (pv 1))))), ?_⟩
    have ok := MapG.ok hd0.map
    refine fun mm dx nm ndx nex => mk_map nm ndx nex.symm rfl fun R H2 e1 s2 frR hm => ⟨rfl, ?_⟩
    subst e1
    have hd2 := hd0.same s2
    refine ⟨_, rfl, D.dk, _, _, _, _, rfl, hd2.ins, T.c_Desk, T.nA_Desk_here, rfl, D.R.m, _, _, rfl, MapG.ins hd2.map, rfl, D.R, M, rfl, hd2.map, fun ml ts H3 s3 nml hml hw => ?_⟩
    have hw := marks_sortP ok hw
    have okP := ok.sortP
    have lenL : (ts.map V.ref).length = (sortP M).length := by
      rw [List.length_map, paired_len hw]
      unfold NM.namesOf
      rw [List.length_map]
    have nmR : ml ∉ R.own := hm.notin nml
    refine ⟨ml, rfl, ⟨_, sqL hml⟩, for_enum (enum_list (xs := ts.map V.ref)) (fun i σ H' => ∃ x2 x3, σ = [some (.ref D.dk), some (.ref R.m), x2, x3] ∧ Same H H' ∧ KeepT H3 H' ∧ H' ml = some (.lst (ts.map V.ref)) ∧ MapAt T.C_Map H' R ((sortP M).take i)) ⟨none, none, rfl, s2.trans s3, keepT_refl _, hml, hm.same s3⟩ ?_ ?_ ?_⟩
    · rintro i σ H5 _ ⟨_, _, rfl, _, _, h5, _⟩
      exact sqL h5
    · rintro i v σ H5 ev ⟨x2, x3, rfl, s5, kt5, h5, hm5⟩
      obtain ⟨t, n, u, rfl, _, en, ht, hu⟩ := hw.at ev
      obtain ⟨n1, n2, n3, n4, n5⟩ := take_next okP en
      have ht5 := kt5 _ _ ht
      refine ⟨t, _, rfl, sqT ht5, rfl, _, _, rfl, _, [], rfl, rfl, ?_⟩
      refine ⟨_, rfl, R.m, _, _, rfl, hm5.ins, rfl, _, rfl, _, rfl, R, _, _, u, rfl, hm5, trivial, ?_, (hu.keepT kt5).pd, .inl ⟨_, _, rfl, n1, n2, n3, hu.keepT kt5, n4, fun H6 s6 hm6 => ?_⟩⟩
      · intro x e
        injection e with e
        rw [← e]
        have := nameS_len n1
        show n.cps.size ≤ 1000
        omega
      refine ⟨_, _, rfl, frR.same s5 s6, kt5.trans (s6.keepT hm5.dcts), s6.lst hm5.dcts h5, by rw [n5]; exact hm6⟩
    · rintro σ H5 ⟨x2, x3, rfl, s5, kt5, h5, hm5⟩
      rw [lenL, List.take_length] at hm5
      exact ⟨_, rfl, q R _ s5 frR hm5⟩

def sp_Desk_tags (C CM CN : Addr) : Sp := fun vs H Q E => ∃ (D : DeskR) (M : PM) (tg : Tg) (past ahead : List Stand) (v : V), vs = [.ref D.dk, v] ∧ DeskAt C CM H D M tg past ahead ∧ (tg.map (·.1)).Perm (namesOf M) ∧ Dat H v ∧ (∀ x, v = .str x → x.length ≤ 1000) ∧
  ((∃ n, v = .str n ∧ n ∈ namesOf M ∧ ∀ (l : Addr) (H' : Hp), Same H H' → H l = none → H' l = some (.lst ((tagOf tg n).map V.str)) → Q (.ref l) H') ∨ ((∀ n, v = .str n → n ∉ namesOf M) ∧ ∀ H', Same H H' → E (.ref CN) none H'))
theorem ok_Desk_tags (T : Tx K mg) : FnOk P w K mg base (L2N.CX P w) 4 T.f_Desk_tags T.d_Desk_tags ["self", "name"] (sp_Desk_tags T.C_Desk T.C_Map T.C_BadName) := by
  refine okN T.F_Desk_tags sc_Desk_tags (fun vs H Q E h => ?_) (fun cdv A outer s H vs Q E hr h => ?_)
  · obtain ⟨D, M, tg, past, ahead, v, rfl, _⟩ := h
    rfl
  · obtain ⟨D, M, tg, past, ahead, v, rfl, hd0, tgn, dv, lv, k⟩ := h
    refine ⟨_, (pss_cons (ps_expr (pe_meth (pe_fld (pv 0) rfl) T.c_Map T.q_Map_point (ok_Map_point T) (hr.mono (by decide)) T.b_Map_point .nil (L2N.passes_call (L2N.takes_of rfl rfl rfl rfl) (fun _ _ _ _ h => h)) (pa_cons (pv 1) pa_nil)))
      (pss_one (ps_ret (pe_callTy call_list_of (by rfl) T.n_list (by decide +kernel) (pa_cons (pe_dget (hu_of hr) (pe_fld (pv 0) rfl) (pv 1) (fun _ _ => rfl)) pa_nil))))), ?_⟩
    refine ⟨_, rfl, D.dk, _, _, _, _, rfl, hd0.ins, T.c_Desk, T.nA_Desk_here, rfl, D.R.m, _, _, rfl, MapG.ins hd0.map, rfl, _, rfl, D.R, M, v, rfl, hd0.map, dv, lv, ?_⟩
    rcases k with ⟨n, rfl, hn, q⟩ | ⟨hv, q⟩
    rotate_left
    · exact .inr ⟨hv, q⟩
    refine .inl ⟨n, rfl, hn, fun u1 H1 s1 _ => ?_⟩
    have hd1 := hd0.same s1
    obtain ⟨tl, htl, vt, hl⟩ := hd1.tgl.get (tgn.mem_iff.mpr hn)
    have g := DGet.k (k := Sum.inr n) hd1.tgd
    rw [vt] at g
    exact ⟨_, rfl, D.dk, _, _, _, _, rfl, hd1.ins, T.c_Desk, T.nA_Desk_tags_of, rfl, _, rfl, D.td, _, rfl, g, tl, _, rfl, .inl (sqL hl), fun l nl => q l _ (s1.trans (same_upd nl)) (s1.free nl) upd_same⟩

/-- the marks that have a tag -/
def taggedL (tg : Tg) (w : Str) : List Str := (sortS (tg.map (·.1))).filter fun n => decide (w ∈ tagOf tg n)
def sp_Desk_tagged (C CM CT : Addr) : Sp := fun vs H Q E => ∃ (D : DeskR) (M : PM) (tg : Tg) (past ahead : List Stand) (u : V), vs = [.ref D.dk, u] ∧ DeskAt C CM H D M tg past ahead ∧ Dat H u ∧ (∀ x, u = .str x → x.length ≤ 1000) ∧
  ((∃ w, u = .str w ∧ nameS w = true ∧ ∀ (l : Addr) (H' : Hp), Same H H' → H l = none → H' l = some (.lst ((taggedL tg w).map V.str)) → Q (.ref l) H') ∨
   (isName u = false ∧ ∀ H', Same H H' → E (.ref CT) none H'))
theorem ok_Desk_tagged (T : Tx K mg) : FnOk P w K mg base (L2N.CX P w) 2 T.f_Desk_tagged T.d_Desk_tagged ["self", "word"] (sp_Desk_tagged T.C_Desk T.C_Map T.C_BadTag) := by
  refine okN T.F_Desk_tagged sc_Desk_tagged (fun vs H Q E h => ?_) (fun cdv A outer s H vs Q E hr h => ?_)
  · obtain ⟨D, M, tg, past, ahead, u, rfl, _⟩ := h
    rfl
  · obtain ⟨D, M, tg, past, ahead, u, rfl, hd0, du, lu, k⟩ := h
    refine ⟨_, (pss_cons (ps_if (pt_not (pt_val (pe_call (ok_is_name T) (hr.mono (by decide)) (by rfl) T.g_is_name T.F_is_name.kp T.b_is_name .nil pass0 (pa_cons (pv 1) pa_nil)))) (pss_one (L2N.ps_raise rfl (L2N.takes_of rfl rfl rfl rfl) (L2N.pmk_own PySem.F.excBase_ValueError T.x_BadTag T.g_BadTag T.k_BadTag (raises_own T.e_BadTag T.t_BadTag) (by rfl)))) pss_nil)
      (pss_one (ps_ret (pe_lc (own := [("name", 2)]) (g := gName 2)  (by rfl) sc_Desk_tagged.nd (pi_list (pe_callB (call_sortedD rfl) (by rfl) T.n_sorted (by decide +kernel) (pa_cons (pe_fld (pv 0) rfl) pa_nil))) (blkOk_by (own := [("name", 2)]) (N := ["self", "word", "name"]) (sc := defScope s_Desk_tagged) (by decide +kernel)) (fun _ _ _ _ _ => (pg_name (i := 2) sc_Desk_tagged.nd rfl (Or.inl rfl))) (fun _ _ _ _ _ => (pts_one (pt_cmpR (op_in_seqK (K := K) rfl) (pv 1) (pe_dget (hu_of hr) (pe_fldK (K := K) rfl (pv 0) rfl) (pv 2) (fun _ _ => rfl)) (by rfl)))) (fun _ _ _ _ _ => (pv 2)))))), ?_⟩
    refine ⟨_, rfl, u, rfl, du, lu, fun H1 s1 => ⟨_, rfl, ?_⟩⟩
    rcases k with ⟨w, rfl, hw, q⟩ | ⟨e, q⟩
    rotate_left
    · rw [e]
      exact iteT (q H1 s1)
    rw [show isName (.str w) = true from hw]
    refine iteF ?_
    have hd1 := hd0.same s1
    have ltl := hd1.tgl.len
    have lenT := hd0.tlen
    refine ⟨_, rfl, D.dk, _, _, _, _, rfl, hd1.ins, T.c_Desk, T.nA_Desk_tags_of, rfl, D.td, _, tg.map (·.1), rfl, .inl hd1.tgd, tgK_keys ltl, by rw [List.length_map]; omega, fun ys l pm so nl => ?_⟩
    have eys := sortedS_eq so pm
    subst eys
    have sL := same_upd (o := .lst ((sortS (tg.map (·.1))).map V.str)) nl
    have hl := upd_same (H := H1) (a := l) (o := .lst ((sortS (tg.map (·.1))).map V.str))
    generalize upd H1 l (.lst ((sortS (tg.map (·.1))).map V.str)) = H2 at sL hl ⊢
    have hd2 := hd1.same sL
    refine ⟨l, rfl, ⟨_, sqL hl⟩, lc_fun (enum_list (xs := (sortS (tg.map (·.1))).map V.str)) (strP fun n => decide (w ∈ tagOf tg n)) (fun v => v) (fun D' H' nD s => sqL (s _ _ (ne_of_none hl nD) hl)) (by rw [List.length_map, sortS_len, List.length_map]; exact small1000 (by omega)) ?_ ?_⟩
    · intro i v H3 Cy Cn ev s3 h1 h2
      obtain ⟨n, rfl, hn, _⟩ := str_at ev
      have hd3 := hd2.same s3
      obtain ⟨tl, htl, vt, ht⟩ := hd3.tgl.get (mem_sortS.mp hn)
      have g := DGet.k (k := Sum.inr n) hd3.tgd
      rw [vt] at g
      refine ⟨_, rfl, _, rfl, D.dk, _, _, _, _, rfl, hd3.ins, T.c_Desk, T.nA_Desk_tags_of, rfl, _, rfl, D.td, _, rfl, g, tl, _, rfl, .inl (sqL ht), rfl, flat_strs _, _, rfl, ?_⟩
      rw [inV_str]
      refine ite2 (fun c => ?_) (fun c => ?_)
      · exact ⟨_, rfl, h1 H3 (Same.refl _) c⟩
      · exact h2 H3 (Same.refl _) (Bool.eq_false_iff.mpr c)
    intro l2 H3 nl2 s3 hl2
    rw [map_idV, strP_filter] at hl2
    exact q l2 H3 ((s1.trans sL).trans s3) ((s1.trans sL).free nl2) hl2

def sp_Desk_sought (C CM CS CT : Addr) : Sp := fun vs H Q E => ∃ (D : DeskR) (M : PM) (tg : Tg) (past ahead : List Stand) (bv sv u : V), vs = [.ref D.dk, bv, sv, u] ∧ DeskAt C CM H D M tg past ahead ∧ PD H bv ∧ Dat H sv ∧ Dat H u ∧ (∀ x, u = .str x → x.length ≤ 1000) ∧
  (((isBoxB H bv = false ∨ isCount 0 13 sv = false) ∧ ∀ H', Same H H' → E (.ref CS) none H') ∨
   (isBoxB H bv = true ∧ isCount 0 13 sv = true ∧ isName u = false ∧ ∀ H', Same H H' → E (.ref CT) none H'))
theorem ok_Desk_sought (T : Tx K mg) : FnOk P w K mg base (L2N.CX P w) 5 T.f_Desk_sought T.d_Desk_sought ["self", "box", "size", "word"] (sp_Desk_sought T.C_Desk T.C_Map T.C_BadSize T.C_BadTag) := by
  refine okN T.F_Desk_sought sc_Desk_sought (fun vs H Q E h => ?_) (fun cdv A outer s H vs Q E hr h => ?_)
  · obtain ⟨D, M, tg, past, ahead, bv, sv, u, rfl, _⟩ := h
    rfl
  · obtain ⟨D, M, tg, past, ahead, bv, sv, u, rfl, hd0, db, ds, du, lu, k⟩ := h
    refine ⟨_, (pss_cons (ps_expr (pe_call (ok_need_box T) (hr.mono (by decide)) (by rfl) T.g_need_box T.F_need_box.kp T.b_need_box .nil (L2N.passes_call (L2N.takes_of rfl rfl rfl rfl) (fun _ _ _ _ h => h)) (pa_cons (pv 1) pa_nil)))
      (pss_cons (ps_expr (pe_call (ok_need_size T) (hr.mono (by decide)) (by rfl) T.g_need_size T.F_need_size.kp T.b_need_size .nil (L2N.passes_call (L2N.takes_of rfl rfl rfl rfl) (fun _ _ _ _ h => h)) (pa_cons (pv 2) pa_nil)))
      (pss_cons (ps_set (i := 4) sc_Desk_sought.nd rfl (Or.inl rfl) (pe_make0 T.m_Map (ok_Map___init__ T) (hr.mono (by decide)) (by rfl) T.g_Map T.b_Map___init__ .nil pass0))
      (pss_cons (ps_for (passes_of rfl) (by rfl) (pi_list (pe_meth (pv 0) T.c_Desk T.q_Desk_tagged (ok_Desk_tagged T) (hr.mono (by decide)) T.b_Desk_tagged .nil (L2N.passes_call (L2N.takes_of rfl rfl rfl rfl) (fun _ _ _ _ h => h)) (pa_cons (pv 3) pa_nil))) (pg_name (i := 5) sc_Desk_sought.nd rfl (Or.inl rfl))
      (pss_one (ps_expr (pe_meth (pv 4) T.c_Map T.q_Map_put (ok_Map_put T) (hr.mono (by decide)) T.b_Map_put .nil (L2N.passes_call (L2N.takes_of rfl rfl rfl rfl) (fun _ _ _ _ h => h)) (pa_cons (pv 5) (pa_cons (pe_meth (pe_fld (pv 0) rfl) T.c_Map T.q_Map_point (ok_Map_point T) (hr.mono (by decide)) T.b_Map_point .nil (L2N.passes_call (L2N.takes_of rfl rfl rfl rfl) (fun _ _ _ _ h => h)) (pa_cons (pv 5) pa_nil)) pa_nil))))))
      (pss_cons (ps_set (i := 6) sc_Desk_sought.nd rfl (Or.inr rfl) pe_dnewK)
      (pss_cons (ps_for (passes_of rfl) (by rfl) (pi_list (pe_meth0 (pv 4) T.c_Map T.q_Map_marks (ok_Map_marks T) (hr.mono (by decide)) T.b_Map_marks .nil pass0 )) (pg_tup (by rfl) (pgs_cons (pg_name (i := 5) sc_Desk_sought.nd rfl (Or.inl rfl)) (pgs_cons (pg_name (i := 7) sc_Desk_sought.nd rfl (Or.inl rfl)) pgs_nil)))
      (pss_one (ps_if (pt_val (pe_call (ok_is_in T) (hr.mono (by decide)) (by rfl) T.g_is_in T.F_is_in.kp T.b_is_in .nil pass0 (pa_cons (pv 7) (pa_cons (pv 1) pa_nil)))) (pss_cons (ps_set (i := 8) sc_Desk_sought.nd rfl (Or.inl rfl) (pe_meth (pv 4) T.c_Map T.q_Map_heap_of (ok_Map_heap_of T) (hr.mono (by decide)) T.b_Map_heap_of .nil (L2N.passes_call (L2N.takes_of rfl rfl rfl rfl) (fun _ _ _ _ h => h)) (pa_cons (pv 5) (pa_cons (pv 2) pa_nil))))
      (pss_one (ps_dput (hu_of hr) (pv 6) (pv 8) (pe_op op_add (pe_dget2 (hu_of hr) (pv 6) (pv 8) pe_int ⟨rfl, rfl, rfl, rfl⟩) pe_int) rfl))) pss_nil)))
      (pss_one (ps_ret (pe_lc (own := [("head", 8)]) (g := gName 8) (tt := tYes) (by rfl) sc_Desk_sought.nd (pi_list (pe_callB (call_sortedD rfl) (by rfl) T.n_sorted (by decide +kernel) (pa_cons (pv 6) pa_nil))) (blkOk_by (own := [("head", 8)]) (N := ["self", "box", "size", "word", "own", "name", "found", "point", "head"]) (sc := defScope s_Desk_sought) (by decide +kernel)) (fun _ _ _ _ _ => (pg_name (i := 8) sc_Desk_sought.nd rfl (Or.inl rfl))) (fun _ _ _ _ _ => pts_nil) (fun _ _ _ _ _ => (pe_tup (pa_cons (pv 8) (pa_cons (pe_dget (hu_of hr) (pv 6) (pv 8) (fun _ _ => rfl)) pa_nil))))))))))))), ?_⟩
    refine ⟨_, rfl, bv, rfl, db, ?_⟩
    cases eb : isBoxB H bv with
    | false =>
      rcases k with ⟨_, q⟩ | ⟨h1, _⟩
      · exact .inr ⟨rfl, q⟩
      · rw [eb] at h1; cases h1
    | true =>
      refine .inl ⟨rfl, fun H1 s1 => ⟨_, rfl, sv, rfl, ds.same s1, ?_⟩⟩
      cases es : isCount 0 13 sv with
      | false =>
        rcases k with ⟨_, q⟩ | ⟨_, h1, _⟩
        · exact .inr ⟨rfl, q H1 s1⟩
        · rw [es] at h1; cases h1
      | true =>
        rcases k with ⟨h1, _⟩ | ⟨_, _, h1, q⟩
        · rw [eb, es] at h1
          rcases h1 with h1 | h1 <;> cases h1
        refine .inl ⟨rfl, ?_⟩
        refine fun mm dx nm ndx nex => mk_map nm ndx nex.symm rfl fun R H2 e1 s2 frR hm => ⟨rfl, ?_⟩
        subst e1
        have s02 := s1.trans s2
        have hd2 := hd0.same s02
        exact ⟨_, rfl, D.dk, _, _, rfl, hd2.ins, rfl, _, rfl, D, M, tg, past, ahead, u, rfl, hd2, du.same s02, lu, .inr ⟨h1, fun H3 s3 => q H3 (s02.trans s3)⟩⟩

def sp_Desk_told_of (C CM CH : Addr) : Sp := fun vs H Q E => ∃ (D : DeskR) (M : PM) (tg : Tg) (past ahead : List Stand) (h : Str) (z : Nat), vs = [.ref D.dk, .str h, .int z] ∧ DeskAt C CM H D M tg past ahead ∧ z < 14 ∧ nameS h = true ∧ h ∉ namesOf M ∧ ∀ H', Same H H' → E (.ref CH) none H'
theorem ok_Desk_told_of (T : Tx K mg) : FnOk P w K mg base (L2N.CX P w) 5 T.f_Desk_told_of T.d_Desk_told_of ["self", "head", "size"] (sp_Desk_told_of T.C_Desk T.C_Map T.C_BadHeap) := by
  refine okN T.F_Desk_told_of sc_Desk_told_of (fun vs H Q E h => ?_) (fun cdv A outer s H vs Q E hr h => ?_)
  · obtain ⟨D, M, tg, past, ahead, h, z, rfl, _⟩ := h
    rfl
  · obtain ⟨D, M, tg, past, ahead, h, z, rfl, hd0, hz, lh, hn, q⟩ := h
    refine ⟨_, (pss_cons (ps_set (i := 3) sc_Desk_told_of.nd rfl (Or.inr rfl) pe_dnewK)
      (pss_cons (ps_for (passes_of rfl) (by rfl) (pi_list (pe_meth (pe_fld (pv 0) rfl) T.c_Map T.q_Map_names (ok_Map_names T) (hr.mono (by decide)) T.b_Map_names .nil (L2N.passes_call (L2N.takes_of rfl rfl rfl rfl) (fun _ _ _ _ h => h)) (pa_cons (pv 1) (pa_cons (pv 2) pa_nil)))) (pg_name (i := 4) sc_Desk_told_of.nd rfl (Or.inl rfl))
      (pss_one (ps_for (passes_of rfl) (by rfl) (pi_list (pe_dget (hu_of hr) (pe_fld (pv 0) rfl) (pv 4) (fun _ _ => rfl))) (pg_name (i := 5) sc_Desk_told_of.nd rfl (Or.inl rfl))
      (pss_one (ps_dput (hu_of hr) (pv 3) (pv 5) (pe_op op_add (pe_dget2 (hu_of hr) (pv 3) (pv 5) pe_int ⟨rfl, rfl, rfl, rfl⟩) pe_int) rfl)))))
      (pss_one (ps_ret (pe_lc (own := [("many", 6), ("word", 5)]) (g := gTup K 2 (gCons (gName 6) (gCons (gName 5) gNil))) (tt := tYes) (by rfl) sc_Desk_told_of.nd (pi_list (pe_callB cr_sorted (by rfl) T.n_sorted (by decide +kernel) (pa_cons (pe_lockR (pe_lc (own := [("word", 5)]) (g := gName 5) (tt := tYes) (by rfl) sc_Desk_told_of.nd (pi_keys (pv 3)) (blkOk_by (own := [("word", 5)]) (N := ["self", "head", "size", "rows", "name", "word", "many"]) (sc := defScope s_Desk_told_of) (by decide +kernel)) (fun _ _ _ _ _ => (pg_name (i := 5) sc_Desk_told_of.nd rfl (Or.inl rfl))) (fun _ _ _ _ _ => pts_nil) (fun _ _ _ _ _ => (pe_tup (pa_cons (pe_op op_sub pe_int (pe_dget (hu_of hr) (pv 3) (pv 5) (fun _ _ => rfl))) (pa_cons (pv 5) pa_nil)))))) pa_nil))) (blkOk_by (own := [("many", 6), ("word", 5)]) (N := ["self", "head", "size", "rows", "name", "word", "many"]) (sc := defScope s_Desk_told_of) (by decide +kernel)) (fun _ _ _ _ _ => (pg_tupK (K := K) rfl (by rfl) (pgs_cons (pg_name (i := 6) sc_Desk_told_of.nd rfl (Or.inl rfl)) (pgs_cons (pg_name (i := 5) sc_Desk_told_of.nd rfl (Or.inl rfl)) pgs_nil)))) (fun _ _ _ _ _ => pts_nil) (fun _ _ _ _ _ => (pe_tup (pa_cons (pv 5) (pa_cons (pe_op op_sub pe_int (pv 6)) pa_nil))))))))), ?_⟩
    intro f nf
    have s1 := same_upd (o := .dK []) nf
    have hd1 := hd0.same s1
    generalize upd H f (.dK []) = H1 at s1 hd1 ⊢
    have hl : ∀ x, V.str h = .str x → x.length ≤ 1000 := fun x e => by
      injection e with e
      rw [← e]
      have := nameS_len lh
      show h.cps.size ≤ 1000
      omega
    exact ⟨_, rfl, D.dk, _, _, _, _, rfl, hd1.ins, T.c_Desk, T.nA_Desk_here, rfl, D.R.m, _, _, rfl, MapG.ins hd1.map, rfl, _, rfl, _, rfl, D.R, M, .str h, .int z, rfl, hd1.map, trivial, hl, trivial, .inr (.inr (.inr ⟨h, z, rfl, lh, rfl, hz, fun e => hn (mem_headsOf.mp e).1, fun H2 s2 => q H2 (s1.trans s2)⟩))⟩

def sp_law_cell (K : PySem.W.Frag) : Sp := fun vs H Q _ => ∃ (a : Addr) (ns : List Int) (k : Int), vs = [.ref a, .int k] ∧ SqL K H a (ns.map V.int) ∧ ns.length ≤ 63 ∧ 0 ≤ k ∧ k ≤ 5 ∧ ∀ c H', Same H H' → Q (.int c) H'
theorem ok_law_cell (T : Tx K mg) : FnOk P w K mg base CX0 1 T.f_law_cell T.d_law_cell ["script", "k"] (sp_law_cell K) := by
  refine T.F_law_cell.ok sc_law_cell (fun vs H Q E h => ?_) (fun cdv A outer s H vs Q E hr h => ?_)
  · obtain ⟨a, ns, k, rfl, _⟩ := h
    rfl
  · obtain ⟨a, ns, k, rfl, hS, hl, hk0, hk, q⟩ := h
    refine ⟨_, (pss_cons (ps_if (pt_cmpR (op_eqD hr.units) (pv 0) (pe_lst pa_nil) (nomark _)) (pss_one (ps_ret (pe_op op_mul (pv 1) pe_int))) pss_nil)
      (pss_one (ps_ret (pe_op op_add (pe_ix ix_list (pv 0) (pe_op op_mod (pv 1) (pe_callB call_len_seq (by rfl) T.n_len (by decide +kernel) (pa_cons (pv 0) pa_nil))) (fun _ _ => rfl)) (pe_op op_mul (pe_op op_fdiv (pv 1) (pe_callB call_len_seq (by rfl) T.n_len (by decide +kernel) (pa_cons (pv 0) pa_nil))) pe_int))))), ?_⟩
    refine ⟨_, rfl, Nat.zero_le _, fun l nl => ⟨.list (ns.map .int), .list [], .lst ((same_upd nl).seq hS) (dpAll_ints ns), .lst (sqL upd_same) .nil, (lay_list (lay_map fun x _ => lay_int x)).shaped (by decide), (lay_list (n := 0) lay_nil).shaped (by decide), _, rfl, ?_⟩⟩
    rw [eqv_nil]
    have sm : Same H (upd H l (.lst [])) := same_upd nl
    cases ns with
    | nil => exact iteT ⟨_, rfl, _, _, rfl, rfl, .inr ⟨by decide, by decide⟩, q _ _ sm⟩
    | cons n ns =>
      refine iteF ?_
      have hp : (0 : Int) < ((n :: ns).map V.int).length := by rw [List.length_map]; exact Int.natCast_pos.mpr (Nat.succ_pos _)
      have hlt : (((n :: ns).map V.int).length : Int) < 1073741824 := by
        rw [List.length_map]; omega
      have hm0 := Int.emod_nonneg k (Int.ne_of_gt hp)
      have hm1 := Int.emod_lt_of_pos k hp
      obtain ⟨j, hj⟩ : ∃ j : Nat, k % (((n :: ns).map V.int).length : Int) = j := ⟨(k % (((n :: ns).map V.int).length : Int)).toNat, by omega⟩
      have hj2 : j < (n :: ns).length := by
        rw [List.length_map] at hm1 hj
        omega
      refine ⟨_, rfl, _, rfl, _, rfl, a, _, rfl, .inl (sm.seq hS), _, _, rfl, rfl, hp, a, _, _, .int (n :: ns)[j], rfl, rfl, sm.seq hS, at_of hj ?_, ?_⟩
      · rw [List.getElem?_map, List.getElem?_eq_getElem hj2]
        rfl
      · refine ⟨_, rfl, _, rfl, a, _, rfl, .inl (sm.seq hS), _, _, rfl, rfl, ⟨hp, hlt⟩, _, _, rfl, rfl, .inr ⟨by decide, by decide⟩, _, _, rfl, rfl, q _ _ sm⟩

def sp_law_drawn : Sp := fun vs H Q _ => ∃ (c k : Int), vs = [.int c, .int k] ∧ -1000 ≤ k ∧ k ≤ 1000 ∧ ∀ r : Int, 0 ≤ r → r < 340282366920938463463374607431768211507 → Q (.int r) H
theorem ok_law_drawn (T : Tx K mg) : FnOk P w K mg base CX0 1 T.f_law_drawn T.d_law_drawn ["cell", "k"] (sp_law_drawn) := by
  refine T.F_law_drawn.ok sc_law_drawn (fun vs H Q E h => ?_) (fun cdv A outer s H vs Q E hr h => ?_)
  · obtain ⟨c, k, rfl, _⟩ := h
    rfl
  · obtain ⟨c, k, rfl, k0, k1, q⟩ := h
    refine ⟨_, (pss_cons (ps_set (i := 2) sc_law_drawn.nd rfl (Or.inl rfl) (pe_op op_mod (pe_op op_add (pe_op op_mul (pv 0) pe_int) (pe_op op_mul (pe_op op_add (pv 1) pe_int) pe_int)) pe_int))
      (pss_cons (ps_set (i := 2) sc_law_drawn.nd rfl (Or.inl rfl) (pe_op op_mod (pe_op op_mulW (pv 2) (pv 2)) pe_int))
      (pss_cons (ps_set (i := 2) sc_law_drawn.nd rfl (Or.inl rfl) (pe_op op_mulW (pe_op op_mul (pe_op op_add (pe_op op_mod (pv 2) pe_int) pe_int) (pe_op op_add (pe_op op_fdivW (pv 2) pe_int) pe_int)) (pv 2)))
      (pss_one (ps_ret (pe_op op_mod (pv 2) pe_int)))))), ?_⟩
    refine ⟨_, rfl, _, _, rfl, rfl, .inr ⟨by decide, by decide⟩, _, rfl, _, _, rfl, rfl, _, _, rfl, rfl, .inr ⟨by decide, by decide⟩, _, _, rfl, rfl, _, _, rfl, rfl, (by show (0 : Int) < 340282366920938463463374607431768211507; decide), ?_⟩
    have big : ∀ z : Int, (z % 340282366920938463463374607431768211507).natAbs < 2 ^ 129 := fun z => by
      have h0 := Int.emod_nonneg z (show (340282366920938463463374607431768211507 : Int) ≠ 0 by decide)
      have h1 := Int.emod_lt_of_pos z (show (0 : Int) < 340282366920938463463374607431768211507 by decide)
      have h2 : (2 : Nat) ^ 129 = 680564733841876926926749214863536422912 := by decide
      omega
    have bigN : ∀ z : Int, 0 ≤ z % 340282366920938463463374607431768211297 ∧ z % 340282366920938463463374607431768211297 < 340282366920938463463374607431768211297 := fun z =>
      ⟨Int.emod_nonneg z (by decide), Int.emod_lt_of_pos z (by decide)⟩
    have bigN2 : ∀ z : Int, (z % 340282366920938463463374607431768211297).natAbs < 2 ^ 129 := fun z => by
      have h := bigN z
      have h2 : (2 : Nat) ^ 129 = 680564733841876926926749214863536422912 := by decide
      omega
    have dv : ∀ z : Int, 0 ≤ z → z < 340282366920938463463374607431768211297 → 0 ≤ z / 18446744073709551557 ∧ z / 18446744073709551557 < 36893488147419103232 := fun z h0 h1 => by omega
    have md : ∀ z : Int, 0 ≤ z % 18446744073709551557 ∧ z % 18446744073709551557 < 18446744073709551557 := fun z => by omega
    have cv : ∀ z : Int, 0 ≤ z → z < 340282366920938463463374607431768211297 → ((z % 18446744073709551557 + 1) * (z / 18446744073709551557 + 1)).natAbs < 2 ^ (64 + 66) := fun z h0 h1 => by
      refine wide_lt ?_ ?_
      · have := md z
        have h2 : (2 : Nat) ^ 64 = 18446744073709551616 := by decide
        omega
      · have := dv z h0 h1
        have h2 : (2 : Nat) ^ 66 = 73786976294838206464 := by decide
        omega
    refine ⟨_, rfl, _, rfl, _, _, rfl, rfl, wide_mul (a := 129) (b := 129) (big _) (big _) (by decide) (by decide) (by decide), _, _, rfl, rfl, (by show (0 : Int) < 340282366920938463463374607431768211297; decide), ?_⟩
    refine ⟨_, rfl, _, _, rfl, rfl, (by show (0 : Int) < 18446744073709551557; decide), _, _, rfl, rfl, _, rfl, _, _, rfl, rfl, wide_div (b := 64) (by decide) (by decide) (by decide) (by decide), _, _, rfl, rfl, _, _, rfl, rfl, .inl ?_, _, rfl, _, _, rfl, rfl, wide_mul (a := 130) (b := 129) (cv _ (bigN _).1 (bigN _).2) (bigN2 _) (by decide) (by decide) (by decide), ?_⟩
    · have := md ((c * 6364136223846793005 + (k + 1) * 1442695040888963407) % 340282366920938463463374607431768211507 * ((c * 6364136223846793005 + (k + 1) * 1442695040888963407) % 340282366920938463463374607431768211507) % 340282366920938463463374607431768211297)
      have h2 : (2 : Int) ^ 64 = 18446744073709551616 := by decide
      rw [h2]
      constructor <;> omega
    refine ⟨_, rfl, _, _, rfl, rfl, (by show (0 : Int) < 340282366920938463463374607431768211507; decide), ?_⟩
    exact q _ (Int.emod_nonneg _ (by decide)) (Int.emod_lt_of_pos _ (by decide))

/-- the word of a refusal -/
def Wd (T : Tx K mg) (D : Addr) (nm : Str) : Prop := (D = T.C_BadHeap ∧ nm = "BadHeap") ∨ (D = T.C_BadName ∧ nm = "BadName") ∨ (D = T.C_BadPoint ∧ nm = "BadPoint") ∨ (D = T.C_BadSize ∧ nm = "BadSize") ∨ (D = T.C_BadText ∧ nm = "BadText") ∨ (D = T.C_BadTag ∧ nm = "BadTag") ∨ (D = T.C_Nothing ∧ nm = "Nothing")
def wordsL : List Str := ["BadHeap", "BadName", "BadPoint", "BadSize", "BadText", "BadTag", "Nothing"]
def sp_law_word (T : Tx K mg) : Addr × Obj → Sp := fun p vs H Q _ => ∃ (D : Addr) (nm : Str), vs = [.ref p.1] ∧ Zc (.ref D) none p.2 ∧ (∃ vs, p.2.data = .fields vs) ∧ Wd T D nm ∧ ∀ H' r, Same H H' → H' r = some (.tup [.str "refused", .str nm]) → Q (.ref r) H'
theorem wd_excC (T : Tx K mg) {D : Addr} {nm : Str} (h : Wd T D nm) : ExcC K D := by
  rcases h with ⟨e, _⟩ | ⟨e, _⟩ | ⟨e, _⟩ | ⟨e, _⟩ | ⟨e, _⟩ | ⟨e, _⟩ | ⟨e, _⟩
  · rw [e]; exact ⟨T.ga_BadHeap, T.gt_BadHeap, T.e_BadHeap, T.hd_BadHeap, T.cl_BadHeap, T.ocn, T.oct, T.mr_BadHeap⟩
  · rw [e]; exact ⟨T.ga_BadName, T.gt_BadName, T.e_BadName, T.hd_BadName, T.cl_BadName, T.ocn, T.oct, T.mr_BadName⟩
  · rw [e]; exact ⟨T.ga_BadPoint, T.gt_BadPoint, T.e_BadPoint, T.hd_BadPoint, T.cl_BadPoint, T.ocn, T.oct, T.mr_BadPoint⟩
  · rw [e]; exact ⟨T.ga_BadSize, T.gt_BadSize, T.e_BadSize, T.hd_BadSize, T.cl_BadSize, T.ocn, T.oct, T.mr_BadSize⟩
  · rw [e]; exact ⟨T.ga_BadText, T.gt_BadText, T.e_BadText, T.hd_BadText, T.cl_BadText, T.ocn, T.oct, T.mr_BadText⟩
  · rw [e]; exact ⟨T.ga_BadTag, T.gt_BadTag, T.e_BadTag, T.hd_BadTag, T.cl_BadTag, T.ocn, T.oct, T.mr_BadTag⟩
  · rw [e]; exact ⟨T.ga_Nothing, T.gt_Nothing, T.e_Nothing, T.hd_Nothing, T.cl_Nothing, T.ocn, T.oct, T.mr_Nothing⟩
theorem wd_flags (T : Tx K mg) {D : Addr} {nm : Str} (h : Wd T D nm) : ∃ (b1 b2 b3 b4 b5 b6 b7 : Bool) (j : Nat), PySem.W.kitOne K (.ref D) (.ref T.C_BadHeap) = some b1 ∧ PySem.W.kitOne K (.ref D) (.ref T.C_BadName) = some b2 ∧ PySem.W.kitOne K (.ref D) (.ref T.C_BadPoint) = some b3 ∧ PySem.W.kitOne K (.ref D) (.ref T.C_BadSize) = some b4 ∧ PySem.W.kitOne K (.ref D) (.ref T.C_BadText) = some b5 ∧ PySem.W.kitOne K (.ref D) (.ref T.C_BadTag) = some b6 ∧ PySem.W.kitOne K (.ref D) (.ref T.C_Nothing) = some b7 ∧ PySem.W.kitOne K (.ref D) (.type "ValueError") = some true ∧
    ([b1, b2, b3, b4, b5, b6, b7].map fun b => b2i b).sum = 1 ∧ [b1, b2, b3, b4, b5, b6, b7][j]? = some true ∧ (∀ i < j, [b1, b2, b3, b4, b5, b6, b7][i]? = some false) ∧ wordsL[j]? = some nm := by
  rcases h with ⟨e, n⟩ | ⟨e, n⟩ | ⟨e, n⟩ | ⟨e, n⟩ | ⟨e, n⟩ | ⟨e, n⟩ | ⟨e, n⟩
  · rw [e, n]; exact ⟨true, false, false, false, false, false, false, 0, T.kit_BadHeap_BadHeap, T.kit_BadHeap_BadName, T.kit_BadHeap_BadPoint, T.kit_BadHeap_BadSize, T.kit_BadHeap_BadText, T.kit_BadHeap_BadTag, T.kit_BadHeap_Nothing, T.kit_BadHeap_VE, rfl, rfl, by decide, rfl⟩
  · rw [e, n]; exact ⟨false, true, false, false, false, false, false, 1, T.kit_BadName_BadHeap, T.kit_BadName_BadName, T.kit_BadName_BadPoint, T.kit_BadName_BadSize, T.kit_BadName_BadText, T.kit_BadName_BadTag, T.kit_BadName_Nothing, T.kit_BadName_VE, rfl, rfl, by decide, rfl⟩
  · rw [e, n]; exact ⟨false, false, true, false, false, false, false, 2, T.kit_BadPoint_BadHeap, T.kit_BadPoint_BadName, T.kit_BadPoint_BadPoint, T.kit_BadPoint_BadSize, T.kit_BadPoint_BadText, T.kit_BadPoint_BadTag, T.kit_BadPoint_Nothing, T.kit_BadPoint_VE, rfl, rfl, by decide, rfl⟩
  · rw [e, n]; exact ⟨false, false, false, true, false, false, false, 3, T.kit_BadSize_BadHeap, T.kit_BadSize_BadName, T.kit_BadSize_BadPoint, T.kit_BadSize_BadSize, T.kit_BadSize_BadText, T.kit_BadSize_BadTag, T.kit_BadSize_Nothing, T.kit_BadSize_VE, rfl, rfl, by decide, rfl⟩
  · rw [e, n]; exact ⟨false, false, false, false, true, false, false, 4, T.kit_BadText_BadHeap, T.kit_BadText_BadName, T.kit_BadText_BadPoint, T.kit_BadText_BadSize, T.kit_BadText_BadText, T.kit_BadText_BadTag, T.kit_BadText_Nothing, T.kit_BadText_VE, rfl, rfl, by decide, rfl⟩
  · rw [e, n]; exact ⟨false, false, false, false, false, true, false, 5, T.kit_BadTag_BadHeap, T.kit_BadTag_BadName, T.kit_BadTag_BadPoint, T.kit_BadTag_BadSize, T.kit_BadTag_BadText, T.kit_BadTag_BadTag, T.kit_BadTag_Nothing, T.kit_BadTag_VE, rfl, rfl, by decide, rfl⟩
  · rw [e, n]; exact ⟨false, false, false, false, false, false, true, 6, T.kit_Nothing_BadHeap, T.kit_Nothing_BadName, T.kit_Nothing_BadPoint, T.kit_Nothing_BadSize, T.kit_Nothing_BadText, T.kit_Nothing_BadTag, T.kit_Nothing_Nothing, T.kit_Nothing_VE, rfl, rfl, by decide, rfl⟩
theorem cls_ref {C : Addr} : ∀ u, RelV (.ref C) u → u = .ref C := fun _ h => h
theorem cls_ty {n : String} : ∀ u, RelV (.ty n) u → u = .type n := fun _ h => h
theorem ok_law_word (T : Tx K mg) : FnA P w K mg base CX0 1 T.f_law_word T.d_law_word ["e"] (sp_law_word T) := by
  refine fnA_of T.F_law_word sc_law_word (fun p vs H Q E h => ?_) (fun cdv A outer s H vs Q E p hot hr h => ?_)
  · obtain ⟨D, nm, rfl, _⟩ := h
    rfl
  · obtain ⟨D, nm, rfl, hz, hf, wd, q⟩ := h
    obtain ⟨a, oe⟩ := p
    have xc := wd_excC T wd
    have hot' : Hot1 (A.deeper (envOfC "_law_word" (defScope s_law_word) s.heap.objs.size T.f_law_word cdv)) (a, oe) := ⟨hot.1, hot.2⟩
    obtain ⟨b1, b2, b3, b4, b5, b6, b7, j, e1, e2, e3, e4, e5, e6, e7, ev, hs, hj, hlt, hn⟩ := wd_flags T wd
    refine ⟨_, (pss_cons (ps_set (i := 1) sc_law_word.nd rfl (Or.inl rfl) (pe_lst (pa_cons (pe_callB (call_isP (List.mem_singleton.mpr rfl) xc hz hf) (by rfl) T.n_isinstance (by decide +kernel) (pa_cons (pv 0) (pa_cons (pe_glob (v := .ref T.C_BadHeap) (by rfl) T.g_BadHeap rfl) pa_nil))) (pa_cons (pe_callB (call_isP (List.mem_singleton.mpr rfl) xc hz hf) (by rfl) T.n_isinstance (by decide +kernel) (pa_cons (pv 0) (pa_cons (pe_glob (v := .ref T.C_BadName) (by rfl) T.g_BadName rfl) pa_nil))) (pa_cons (pe_callB (call_isP (List.mem_singleton.mpr rfl) xc hz hf) (by rfl) T.n_isinstance (by decide +kernel) (pa_cons (pv 0) (pa_cons (pe_glob (v := .ref T.C_BadPoint) (by rfl) T.g_BadPoint rfl) pa_nil))) (pa_cons (pe_callB (call_isP (List.mem_singleton.mpr rfl) xc hz hf) (by rfl) T.n_isinstance (by decide +kernel) (pa_cons (pv 0) (pa_cons (pe_glob (v := .ref T.C_BadSize) (by rfl) T.g_BadSize rfl) pa_nil))) pa_nil))))))
      (pss_cons (ps_set (i := 1) sc_law_word.nd rfl (Or.inl rfl) (pe_op op_cat (pv 1) (pe_lst (pa_cons (pe_callB (call_isP (List.mem_singleton.mpr rfl) xc hz hf) (by rfl) T.n_isinstance (by decide +kernel) (pa_cons (pv 0) (pa_cons (pe_glob (v := .ref T.C_BadText) (by rfl) T.g_BadText rfl) pa_nil))) (pa_cons (pe_callB (call_isP (List.mem_singleton.mpr rfl) xc hz hf) (by rfl) T.n_isinstance (by decide +kernel) (pa_cons (pv 0) (pa_cons (pe_glob (v := .ref T.C_BadTag) (by rfl) T.g_BadTag rfl) pa_nil))) (pa_cons (pe_callB (call_isP (List.mem_singleton.mpr rfl) xc hz hf) (by rfl) T.n_isinstance (by decide +kernel) (pa_cons (pv 0) (pa_cons (pe_glob (v := .ref T.C_Nothing) (by rfl) T.g_Nothing rfl) pa_nil))) pa_nil))))))
      (pss_cons (ps_if (PW.pt (pw_or (pt_cmpR op_ne (pe_callB (cr_sumH ⟨_, hot', List.mem_singleton.mpr rfl⟩) (by rfl) T.n_sum (by decide +kernel) (pa_cons (pe_lcH (own := [("flag", 2)]) (g := gName 2) (tt := tYes) hot (List.mem_singleton.mpr rfl) sc_law_word.nd (pi_listH (pv 1)) (blkOk_by (own := [("flag", 2)]) (N := ["e", "flags", "flag", "words"]) (sc := defScope s_law_word) (by decide +kernel)) (fun _ _ _ _ _ => (pg_name (i := 2) sc_law_word.nd rfl (Or.inl rfl))) (fun _ _ _ _ _ => pts_nil) (fun _ _ _ _ _ => (pe_callTy call_int1 (by rfl) T.n_int (by decide +kernel) (pa_cons (pv 2) pa_nil)))) pa_nil)) pe_int (nomark _)) (pw_or1 (pt_not (pt_val (pe_callB (call_isP (List.mem_singleton.mpr rfl) xc hz hf) (by rfl) T.n_isinstance (by decide +kernel) (pa_cons (pv 0) (pa_cons (pe_bltn (v := .ty "ValueError") (by rfl) T.n_ValueError (by decide +kernel) rfl) pa_nil)))))))) (pss_one (ps_ret (pe_tup (pa_cons pe_str (pa_cons pe_str pa_nil))))) pss_nil)
      (pss_cons (ps_set (i := 3) sc_law_word.nd rfl (Or.inl rfl) (pe_lst (pa_cons pe_str (pa_cons pe_str (pa_cons pe_str (pa_cons pe_str (pa_cons pe_str (pa_cons pe_str (pa_cons pe_str pa_nil)))))))))
      (pss_one (ps_ret (pe_tup (pa_cons pe_str (pa_cons (pe_ix ix_list (pv 3) (pe_bm PySem.F.plainAttrs_list PySem.F.slot_list_index PySem.F.type_list_index mt_index (pv 1) (pa_cons pe_bl pa_nil)) (fun _ _ => rfl)) pa_nil))))))))), ?_⟩
    refine ⟨_, rfl, _, _, b1, rfl, cls_ref, e1, _, rfl, _, _, b2, rfl, cls_ref, e2, _, rfl, _, _, b3, rfl, cls_ref, e3, _, rfl, _, _, b4, rfl, cls_ref, e4, (by show 4 ≤ sizeLine; decide), fun l nl => ?_⟩
    have s1 := same_upd (o := .lst [V.bl b1, V.bl b2, V.bl b3, V.bl b4]) nl
    refine ⟨_, rfl, _, rfl, _, _, b5, rfl, cls_ref, e5, _, rfl, _, _, b6, rfl, cls_ref, e6, _, rfl, _, _, b7, rfl, cls_ref, e7, (by show 3 ≤ sizeLine; decide), fun l2 nl2 => ?_⟩
    have s2 := same_upd (o := .lst [V.bl b5, V.bl b6, V.bl b7]) nl2
    refine ⟨l, l2, _, _, rfl, rfl, s2 _ _ upd_same, upd_same, (by show 7 ≤ sizeLine; decide), fun l3 nl3 => ?_⟩
    have s3 := same_upd (o := .lst ([V.bl b1, V.bl b2, V.bl b3, V.bl b4] ++ [V.bl b5, V.bl b6, V.bl b7])) nl3
    have e3l : (upd (upd (upd H l (.lst [V.bl b1, V.bl b2, V.bl b3, V.bl b4])) l2 (.lst [V.bl b5, V.bl b6, V.bl b7])) l3 (.lst ([V.bl b1, V.bl b2, V.bl b3, V.bl b4] ++ [V.bl b5, V.bl b6, V.bl b7]))) l3 = some (.lst ([b1, b2, b3, b4, b5, b6, b7].map V.bl)) := upd_same
    refine ⟨_, rfl, l3, rfl, ⟨_, sqL e3l⟩, lc_map (enum_list (xs := [b1, b2, b3, b4, b5, b6, b7].map V.bl)) (fun v => match v with | .bl k => .int (b2i k) | _ => .int 0) (fun D H' nD s => sqL (s _ _ (ne_of_none e3l nD) e3l)) (by show 7 < sizeLine; decide) ?_ ?_⟩
    · intro i v H' Cy ev sm h1
      obtain ⟨k, rfl⟩ : ∃ k, v = .bl k := by
        rw [List.getElem?_map] at ev
        cases e : [b1, b2, b3, b4, b5, b6, b7][i]? with
        | none => rw [e] at ev; cases ev
        | some c => rw [e] at ev; exact ⟨c, (Option.some.inj ev).symm⟩
      exact ⟨_, rfl, .inr ⟨k, rfl, h1 H' (Same.refl _)⟩⟩
    · intro D H' nD sm hD
      have eD : ([b1, b2, b3, b4, b5, b6, b7].map V.bl).map (fun v => match v with | .bl k => V.int (b2i k) | _ => .int 0) = ([b1, b2, b3, b4, b5, b6, b7].map fun b => b2i b).map V.int := by
        rw [List.map_map, List.map_map]
        rfl
      rw [eD] at hD
      refine ⟨D, _, rfl, sqL hD, rfl, _, rfl, ?_⟩
      rw [hs]
      refine iteF ⟨_, rfl, _, _, true, rfl, cls_ty, ev, _, rfl, iteF ?_⟩
      have el : H' l3 = some (.lst ([b1, b2, b3, b4, b5, b6, b7].map V.bl)) := sm _ _ e3l
      refine ⟨(by show 7 ≤ sizeLine; decide), fun l4 nl4 => ?_⟩
      have s4 := same_upd (o := .lst (wordsL.map V.str)) nl4
      have el4 := s4 _ _ el
      refine ⟨_, rfl, _, rfl, .inl ⟨rfl, _, sqL el4⟩, l3, _, .bl true, j, .bl true, rfl, rfl, sqL el4, rfl, rfl, ?_, rfl, ?_, ?_⟩
      · rw [List.getElem?_map, hj]
        rfl
      · intro m z' hm hz'
        rw [List.getElem?_map, hlt m hm] at hz'
        cases hz'
        rfl
      · refine ⟨l4, _, _, .str nm, rfl, rfl, sqL upd_same, at_of (j := j) rfl ?_, (by show 2 ≤ sizeLine; decide), fun r nr => ?_⟩
        · show (wordsL.map V.str)[j]? = some (V.str nm)
          rw [List.getElem?_map, hn]
          rfl
        · exact q _ r (((((s1.trans s2).trans s3).trans sm).trans s4).trans (same_upd nr)) upd_same

--IMPORT law_word
theorem wd_exm (T : Tx K mg) {D : Addr} {nm : Str} (h : Wd T D nm) : PySem.W.exmOne K (.ref D) (.ref T.C_MarkError) = some true := by
  refine PySem.W.exm_ref T.e_MarkError T.hd_MarkError T.t_MarkError ?_
  rcases h with ⟨e, _⟩ | ⟨e, _⟩ | ⟨e, _⟩ | ⟨e, _⟩ | ⟨e, _⟩ | ⟨e, _⟩ | ⟨e, _⟩
  · rw [e]; exact T.sm_BadHeap
  · rw [e]; exact T.sm_BadName
  · rw [e]; exact T.sm_BadPoint
  · rw [e]; exact T.sm_BadSize
  · rw [e]; exact T.sm_BadText
  · rw [e]; exact T.sm_BadTag
  · rw [e]; exact T.sm_Nothing
theorem told_ok {X : Cx} (T : Tx X.K X.mg) {q : Str} {k : Nat} (cdv : Value) : Gives X ["deed", "e"] "_law_told" (defScope s_law_told) T.f_law_told cdv (defBody s_law_told) "deed" q (k + 1) (TTold X.K T.C_MarkError (sp_law_word T)) :=
  told_gives (by decide) rfl T.g_MarkError (by decide) rfl rfl T.g_law_word (by decide) (by decide) (by decide) (Nat.succ_le_succ (Nat.zero_le k)) (fun _ => ok_law_word T) T.F_law_word.kp T.b_law_word
/-- what told makes of a refusal -/
theorem told_E (T : Tx K mg) {D : Addr} {nm : Str} {H' : Hp} {Q : VK} (wd : Wd T D nm) (q : ∀ H'' r, Same H' H'' → H'' r = some (.tup [.str "refused", .str nm]) → Q (.ref r) H'') :
    ∃ b, PySem.W.exmOne K (.ref D) (.ref T.C_MarkError) = some b ∧ (b = true → ∀ (a : Addr) (oe : Obj), L2N.Zn (.ref D) none oe → (∃ vs, oe.data = .fields vs) → H' a = none → sp_law_word T (a, oe) [.ref a] H' Q E0) ∧ (b = false → False) :=
  ⟨true, wd_exm T wd, fun _ a oe hz hf _ => ⟨D, nm, rfl, hz.zc, hf, wd, q⟩, fun z => nomatch z⟩
theorem told_okL (T : Tx K mg) {N : List Str} {qual : Str} {sc : Scope} {f : Addr} {cd : Value} {A : Around} {outer : List Env} {s : Shared} {H : Hp} {E : XK} {q : Str} (k : Nat) (cdv : Value) :
    Gives (cxOf CX0 P w K mg base N qual sc f cd A outer s H E).nox ["deed", "e"] "_law_told" (defScope s_law_told) T.f_law_told cdv (defBody s_law_told) "deed" q (k + 1) (TTold K T.C_MarkError (sp_law_word T)) :=
  told_ok (X := (cxOf CX0 P w K mg base N qual sc f cd A outer s H E).nox) T cdv

def sp_law_point : Sp := fun vs H Q _ => ∃ (m : Int), vs = [.int m] ∧ ∀ (p : Pt) (v : V) (H' : Hp), PtOk p → Same H H' → PtAt H' v p → Q v H'
theorem ok_law_point (T : Tx K mg) : FnOk P w K mg base CX0 1 T.f_law_point T.d_law_point ["more"] (sp_law_point) := by
  refine T.F_law_point.ok sc_law_point (fun vs H Q E h => ?_) (fun cdv A outer s H vs Q E hr h => ?_)
  · obtain ⟨m, rfl, _⟩ := h
    rfl
  · obtain ⟨m, rfl, q⟩ := h
    refine ⟨_, (pss_cons (ps_set (i := 1) sc_law_point.nd rfl (Or.inl rfl) (pe_op op_fdiv (pv 0) pe_int))
      (pss_cons (ps_if (pt_cmpR op_eq (pe_op op_mod (pv 0) pe_int) pe_int (nomark _)) (pss_one (ps_ret (pe_tup (pa_cons (pe_op op_mod (pv 1) pe_int) (pa_cons (pe_op op_mod (pe_op op_fdiv (pv 1) pe_int) pe_int) pa_nil))))) pss_nil)
      (pss_cons (ps_set (i := 2) sc_law_point.nd rfl (Or.inl rfl) (pe_ix ix_list (pe_lst (pa_cons pe_int (pa_cons pe_int (pa_cons pe_int (pa_cons pe_int pa_nil))))) (pe_op op_mod (pe_op op_fdiv (pv 1) (pe_op op_pow pe_int pe_int)) pe_int) (fun _ _ => rfl)))
      (pss_one (ps_ret (pe_tup (pa_cons (pe_op op_mul (pe_op op_mod (pv 1) pe_int) (pv 2)) (pa_cons (pe_op op_mul (pe_op op_mod (pe_op op_fdiv (pv 1) pe_int) pe_int) (pv 2)) pa_nil)))))))), ?_⟩
    refine ⟨_, rfl, _, _, rfl, rfl, ⟨by decide, by decide⟩, ?_⟩
    refine ⟨_, rfl, _, _, rfl, rfl, (by show (0 : Int) < 4; decide), rfl, _, rfl, ?_⟩
    refine ite2 (fun _ => ?_) (fun _ => ?_)
    · refine ⟨_, rfl, _, _, rfl, rfl, (by show (0 : Int) < 4096; decide), _, rfl, _, _, rfl, rfl, ⟨by decide, by decide⟩, _, _, rfl, rfl, (by show (0 : Int) < 4096; decide), (by show 2 ≤ sizeLine; decide), fun a na => ?_⟩
      refine q (m / 8 % 4096, m / 8 / 4096 % 4096) _ _ ?_ (same_upd na) ⟨a, rfl, upd_same⟩
      unfold PtOk
      dsimp only
      omega
    · refine ⟨(by show 4 ≤ sizeLine; decide), fun l nl => ?_⟩
      have s1 := same_upd (o := .lst [V.int 1, .int 3, .int 10, .int 100]) nl
      have h0 := Int.emod_nonneg (m / 8 / 2 ^ (24 : Int).toNat) (show (4 : Int) ≠ 0 by decide)
      have h1 := Int.emod_lt_of_pos (m / 8 / 2 ^ (24 : Int).toNat) (show (0 : Int) < 4 by decide)
      obtain ⟨j, hj⟩ : ∃ j : Nat, m / 8 / 2 ^ (24 : Int).toNat % 4 = (j : Int) := ⟨(m / 8 / 2 ^ (24 : Int).toNat % 4).toNat, by omega⟩
      obtain ⟨b, hb, b0, b1⟩ : ∃ b : Int, ([V.int 1, .int 3, .int 10, .int 100] : List V)[j]? = some (.int b) ∧ 0 ≤ b ∧ b ≤ 100 := by
        have : j < 4 := by omega
        match j, this with
        | 0, _ => exact ⟨1, rfl, by decide, by decide⟩
        | 1, _ => exact ⟨3, rfl, by decide, by decide⟩
        | 2, _ => exact ⟨10, rfl, by decide, by decide⟩
        | 3, _ => exact ⟨100, rfl, by decide, by decide⟩
      refine ⟨_, rfl, _, _, rfl, rfl, ⟨by decide, by decide, by decide⟩, _, _, rfl, rfl, ⟨by decide, by decide⟩, _, _, rfl, rfl, (by show (0 : Int) < 4; decide), l, _, _, .int b, rfl, rfl, sqL upd_same, at_of hj hb, ?_⟩
      have c2 : ∀ z : Int, (-(2 ^ 64) : Int) < z % 12 ∧ z % 12 < 2 ^ 64 := fun z => by
        have h2 : (2 : Int) ^ 64 = 18446744073709551616 := by decide
        rw [h2]
        omega
      refine ⟨_, rfl, _, _, rfl, rfl, (by show (0 : Int) < 12; decide), _, rfl, _, _, rfl, rfl, .inl (c2 _), _, rfl, _, _, rfl, rfl, ⟨by decide, by decide⟩, _, _, rfl, rfl, (by show (0 : Int) < 12; decide), _, rfl, _, _, rfl, rfl, .inl (c2 _), (by show 2 ≤ sizeLine; decide), fun a na => ?_⟩
      refine q (m / 8 % 12 * b, m / 8 / 16 % 12 * b) _ _ ?_ (s1.trans (same_upd na)) ⟨a, rfl, upd_same⟩
      have e1 : 0 ≤ m / 8 % 12 * b := Int.mul_nonneg (by omega) b0
      have e2 : m / 8 % 12 * b ≤ 11 * 100 := Int.mul_le_mul (by omega) b1 b0 (by decide)
      have e3 : 0 ≤ m / 8 / 16 % 12 * b := Int.mul_nonneg (by omega) b0
      have e4 : m / 8 / 16 % 12 * b ≤ 11 * 100 := Int.mul_le_mul (by omega) b1 b0 (by decide)
      unfold PtOk
      dsimp only
      omega

def sp_law_name : Sp := fun vs H Q _ => ∃ (j : Int), vs = [.int j] ∧ 0 ≤ j ∧ j < 676 ∧ Q (.str (nameOf j)) H
theorem ok_law_name (T : Tx K mg) : FnOk P w K mg base CX0 1 T.f_law_name T.d_law_name ["j"] (sp_law_name) := by
  refine T.F_law_name.ok sc_law_name (fun vs H Q E h => ?_) (fun cdv A outer s H vs Q E hr h => ?_)
  · obtain ⟨j, rfl, _⟩ := h
    rfl
  · obtain ⟨j, rfl, j0, j1, q⟩ := h
    refine ⟨_, (pss_one (ps_ret (pe_op op_add_str (pe_ix ix_str pe_str (pe_op op_fdiv (pv 0) pe_int) (fun _ _ => rfl)) (pe_ix ix_str pe_str (pe_op op_mod (pv 0) pe_int) (fun _ _ => rfl))))), ?_⟩
    have h1 := sign_at (show 0 ≤ j / 26 by omega) (show j / 26 < 26 by omega)
    have h2 := sign_at (show 0 ≤ j % 26 by omega) (show j % 26 < 26 by omega)
    refine ⟨_, rfl, _, _, rfl, rfl, ⟨by decide, by decide⟩, _, _, _, rfl, rfl, (by show 26 ≤ sizeLine; decide), h1, _, rfl, _, _, rfl, rfl, (by show (0 : Int) < 26; decide), _, _, _, rfl, rfl, (by show 26 ≤ sizeLine; decide), h2, _, _, rfl, rfl, ?_, ?_⟩
    · show 2 ≤ sizeLine; decide
    · exact q

def sp_law_stand (C CM : Addr) : Sp := fun vs H Q _ => ∃ (D : DeskR) (M : PM) (tg : Tg) (past ahead : List Stand), vs = [.ref D.dk] ∧ DeskAt C CM H D M tg past ahead ∧ (tg.map (·.1)).Perm (namesOf M) ∧ ∀ (l : Addr) (fp : List Addr) (H' : Hp), Same H H' → StdAt H' l (sortP M, tg) fp → (∀ b ∈ fp, H b = none) → Q (.ref l) H'
theorem ok_law_stand (T : Tx K mg) : FnOk P w K mg base CX0 6 T.f_law_stand T.d_law_stand ["desk"] (sp_law_stand T.C_Desk T.C_Map) := by
  refine T.F_law_stand.ok sc_law_stand (fun vs H Q E h => ?_) (fun cdv A outer s H vs Q E hr h => ?_)
  · obtain ⟨D, M, tg, past, ahead, rfl, _⟩ := h
    rfl
  · obtain ⟨D, M, tg, past, ahead, rfl, hd0, tgn, q⟩ := h
    refine ⟨_, (pss_one (ps_ret (pe_lc (own := [("name", 1), ("point", 2)]) (g := gTup K 2 (gCons (gName 1) (gCons (gName 2) gNil))) (tt := tYes) (by rfl) sc_law_stand.nd (pi_list (pe_meth0 (pe_meth0 (pv 0) T.c_Desk T.q_Desk_chart (ok_Desk_chart T) (hr.mono (by decide)) T.b_Desk_chart .nil pass0 ) T.c_Map T.q_Map_marks (ok_Map_marks T) (hr.mono (by decide)) T.b_Map_marks .nil pass0 )) (blkOk_by (own := [("name", 1), ("point", 2)]) (N := ["desk", "name", "point"]) (sc := defScope s_law_stand) (by decide +kernel)) (fun _ _ _ _ _ => (pg_tupK (K := K) rfl (by rfl) (pgs_cons (pg_name (i := 1) sc_law_stand.nd rfl (Or.inl rfl)) (pgs_cons (pg_name (i := 2) sc_law_stand.nd rfl (Or.inl rfl)) pgs_nil)))) (fun _ _ _ _ _ => pts_nil) (fun _ _ _ _ _ => (pe_tup (pa_cons (pv 1) (pa_cons (pv 2) (pa_cons (pe_meth (pv 0) T.c_Desk T.q_Desk_tags (ok_Desk_tags T) (hr.mono (by decide)) T.b_Desk_tags .nil passN0 (pa_cons (pv 1) pa_nil)) pa_nil)))))))), ?_⟩
    refine ⟨_, rfl, D.dk, _, _, rfl, hd0.ins, rfl, D, M, tg, past, ahead, rfl, hd0, fun R H1 s1 frR hm1 => ?_⟩
    refine ⟨R.m, _, _, rfl, hm1.ins, rfl, R, sortP M, rfl, hm1, fun ml ts H2 s2 nml hml hw => ?_⟩
    have ok := MapG.ok hd0.map
    have okP := ok.sortP
    have e0 : sortS (NM.namesOf (sortP M)) = NM.namesOf (sortP M) := by rw [names_sortP]; exact sortS_self (sortS_sorted _)
    rw [e0] at hw
    have lenN := okP.lenN
    have lts : ts.length = (NM.namesOf (sortP M)).length := paired_len hw
    have s02 := s1.trans s2
    refine ⟨ml, rfl, ⟨_, sqL hml⟩, lc_invG (enum_list (xs := ts.map V.ref)) (fun D' i acc H' => Same H2 H' ∧ ∃ qs : List (Addr × Addr), acc = qs.map (fun q => V.ref q.1) ∧ Paired (StRow H' (sortP M, tg)) qs ((NM.namesOf (sortP M)).take i) ∧ ∀ q ∈ qs, q.1 ≠ D' ∧ q.2 ≠ D' ∧ H q.2 = none) ?_ ?_ ?_ ?_ gTup2_mono ?_⟩
    · intro D' nD
      exact ⟨same_upd nD, [], rfl, .nil, fun q hq => nomatch hq⟩
    · rintro D' i acc H' nD ⟨s, _⟩
      exact sqL (s _ _ hml)
    · rw [List.length_map, lts]; exact small1000 (by omega)
    · rintro D' i x acc H3 Cy nD hD ex ⟨s3, qs, rfl, w1, w2⟩ h1
      obtain ⟨t, n, u, rfl, _, en, ht, hu⟩ := hw.at ex
      have ht3 := s3 _ _ ht
      have hu3 := hu.same s3
      have s03 := s02.trans s3
      have hd3 := hd0.same s03
      have hnP : n ∈ NM.namesOf (sortP M) := List.mem_of_getElem? en
      have hn : n ∈ NM.namesOf M := by rw [names_sortP] at hnP; exact mem_sortS.mp hnP
      refine ⟨t, _, rfl, sqT ht3, rfl, _, _, rfl, _, [], rfl, rfl, rfl, ?_⟩
      refine ⟨_, rfl, _, rfl, _, rfl, D.dk, _, _, rfl, hd3.ins, rfl, _, rfl, D, M, tg, past, ahead, .str n, rfl, hd3, tgn, trivial, ?_, .inl ⟨n, rfl, hn, fun l H4 s4 nl hl => ⟨(by show 3 ≤ sizeLine; decide), fun t2 nt2 => ?_⟩⟩⟩
      · intro x e
        injection e with e
        rw [← e]
        have := nameS_len (ok.name hn)
        show n.cps.size ≤ 1000
        omega
      have nl0 : H l = none := s03.free nl
      have hD4 := s4 _ _ hD
      have s5 := same_upd (o := .tup [.str n, u, .ref l]) nt2
      have ht5 := upd_same (H := H4) (a := t2) (o := .tup [.str n, u, .ref l])
      have hD5 := s5 _ _ hD4
      have hl5 := s5 _ _ hl
      have ntD : t2 ≠ D' := fun e => by rw [e, hD4] at nt2; cases nt2
      have nlD : l ≠ D' := fun e => by rw [e, hD] at nl; cases nl
      generalize upd H4 t2 (.tup [.str n, u, .ref l]) = H5 at s5 ht5 hD5 hl5 ⊢
      have s35 := s4.trans s5
      have kt : KeepT H5 (upd H5 D' (.lst (qs.map (fun q => V.ref q.1) ++ [.ref t2]))) := keepT_upd hD5 (fun xs e => by cases e)
      refine h1 _ _ hD5 ⟨fun b o e => by rw [upd_ne (ne_of_none e nD)]; exact s35 _ _ (s3 _ _ e), qs ++ [(t2, l)], by rw [List.map_append]; rfl, ?_, ?_⟩
      · rw [take_at en]
        refine paired_snoc' (strow_keep (s35.keepT.trans kt) w1 fun q hq o e => by rw [upd_ne (w2 q hq).2.1]; exact s35 _ _ e) ⟨u, by rw [upd_ne ntD]; exact ht5, (hu3.same s35).keepT kt, by rw [upd_ne nlD]; exact hl5⟩
      · intro q hq
        rcases List.mem_append.mp hq with hq | hq
        · exact w2 q hq
        · rw [List.mem_singleton.mp hq]; exact ⟨ntD, nlD, nl0⟩
    rintro D' H3 acc nD hD ⟨s3, qs, rfl, w1, w2⟩
    rw [List.length_map, lts, List.take_length] at w1
    refine q D' _ H3 (s02.trans s3) ⟨qs, hD, w1, rfl⟩ fun b hb => ?_
    rcases List.mem_cons.mp hb with e | hb
    · rw [e]; exact s02.free nD
    · obtain ⟨q, hq, rfl⟩ := List.mem_map.mp hb
      exact (w2 q hq).2.2

def sp_law_any (T : Tx K mg) : Sp := fun vs H Q _ => ∃ (D : DeskR) (M : PM) (tg : Tg) (past ahead : List Stand) (hh : Int), vs = [.ref D.dk, .int hh] ∧ DeskAt T.C_Desk T.C_Map H D M tg past ahead ∧ (tg.map (·.1)).Perm (namesOf M) ∧ LamX.Tabs (TL T) H ∧ past.length ≤ 900 ∧ M.length < 60 ∧
  (∀ (D' : DeskR) (H' : Hp) (M' : PM) (tg' : Tg), DeskX H H' D D' → LamX.Tabs (TL T) H' → DeskAt T.C_Desk T.C_Map H' D' M' tg' (past ++ [(sortP M, tg)]) [] → (tg'.map (·.1)).Perm (namesOf M') → M'.length ≤ M.length + 1 → (∀ n ∈ namesOf M', n ∈ namesOf M ∨ n.length = 2) → Q .non H') ∧
  ∀ (H' : Hp) (r : Addr) (nm : Str), LamX.ExtN H H' → LamX.Tabs (TL T) H' → H' r = some (.tup [.str "refused", .str nm]) → Q (.ref r) H'
theorem marks_names {H : Hp} {M : PM} : ∀ {ts : List Addr} {L : List Str} {ys : List V}, MarksAt H ts L M → Paired (fun x y => ∃ t n v, x = V.ref t ∧ H t = some (.tup [.str n, v]) ∧ y = V.str n) (ts.map V.ref) ys → ys = L.map V.str
  | _, _, _, .nil, .nil => rfl
  | _, _, _, .cons ⟨u, h1, _⟩ t, .cons ⟨t', n', v', e1, e2, e3⟩ r => by
    cases e1
    rw [h1] at e2
    cases e2
    rw [e3, marks_names t r]
    rfl
theorem ok_law_any (T : Tx K mg) (TB : TBs T base) : FnOk P w K mg base CX0 10 T.f_law_any T.d_law_any ["desk", "here"] (sp_law_any T) := by
  refine T.D_law_any.ok sc_law_any (fun vs H Q E h => ?_) (fun A outer s H vs Q E hr h => ?_)
  · obtain ⟨D, M, tg, past, ahead, hh, rfl, _⟩ := h
    rfl
  · obtain ⟨D, M, tg, past, ahead, hh, rfl, hd0, tgn, hT, lp, lM, q1, q0⟩ := h
    refine ⟨_, (pss_cons (ps_set (i := 2) sc_law_any.nd rfl (Or.inl rfl) (pe_op op_cat (pe_lc (own := [("name", 3), ("point", 4)]) (g := gTup K 2 (gCons (gName 3) (gCons (gName 4) gNil))) (tt := tYes) (by rfl) sc_law_any.nd (pi_list (pe_meth0 (pe_meth0 (pv 0) T.c_Desk T.q_Desk_chart (ok_Desk_chart T) (hr.mono (by decide)) T.b_Desk_chart .nil pass0 ) T.c_Map T.q_Map_marks (ok_Map_marks T) (hr.mono (by decide)) T.b_Map_marks .nil pass0 )) (blkOk_by (own := [("name", 3), ("point", 4)]) (N := ["desk", "here", "names", "name", "point", "word"]) (sc := defScope s_law_any) (by decide +kernel)) (fun _ _ _ _ _ => (pg_tupK (K := K) rfl (by rfl) (pgs_cons (pg_name (i := 3) sc_law_any.nd rfl (Or.inl rfl)) (pgs_cons (pg_name (i := 4) sc_law_any.nd rfl (Or.inl rfl)) pgs_nil)))) (fun _ _ _ _ _ => pts_nil) (fun _ _ _ _ _ => (pv 3))) (pe_lst (pa_cons pe_str pa_nil))))
      (pss_cons (ps_asg (pe_tup (pa_cons (pe_ix ix_list (pv 2) (pe_op op_mod (pe_op op_fdiv (pv 1) pe_int) (pe_callB call_len_seq (by rfl) T.n_len (by decide +kernel) (pa_cons (pv 2) pa_nil))) (fun _ _ => rfl)) (pa_cons (pe_call (ok_law_point T) (hr.mono (by decide)) (by rfl) T.g_law_point T.F_law_point.kp T.b_law_point .nil pass0 (pa_cons (pe_op op_fdiv (pv 1) pe_int) pa_nil)) pa_nil))) (pg_tup (by rfl) (pgs_cons (pg_name (i := 3) sc_law_any.nd rfl (Or.inr rfl)) (pgs_cons (pg_name (i := 4) sc_law_any.nd rfl (Or.inr rfl)) pgs_nil))))
      (pss_cons (ps_set (i := 5) sc_law_any.nd rfl (Or.inr rfl) (pe_ix ix_str pe_str (pe_op op_mod (pe_op op_fdiv (pv 1) pe_int) pe_int) (fun _ _ => rfl)))
      (pss_cons (ps_if (pt_cmpR op_lt (pe_op op_mod (pv 1) pe_int) pe_int (nomark _)) (pss_one (ps_ret (pe_lamN (k := 7) (t := fun E => _) (T := TL T) (TT := TTold K T.C_MarkError (sp_law_word T)) T.F_law_told (by rfl) T.g_law_told T.b_law_told sc_law_told rfl (.inl rfl) (told_okL T 7) TB.1 rfl (tl_m_law_any T) (tl_u_law_any T) (hr.mono (by decide)) (LamX.lamS_by (sc := defScope s_law_any) (by decide +kernel)) rfl (fun _ _ _ _ _ => rfl) (fun A outer s H E f c' hl => (pe_meth (pv 0) T.c_Desk T.q_Desk_put (ok_Desk_put T) (hl.mono (by decide)) T.b_Desk_put .nil (L2N.passes_call (L2N.takes_of rfl rfl rfl rfl) (fun _ _ _ _ h => h)) (pa_cons (pe_call (ok_law_name T) (hl.mono (by decide)) rfl T.g_law_name T.F_law_name.kp T.b_law_name .nil pass0 (pa_cons (pe_op op_mod (pe_op op_fdiv (pv 1) pe_int) pe_int) pa_nil)) (pa_cons (pv 4) pa_nil))))))) pss_nil)
      (pss_cons (ps_if (pt_cmpR op_eq (pe_op op_mod (pv 1) pe_int) pe_int (nomark _)) (pss_one (ps_ret (pe_lamN (k := 7) (t := fun E => _) (T := TL T) (TT := TTold K T.C_MarkError (sp_law_word T)) T.F_law_told (by rfl) T.g_law_told T.b_law_told sc_law_told rfl (.inl rfl) (told_okL T 7) TB.1 rfl (tl_m_law_any T) (tl_u_law_any T) (hr.mono (by decide)) (LamX.lamS_by (sc := defScope s_law_any) (by decide +kernel)) rfl (fun _ _ _ _ _ => rfl) (fun A outer s H E f c' hl => (pe_meth (pv 0) T.c_Desk T.q_Desk_drop (ok_Desk_drop T) (hl.mono (by decide)) T.b_Desk_drop .nil (L2N.passes_call (L2N.takes_of rfl rfl rfl rfl) (fun _ _ _ _ h => h)) (pa_cons (pv 3) pa_nil)))))) pss_nil)
      (pss_cons (ps_if (pt_cmpR op_eq (pe_op op_mod (pv 1) pe_int) pe_int (nomark _)) (pss_one (ps_ret (pe_lamN (k := 7) (t := fun E => _) (T := TL T) (TT := TTold K T.C_MarkError (sp_law_word T)) T.F_law_told (by rfl) T.g_law_told T.b_law_told sc_law_told rfl (.inl rfl) (told_okL T 7) TB.1 rfl (tl_m_law_any T) (tl_u_law_any T) (hr.mono (by decide)) (LamX.lamS_by (sc := defScope s_law_any) (by decide +kernel)) rfl (fun _ _ _ _ _ => rfl) (fun A outer s H E f c' hl => (pe_meth (pv 0) T.c_Desk T.q_Desk_move (ok_Desk_move T) (hl.mono (by decide)) T.b_Desk_move .nil (L2N.passes_call (L2N.takes_of rfl rfl rfl rfl) (fun _ _ _ _ h => h)) (pa_cons (pv 3) (pa_cons (pv 4) pa_nil))))))) pss_nil)
      (pss_cons (ps_if (pt_cmpR op_eq (pe_op op_mod (pv 1) pe_int) pe_int (nomark _)) (pss_one (ps_ret (pe_lamN (k := 7) (t := fun E => _) (T := TL T) (TT := TTold K T.C_MarkError (sp_law_word T)) T.F_law_told (by rfl) T.g_law_told T.b_law_told sc_law_told rfl (.inl rfl) (told_okL T 7) TB.1 rfl (tl_m_law_any T) (tl_u_law_any T) (hr.mono (by decide)) (LamX.lamS_by (sc := defScope s_law_any) (by decide +kernel)) rfl (fun _ _ _ _ _ => rfl) (fun A outer s H E f c' hl => (pe_meth (pv 0) T.c_Desk T.q_Desk_tag (ok_Desk_tag T) (hl.mono (by decide)) T.b_Desk_tag .nil (L2N.passes_call (L2N.takes_of rfl rfl rfl rfl) (fun _ _ _ _ h => h)) (pa_cons (pv 3) (pa_cons (pv 5) pa_nil))))))) pss_nil)
      (pss_one (ps_ret (pe_lamN (k := 7) (t := fun E => _) (T := TL T) (TT := TTold K T.C_MarkError (sp_law_word T)) T.F_law_told (by rfl) T.g_law_told T.b_law_told sc_law_told rfl (.inl rfl) (told_okL T 7) TB.1 rfl (tl_m_law_any T) (tl_u_law_any T) (hr.mono (by decide)) (LamX.lamS_by (sc := defScope s_law_any) (by decide +kernel)) rfl (fun _ _ _ _ _ => rfl) (fun A outer s H E f c' hl => (pe_meth (pv 0) T.c_Desk T.q_Desk_untag (ok_Desk_untag T) (hl.mono (by decide)) T.b_Desk_untag .nil (L2N.passes_call (L2N.takes_of rfl rfl rfl rfl) (fun _ _ _ _ h => h)) (pa_cons (pv 3) (pa_cons (pv 5) pa_nil)))))))))))))), ?_⟩
    have wdN : Wd T T.C_BadName "BadName" := .inr (.inl ⟨rfl, rfl⟩)
    have wdT : Wd T T.C_BadTag "BadTag" := .inr (.inr (.inr (.inr (.inr (.inl ⟨rfl, rfl⟩)))))
    have ok := MapG.ok hd0.map
    have okP := ok.sortP
    have e0 : sortS (NM.namesOf (sortP M)) = NM.namesOf (sortP M) := by rw [names_sortP]; exact sortS_self (sortS_sorted _)
    refine ⟨_, rfl, D.dk, _, _, rfl, hd0.ins, rfl, D, M, tg, past, ahead, rfl, hd0, fun R H1 s1 frR hm1 => ?_⟩
    refine ⟨R.m, _, _, rfl, hm1.ins, rfl, R, sortP M, rfl, hm1, fun ml ts H2 s2 nml hml hw => ?_⟩
    rw [e0] at hw
    have lenN := okP.lenN
    have lts : ts.length = (NM.namesOf (sortP M)).length := paired_len hw
    refine ⟨ml, rfl, ⟨_, sqL hml⟩, lc_mapG (enum_list (xs := ts.map V.ref)) (fun x y _ => ∃ t n v, x = V.ref t ∧ H2 t = some (.tup [.str n, v]) ∧ y = V.str n) (fun D H' nD s => sqL (s _ _ (ne_of_none hml nD) hml)) ?_ (fun _ _ _ _ _ _ h _ _ => h) ?_ gTup2_mono ?_⟩
    · rw [List.length_map, lts]; exact small1000 (by omega)
    · intro e x H3 Cy ex s3 k
      obtain ⟨t, n, u, rfl, _, en, ht, hu⟩ := hw.at ex
      refine ⟨t, _, rfl, sqT (s3 _ _ ht), rfl, _, _, rfl, _, [], rfl, rfl, rfl, ?_⟩
      exact ⟨_, rfl, k _ _ (Same.refl _) ⟨t, n, u, rfl, ht, rfl⟩⟩
    intro l H3 ys nl s3 hl pr
    have eys := marks_names hw pr
    subst eys
    refine ⟨(by show 1 ≤ sizeLine; decide), fun l1 nl1 => ⟨l, l1, _, _, rfl, rfl, (same_upd nl1) _ _ hl, upd_same, ?_, fun l2 nl2 => ?_⟩⟩
    · rw [List.length_map]
      exact Nat.le_of_lt (small1000 (show _ + 1 ≤ 1000 by omega))
    have s4 := (same_upd (o := .lst [V.str "zz"]) nl1).trans (same_upd (o := .lst ((NM.namesOf (sortP M)).map V.str ++ [V.str "zz"])) nl2)
    have hl2 := upd_same (H := upd H3 l1 (.lst [V.str "zz"])) (a := l2) (o := .lst ((NM.namesOf (sortP M)).map V.str ++ [V.str "zz"]))
    generalize upd (upd H3 l1 (.lst [V.str "zz"])) l2 (.lst ((NM.namesOf (sortP M)).map V.str ++ [V.str "zz"])) = H4 at s4 hl2 ⊢
    have s04 := ((s1.trans s2).trans s3).trans s4
    have eL : (NM.namesOf (sortP M)).map V.str ++ [V.str "zz"] = (NM.namesOf (sortP M) ++ [("zz" : Str)]).map V.str := by rw [List.map_append]; rfl
    rw [eL] at hl2
    have hLn : ∀ n ∈ NM.namesOf (sortP M) ++ [("zz" : Str)], nameS n = true := fun n hn => by
      rcases List.mem_append.mp hn with hn | hn
      · exact okP.name hn
      · rw [List.mem_singleton.mp hn]; decide +kernel
    have hLl : 0 < (NM.namesOf (sortP M) ++ [("zz" : Str)]).length := by rw [List.length_append]; exact Nat.succ_pos _
    generalize NM.namesOf (sortP M) ++ [("zz" : Str)] = L at hl2 hLn hLl
    clear s1 s2 s3 s4 nl1 nl2 nl hl pr hw lts hml nml hm1 frR eL
    -- name, point
    have hp : (0 : Int) < ((L.map V.str).length : Int) := by rw [List.length_map]; omega
    have h0 := Int.emod_nonneg (hh / 64) (show ((L.map V.str).length : Int) ≠ 0 by omega)
    have h1 := Int.emod_lt_of_pos (hh / 64) hp
    obtain ⟨j, hj⟩ : ∃ j : Nat, hh / 64 % ((L.map V.str).length : Int) = (j : Int) := ⟨_, (Int.toNat_of_nonneg h0).symm⟩
    have hjl : j < L.length := by rw [hj, List.length_map] at h1; omega
    have ej : (L.map V.str)[j]? = some (.str L[j]) := by rw [List.getElem?_map, List.getElem?_eq_getElem hjl]; rfl
    have nmj := hLn L[j] (List.getElem_mem hjl)
    generalize L[j] = n at ej nmj
    refine ⟨_, rfl, _, rfl, _, _, rfl, rfl, ⟨by decide, by decide⟩, _, rfl, l2, _, rfl, .inl (sqL hl2), _, _, rfl, rfl, hp, l2, _, _, _, rfl, rfl, sqL hl2, at_of hj ej, _, rfl, _, _, rfl, rfl, ⟨by decide, by decide⟩, _, rfl, fun p v H5 po s5 pv => ?_⟩
    refine ⟨(by show 2 ≤ sizeLine; decide), fun t nt => ⟨t, _, rfl, sqT upd_same, rfl, _, _, rfl, _, [], rfl, rfl, ?_⟩⟩
    have s6 := same_upd (o := .tup [V.str n, v]) nt
    have pv6 := pv.same s6
    generalize upd H5 t (.tup [V.str n, v]) = H6 at s6 pv6 ⊢
    have s06 := (s04.trans s5).trans s6
    -- word
    have k0 := Int.emod_nonneg (hh / 8) (show (3 : Int) ≠ 0 by decide)
    have k1 := Int.emod_lt_of_pos (hh / 8) (show (0 : Int) < 3 by decide)
    obtain ⟨i, hi⟩ : ∃ i : Nat, hh / 8 % 3 = (i : Int) := ⟨_, (Int.toNat_of_nonneg k0).symm⟩
    obtain ⟨c, hc, nc⟩ : ∃ c : Nat, atI ("abc" : Str).cps.toList (hh / 8 % 3) = some c ∧ nameS ⟨#[c]⟩ = true := by
      rw [hi]
      have : i < 3 := by omega
      match i, this with
      | 0, _ => exact ⟨97, rfl, by decide +kernel⟩
      | 1, _ => exact ⟨98, rfl, by decide +kernel⟩
      | 2, _ => exact ⟨99, rfl, by decide +kernel⟩
    refine ⟨_, rfl, _, _, rfl, rfl, ⟨by decide, by decide⟩, _, _, rfl, rfl, (by show (0 : Int) < 3; decide), _, _, c, rfl, rfl, (by show 3 ≤ sizeLine; decide), hc, ?_⟩
    have hd6 := hd0.same s06
    have hT6 := hT.ext s06
    have fin : ∀ {H1 H2 : Hp} {D' : DeskR} {M' : PM} {tg' : Tg}, LamX.ExtN H6 H1 → LamX.Tabs (TL T) H1 → DeskAt T.C_Desk T.C_Map H1 D M tg past ahead → DeskTo H1 H2 D D' → DeskAt T.C_Desk T.C_Map H2 D' M' tg' (past ++ [(sortP M, tg)]) [] → (tg'.map (·.1)).Perm (NM.namesOf M') → M'.length ≤ M.length + 1 → (∀ n ∈ NM.namesOf M', n ∈ NM.namesOf M ∨ n.length = 2) → Q .non H2 := fun {H1 H2 D' M' tg'} e1 T1 hd1 to2 hd2 a b c =>
      q1 D' H2 M' tg' ((DeskX.ext (s06.ext.trans e1)).trans (DeskX.of_to to2)) (hd1.tabs T1 to2.keep) hd2 a b c
    have bad : ∀ {H1 H2 H3 : Hp} {r : Addr} {nm : Str}, LamX.ExtN H6 H1 → LamX.Tabs (TL T) H1 → Same H1 H2 → Same H2 H3 → H3 r = some (.tup [.str "refused", .str nm]) → Q (.ref r) H3 := fun {H1 H2 H3 r nm} e1 T1 s2 s3 h =>
      q0 H3 r nm (((s06.ext.trans e1).trans s2.ext).trans s3.ext) ((T1.ext s2).ext s3) h
    have ndM := ok.nodup
    clear q0 q1
    refine ⟨_, rfl, _, _, rfl, rfl, (by show (0 : Int) < 6; decide), _, _, rfl, rfl, _, rfl, ?_⟩
    refine ite2 (fun _ => ?_) (fun _ => ?_)
    · refine ⟨hT6, fun H7 e7 T7 => ?_⟩
      have hd7 := hd6.ext e7
      have pv7 := pv6.ext e7
      have m0 := Int.emod_nonneg (hh / 4096) (show (20 : Int) ≠ 0 by decide)
      have m1 := Int.emod_lt_of_pos (hh / 4096) (show (0 : Int) < 20 by decide)
      have nmk : nameS (nameOf (hh / 4096 % 20)) = true := nameOf_ok m0 (by omega)
      refine ⟨_, rfl, D.dk, _, _, rfl, hd7.ins, rfl, _, rfl, _, _, rfl, rfl, ⟨by decide, by decide⟩, _, _, rfl, rfl, (by show (0 : Int) < 20; decide), _, rfl, m0, by omega, _, rfl, D, M, tg, past, ahead, _, v, rfl, hd7, tgn, lp, trivial, nmLen nmk, pv7.pd, ?_⟩
      have l2 : (nameOf (hh / 4096 % 20)).length = 2 := rfl
      generalize nameOf (hh / 4096 % 20) = n0 at nmk l2
      by_cases hn : n0 ∈ NM.namesOf M
      · exact .inr (.inl ⟨.inr (.inl ⟨n0, hn, rfl⟩), fun H8 s8 => told_E T wdN fun H9 r s9 h9 => bad e7 T7 s8 s9 h9⟩)
      · refine .inl ⟨n0, p, rfl, nmk, hn, lM, pv7, po, fun D' H8 to8 _ hd8 => fin e7 T7 hd7 to8 hd8 ?_ ?_ ?_⟩
        · rw [List.map_append, names_app]; exact tgn.append_right _
        · rw [List.length_append]; exact Nat.le_refl _
        · intro m hm
          rw [names_app] at hm
          rcases List.mem_append.mp hm with hm | hm
          · exact .inl hm
          · rw [List.mem_singleton.mp hm]; exact .inr l2
    refine ⟨_, rfl, _, _, rfl, rfl, (by show (0 : Int) < 6; decide), rfl, _, rfl, ?_⟩
    refine ite2 (fun _ => ?_) (fun _ => ?_)
    · refine ⟨hT6, fun H7 e7 T7 => ?_⟩
      have hd7 := hd6.ext e7
      refine ⟨_, rfl, D.dk, _, _, rfl, hd7.ins, rfl, _, rfl, D, M, tg, past, ahead, _, rfl, hd7, tgn, lp, trivial, nmLen nmj, ?_⟩
      by_cases hn : n ∈ NM.namesOf M
      · refine .inl ⟨n, rfl, hn, fun D' H8 to8 _ hd8 => fin e7 T7 hd7 to8 hd8 ?_ ?_ ?_⟩
        · rw [dropTg_names, dropP_names]; exact tgn.filter _
        · unfold dropP
          exact Nat.le_succ_of_le (List.length_filter_le _ _)
        · intro m hm
          rw [dropP_names] at hm
          exact .inl (List.mem_filter.mp hm).1
      · exact .inr ⟨fun m e => by injection e with e; rw [← e]; exact hn, fun H8 s8 => told_E T wdN fun H9 r s9 h9 => bad e7 T7 s8 s9 h9⟩
    refine ⟨_, rfl, _, _, rfl, rfl, (by show (0 : Int) < 6; decide), rfl, _, rfl, ?_⟩
    refine ite2 (fun _ => ?_) (fun _ => ?_)
    · refine ⟨hT6, fun H7 e7 T7 => ?_⟩
      have hd7 := hd6.ext e7
      have pv7 := pv6.ext e7
      refine ⟨_, rfl, D.dk, _, _, rfl, hd7.ins, rfl, _, rfl, _, rfl, D, M, tg, past, ahead, _, v, rfl, hd7, lp, trivial, nmLen nmj, pv7.pd, ?_⟩
      by_cases hn : n ∈ NM.namesOf M
      · have pm : (NM.namesOf M).Perm (NM.namesOf (dropP M n ++ [(n, p)])) := by
          have := names_perm (filter_ne_perm ndM hn)
          rw [names_app] at this ⊢
          exact this
        refine .inl ⟨n, p, rfl, hn, pv7, po, fun D' H8 to8 _ hd8 => fin e7 T7 hd7 to8 hd8 (tgn.trans pm) ?_ ?_⟩
        · have := pm.length_eq
          unfold NM.namesOf at this
          rw [List.length_map, List.length_map] at this
          omega
        · exact fun m hm => .inl (pm.mem_iff.mpr hm)
      · exact .inr (.inl ⟨fun m e => by injection e with e; rw [← e]; exact hn, fun H8 s8 => told_E T wdN fun H9 r s9 h9 => bad e7 T7 s8 s9 h9⟩)
    have nwl : ∀ x, V.str ⟨#[c]⟩ = .str x → x.length ≤ 1000 := nmLen nc
    refine ⟨_, rfl, _, _, rfl, rfl, (by show (0 : Int) < 6; decide), rfl, _, rfl, ?_⟩
    refine ite2 (fun _ => ?_) (fun _ => ?_)
    · refine ⟨hT6, fun H7 e7 T7 => ?_⟩
      have hd7 := hd6.ext e7
      refine ⟨_, rfl, D.dk, _, _, rfl, hd7.ins, rfl, _, rfl, _, rfl, D, M, tg, past, ahead, _, _, rfl, hd7, tgn, lp, trivial, nmLen nmj, trivial, nwl, ?_⟩
      by_cases hn : n ∈ NM.namesOf M
      · by_cases hw : (⟨#[c]⟩ : Str) ∈ tagOf tg n
        · exact .inr (.inr ⟨n, rfl, hn, .inr (.inl ⟨_, hw, rfl⟩), fun H8 s8 => told_E T wdT fun H9 r s9 h9 => bad e7 T7 s8 s9 h9⟩)
        by_cases h5 : 5 ≤ (tagOf tg n).length
        · exact .inr (.inr ⟨n, rfl, hn, .inr (.inr h5), fun H8 s8 => told_E T wdT fun H9 r s9 h9 => bad e7 T7 s8 s9 h9⟩)
        refine .inl ⟨n, _, rfl, hn, rfl, nc, hw, by omega, fun D' H8 to8 _ hd8 => fin e7 T7 hd7 to8 hd8 ?_ (Nat.le_succ _) (fun m hm => .inl hm)⟩
        rw [setTg_names]; exact tgn
      · exact .inr (.inl ⟨fun m e => by injection e with e; rw [← e]; exact hn, fun H8 s8 => told_E T wdN fun H9 r s9 h9 => bad e7 T7 s8 s9 h9⟩)
    · refine ⟨hT6, fun H7 e7 T7 => ?_⟩
      have hd7 := hd6.ext e7
      refine ⟨_, rfl, D.dk, _, _, rfl, hd7.ins, rfl, _, rfl, _, rfl, D, M, tg, past, ahead, _, _, rfl, hd7, tgn, lp, trivial, nmLen nmj, trivial, nwl, ?_⟩
      by_cases hn : n ∈ NM.namesOf M
      · by_cases hw : (⟨#[c]⟩ : Str) ∈ tagOf tg n
        · refine .inl ⟨n, _, rfl, hn, rfl, hw, fun D' H8 to8 _ hd8 => fin e7 T7 hd7 to8 hd8 ?_ (Nat.le_succ _) (fun m hm => .inl hm)⟩
          rw [setTg_names]; exact tgn
        · exact .inr (.inr ⟨n, rfl, hn, (fun w e => by injection e with e; rw [← e]; exact hw), fun H8 s8 => told_E T wdT fun H9 r s9 h9 => bad e7 T7 s8 s9 h9⟩)
      · exact .inr (.inl ⟨fun m e => by injection e with e; rw [← e]; exact hn, fun H8 s8 => told_E T wdN fun H9 r s9 h9 => bad e7 T7 s8 s9 h9⟩)

def sp_law_refusals (T : Tx K mg) : Sp := fun vs H Q _ => ∃ (D : DeskR) (M : PM) (tg : Tg) (past ahead : List Stand), vs = [.ref D.dk] ∧ DeskAt T.C_Desk T.C_Map H D M tg past ahead ∧ (tg.map (·.1)).Perm (namesOf M) ∧ ("zz" : Str) ∉ namesOf M ∧ LamX.Tabs (TL T) H ∧ ∀ H', LamX.ExtN H H' → LamX.Tabs (TL T) H' → Q (.bl true) H'
theorem ok_law_refusals (T : Tx K mg) (TB : TBs T base) : FnOk P w K mg base CX0 8 T.f_law_refusals T.d_law_refusals ["desk"] (sp_law_refusals T) := by
  refine T.D_law_refusals.ok sc_law_refusals (fun vs H Q E h => ?_) (fun A outer s H vs Q E hr h => ?_)
  · obtain ⟨D, M, tg, past, ahead, rfl, _⟩ := h
    rfl
  · obtain ⟨D, M, tg, past, ahead, rfl, hd0, tgn, hZZ, hT, q⟩ := h
    refine ⟨_, (pss_cons (ps_for PassesOwn.never (by rfl) (pi_list (pe_lst (pa_cons pe_non (pa_cons pe_str (pa_cons pe_str (pa_cons pe_str (pa_cons pe_int pa_nil))))))) (pg_name (i := 1) sc_law_refusals.nd rfl (Or.inr rfl))
      (pss_cons (ps_set (i := 2) sc_law_refusals.nd rfl (Or.inl rfl) (pe_lst (pa_cons (pe_lamN (k := 5) (t := fun E => _) (T := TL T) (TT := TTold K T.C_MarkError (sp_law_word T)) T.F_law_told (by rfl) T.g_law_told T.b_law_told sc_law_told rfl (.inl rfl) (told_okL T 5) TB.2.1 rfl (tl_m_law_refusals T) (tl_u_law_refusals T) (hr.mono (by decide)) (LamX.lamS_by (sc := defScope s_law_refusals) (by decide +kernel)) rfl (fun _ _ _ _ _ => rfl) (fun A outer s H E f c' hl => (pe_meth (pv 0) T.c_Desk T.q_Desk_tagged (ok_Desk_tagged T) (hl.mono (by decide)) T.b_Desk_tagged .nil (L2N.passes_call (L2N.takes_of rfl rfl rfl rfl) (fun _ _ _ _ h => h)) (pa_cons (pv 1) pa_nil)))) pa_nil)))
      (pss_cons (ps_expr (pe_bm PySem.F.plainAttrs_list PySem.F.slot_list_append PySem.F.type_list_append mt_append (pv 2) (pa_cons (pe_lamN (k := 5) (t := fun E => _) (T := TL T) (TT := TTold K T.C_MarkError (sp_law_word T)) T.F_law_told (by rfl) T.g_law_told T.b_law_told sc_law_told rfl (.inl rfl) (told_okL T 5) TB.2.1 rfl (tl_m_law_refusals T) (tl_u_law_refusals T) (hr.mono (by decide)) (LamX.lamS_by (sc := defScope s_law_refusals) (by decide +kernel)) rfl (fun _ _ _ _ _ => rfl) (fun A outer s H E f c' hl => (pe_meth (pv 0) T.c_Desk T.q_Desk_sought (ok_Desk_sought T) (hl.mono (by decide)) T.b_Desk_sought .nil (L2N.passes_call (L2N.takes_of rfl rfl rfl rfl) (fun _ _ _ _ h => h)) (pa_cons (pe_tup (pa_cons pe_int (pa_cons pe_int (pa_cons pe_int (pa_cons pe_int pa_nil))))) (pa_cons pe_int (pa_cons (pv 1) pa_nil)))))) pa_nil)))
      (pss_one (ps_if (pt_cmpR (op_neD hr.units) (pv 2) (pe_op op_rep (pe_lst (pa_cons (pe_tup (pa_cons pe_str (pa_cons pe_str pa_nil))) pa_nil)) pe_int) (nomark _)) (pss_one (ps_ret pe_bl)) pss_nil)))))
      (pss_cons (ps_for PassesOwn.never (by rfl) (pi_list (pe_lst (pa_cons (pe_tup (pa_cons pe_non (pa_cons pe_non pa_nil))) (pa_cons (pe_tup (pa_cons (pe_tup (pa_cons pe_int (pa_cons pe_int (pa_cons pe_int pa_nil)))) (pa_cons pe_int pa_nil))) (pa_cons (pe_tup (pa_cons (pe_tup (pa_cons pe_int (pa_cons pe_int (pa_cons pe_int (pa_cons pe_int pa_nil))))) (pa_cons pe_int pa_nil))) (pa_cons (pe_tup (pa_cons (pe_tup (pa_cons pe_int (pa_cons pe_int (pa_cons pe_int (pa_cons pe_int pa_nil))))) (pa_cons pe_int pa_nil))) (pa_cons (pe_tup (pa_cons (pe_tup (pa_cons pe_int (pa_cons pe_int (pa_cons pe_int (pa_cons pe_int pa_nil))))) (pa_cons pe_bl pa_nil))) pa_nil))))))) (pg_tup (by rfl) (pgs_cons (pg_name (i := 3) sc_law_refusals.nd rfl (Or.inr rfl)) (pgs_cons (pg_name (i := 4) sc_law_refusals.nd rfl (Or.inr rfl)) pgs_nil)))
      (pss_one (ps_if (pt_cmpR (op_neD hr.units) (pe_lamN (k := 5) (t := fun E => _) (T := TL T) (TT := TTold K T.C_MarkError (sp_law_word T)) T.F_law_told (by rfl) T.g_law_told T.b_law_told sc_law_told rfl (.inl rfl) (told_okL T 5) TB.2.1 rfl (tl_m_law_refusals T) (tl_u_law_refusals T) (hr.mono (by decide)) (LamX.lamS_by (sc := defScope s_law_refusals) (by decide +kernel)) rfl (fun _ _ _ _ _ => rfl) (fun A outer s H E f c' hl => (pe_meth (pv 0) T.c_Desk T.q_Desk_sought (ok_Desk_sought T) (hl.mono (by decide)) T.b_Desk_sought .nil (L2N.passes_call (L2N.takes_of rfl rfl rfl rfl) (fun _ _ _ _ h => h)) (pa_cons (pv 3) (pa_cons (pv 4) (pa_cons pe_non pa_nil)))))) (pe_tup (pa_cons pe_str (pa_cons pe_str pa_nil))) (nomark _)) (pss_one (ps_ret pe_bl)) pss_nil)))
      (pss_cons (ps_set (i := 2) sc_law_refusals.nd rfl (Or.inl rfl) (pe_lst (pa_cons (pe_lamN (k := 5) (t := fun E => _) (T := TL T) (TT := TTold K T.C_MarkError (sp_law_word T)) T.F_law_told (by rfl) T.g_law_told T.b_law_told sc_law_told rfl (.inl rfl) (told_okL T 5) TB.2.1 rfl (tl_m_law_refusals T) (tl_u_law_refusals T) (hr.mono (by decide)) (LamX.lamS_by (sc := defScope s_law_refusals) (by decide +kernel)) rfl (fun _ _ _ _ _ => rfl) (fun A outer s H E f c' hl => (pe_meth (pv 0) T.c_Desk T.q_Desk_told_of (ok_Desk_told_of T) (hl.mono (by decide)) T.b_Desk_told_of .nil (L2N.passes_call (L2N.takes_of rfl rfl rfl rfl) (fun _ _ _ _ h => h)) (pa_cons pe_str (pa_cons pe_int pa_nil))))) pa_nil)))
      (pss_cons (ps_expr (pe_bm PySem.F.plainAttrs_list PySem.F.slot_list_append PySem.F.type_list_append mt_append (pv 2) (pa_cons (pe_lamN (k := 5) (t := fun E => _) (T := TL T) (TT := TTold K T.C_MarkError (sp_law_word T)) T.F_law_told (by rfl) T.g_law_told T.b_law_told sc_law_told rfl (.inl rfl) (told_okL T 5) TB.2.1 rfl (tl_m_law_refusals T) (tl_u_law_refusals T) (hr.mono (by decide)) (LamX.lamS_by (sc := defScope s_law_refusals) (by decide +kernel)) rfl (fun _ _ _ _ _ => rfl) (fun A outer s H E f c' hl => (pe_meth (pv 0) T.c_Desk T.q_Desk_tags (ok_Desk_tags T) (hl.mono (by decide)) T.b_Desk_tags .nil (L2N.passes_call (L2N.takes_of rfl rfl rfl rfl) (fun _ _ _ _ h => h)) (pa_cons pe_str pa_nil)))) pa_nil)))
      (pss_one (ps_ret (pe_cmpR (op_eqD hr.units) (pv 2) (pe_lst (pa_cons (pe_tup (pa_cons pe_str (pa_cons pe_str pa_nil))) (pa_cons (pe_tup (pa_cons pe_str (pa_cons pe_str pa_nil))) pa_nil))) (nomark _)))))))), ?_⟩
    have wdH : Wd T T.C_BadHeap "BadHeap" := .inl ⟨rfl, rfl⟩
    have wdN : Wd T T.C_BadName "BadName" := .inr (.inl ⟨rfl, rfl⟩)
    have wdS : Wd T T.C_BadSize "BadSize" := .inr (.inr (.inr (.inl ⟨rfl, rfl⟩)))
    have wdT : Wd T T.C_BadTag "BadTag" := .inr (.inr (.inr (.inr (.inr (.inl ⟨rfl, rfl⟩)))))
    have nZZ : nameS "zz" = true := by decide +kernel
    refine ⟨(by show 5 ≤ sizeLine; decide), fun lb nlb => ?_⟩
    have sB := same_upd (o := .lst [V.non, .str "", .str "A", .str "sevenab", .int 5]) nlb
    have hlb := upd_same (H := H) (a := lb) (o := .lst [V.non, .str "", .str "A", .str "sevenab", .int 5])
    generalize upd H lb (.lst [V.non, .str "", .str "A", .str "sevenab", .int 5]) = H1 at sB hlb ⊢
    have hd1 := hd0.same sB
    refine ⟨lb, rfl, ⟨_, sqL hlb⟩, for_enum (enum_list (xs := [V.non, .str "", .str "A", .str "sevenab", .int 5])) (fun _ σ H => ∃ x1 x2, σ = [some (.ref D.dk), x1, x2, none, none] ∧ LamX.ExtN H1 H ∧ LamX.Tabs (TL T) H) ⟨_, _, rfl, LamX.ExtN.of (Same.refl _), hT.ext sB⟩ (fun _ _ _ _ ⟨_, _, _, e, _⟩ => sqL (lst_ext e hlb)) ?_ ?_⟩
    · rintro j v σ H2 ev ⟨x1, x2, rfl, e2, T2⟩
      obtain ⟨dv, lv, nv⟩ : (∀ H, Dat H v) ∧ (∀ x, v = .str x → x.length ≤ 1000) ∧ isName v = false := by
        match j, ev with
        | 0, ev => rw [← Option.some.inj ev]; exact ⟨fun _ => trivial, (fun x e => nomatch e), rfl⟩
        | 1, ev => rw [← Option.some.inj ev]; exact ⟨fun _ => trivial, (fun x e => by injection e with e; rw [← e]; decide), by decide +kernel⟩
        | 2, ev => rw [← Option.some.inj ev]; exact ⟨fun _ => trivial, (fun x e => by injection e with e; rw [← e]; decide), by decide +kernel⟩
        | 3, ev => rw [← Option.some.inj ev]; exact ⟨fun _ => trivial, (fun x e => by injection e with e; rw [← e]; decide), by decide +kernel⟩
        | 4, ev => rw [← Option.some.inj ev]; exact ⟨fun _ => trivial, (fun x e => nomatch e), rfl⟩
      have hd2 := hd1.ext e2
      refine ⟨T2, fun H3 e3 T3 => ?_⟩
      have hd3 := hd2.ext e3
      refine ⟨_, rfl, D.dk, _, _, rfl, hd3.ins, rfl, _, rfl, D, M, tg, past, ahead, v, rfl, hd3, dv _, lv, .inr ⟨nv, fun H4 s4 => told_E T wdT fun H5 r s5 h5 => ⟨(by show 1 ≤ sizeLine; decide), fun l nl => ?_⟩⟩⟩
      have m := Sm.start ((e3.trans s4.ext).trans s5.ext) ((T3.ext s4).ext s5) h5 nl
      clear hd3 e3 T3 s4 s5 h5 nl
      refine ⟨_, rfl, .inl ⟨rfl, _, sqL m.lst⟩, m.tabs, fun H6 e6 T6 => ?_⟩
      have hd6 := hd2.ext (m.ext.trans e6)
      refine ⟨_, rfl, D.dk, _, _, rfl, hd6.ins, rfl, (by show 4 ≤ sizeLine; decide), fun t nt => ⟨_, rfl, ?_⟩⟩
      have sT := same_upd (o := .tup (boxV (0, 0, 1, 1))) nt
      refine ⟨D, M, tg, past, ahead, _, _, v, rfl, hd6.same sT, pdT (xs := boxV (0, 0, 1, 1)) upd_same (by decide) rfl, trivial, dv _, lv, .inr ⟨isBoxB_of (b := (0, 0, 1, 1)) upd_same ⟨by decide, by decide, by decide, by decide, by decide, by decide, by decide, by decide, by decide, by decide⟩, by decide, nv, fun H7 s7 => told_E T wdT fun H8 r2 s8 h8 => ?_⟩⟩
      obtain ⟨l7, z7, m2⟩ := m.app e6 T6 ((sT.trans s7).trans s8) h8 (by show 1 < 100; decide)
      refine ⟨l, _, _, rfl, rfl, l7, z7, ?_⟩
      replace m := m2
      clear m2 l7 z7 hd6 e6 T6 s7 s8 h8 sT nt
      refine ⟨_, rfl, (by show 2 ≤ sizeLine; decide), fun w nw => ⟨(by show 1 ≤ sizeLine; decide), fun l1 nl1 => ⟨l1, 2, _, rfl, rfl, upd_same, by decide, by decide, (by show 1 * 2 ≤ sizeLine; decide), fun p np => ?_⟩⟩⟩
      have sW := same_upd (o := .tup [V.str "refused", .str "BadTag"]) nw
      have sL1 := same_upd (o := .lst [V.ref w]) nl1
      have sP := same_upd (o := .lst (List.replicate (Int.toNat 2) [V.ref w]).flatten) np
      have m := m.same ((sW.trans sL1).trans sP)
      have hww := (sL1.trans sP) _ _ (upd_same (H := _) (a := w) (o := .tup [V.str "refused", .str "BadTag"]))
      have lw := lay_wordsL (ws := ["BadTag", "BadTag"]) (by decide +kernel)
      exact ⟨.list ((["BadTag", "BadTag"] : List Str).map wordD), .list ((["BadTag", "BadTag"] : List Str).map wordD), .lst (sqL m.lst) (words_dp m.wds), .lst (sqL upd_same) (rep_words hww 2), lw.shaped (by decide), lw.shaped (by decide), _, rfl, iteNB lw.eqv ⟨_, _, rfl, e2.trans m.ext, m.tabs⟩⟩
    rintro σ H2 ⟨x1, x2, rfl, e2, T2⟩
    have hd2 := hd1.ext e2
    have e02 := sB.ext.trans e2
    clear hd1 sB nlb hlb
    refine ⟨(by show 2 ≤ sizeLine; decide), fun t1 n_t1 => ?_⟩
    have s_t1 := same_upd (o := .tup [V.non, .non]) n_t1
    have q_t1 := upd_same (H := H2) (a := t1) (o := .tup [V.non, .non])
    generalize upd H2 t1 (.tup [V.non, .non]) = G0 at s_t1 q_t1 ⊢
    refine ⟨(by show 3 ≤ sizeLine; decide), fun u2 n_u2 => ?_⟩
    have s_u2 := same_upd (o := .tup [V.int 0, .int 0, .int 1]) n_u2
    have q_u2 := upd_same (H := G0) (a := u2) (o := .tup [V.int 0, .int 0, .int 1])
    generalize upd G0 u2 (.tup [V.int 0, .int 0, .int 1]) = G1 at s_u2 q_u2 ⊢
    refine ⟨(by show 2 ≤ sizeLine; decide), fun t2 n_t2 => ?_⟩
    have s_t2 := same_upd (o := .tup [V.ref u2, .int 0]) n_t2
    have q_t2 := upd_same (H := G1) (a := t2) (o := .tup [V.ref u2, .int 0])
    generalize upd G1 t2 (.tup [V.ref u2, .int 0]) = G2 at s_t2 q_t2 ⊢
    refine ⟨(by show 4 ≤ sizeLine; decide), fun u3 n_u3 => ?_⟩
    have s_u3 := same_upd (o := .tup [V.int 2, .int 0, .int 1, .int 1]) n_u3
    have q_u3 := upd_same (H := G2) (a := u3) (o := .tup [V.int 2, .int 0, .int 1, .int 1])
    generalize upd G2 u3 (.tup [V.int 2, .int 0, .int 1, .int 1]) = G3 at s_u3 q_u3 ⊢
    refine ⟨(by show 2 ≤ sizeLine; decide), fun t3 n_t3 => ?_⟩
    have s_t3 := same_upd (o := .tup [V.ref u3, .int 0]) n_t3
    have q_t3 := upd_same (H := G3) (a := t3) (o := .tup [V.ref u3, .int 0])
    generalize upd G3 t3 (.tup [V.ref u3, .int 0]) = G4 at s_t3 q_t3 ⊢
    refine ⟨(by show 4 ≤ sizeLine; decide), fun u4 n_u4 => ?_⟩
    have s_u4 := same_upd (o := .tup [V.int 0, .int 0, .int 1, .int 1]) n_u4
    have q_u4 := upd_same (H := G4) (a := u4) (o := .tup [V.int 0, .int 0, .int 1, .int 1])
    generalize upd G4 u4 (.tup [V.int 0, .int 0, .int 1, .int 1]) = G5 at s_u4 q_u4 ⊢
    refine ⟨(by show 2 ≤ sizeLine; decide), fun t4 n_t4 => ?_⟩
    have s_t4 := same_upd (o := .tup [V.ref u4, .int 14]) n_t4
    have q_t4 := upd_same (H := G5) (a := t4) (o := .tup [V.ref u4, .int 14])
    generalize upd G5 t4 (.tup [V.ref u4, .int 14]) = G6 at s_t4 q_t4 ⊢
    refine ⟨(by show 4 ≤ sizeLine; decide), fun u5 n_u5 => ?_⟩
    have s_u5 := same_upd (o := .tup [V.int 0, .int 0, .int 1, .int 1]) n_u5
    have q_u5 := upd_same (H := G6) (a := u5) (o := .tup [V.int 0, .int 0, .int 1, .int 1])
    generalize upd G6 u5 (.tup [V.int 0, .int 0, .int 1, .int 1]) = G7 at s_u5 q_u5 ⊢
    refine ⟨(by show 2 ≤ sizeLine; decide), fun t5 n_t5 => ?_⟩
    have s_t5 := same_upd (o := .tup [V.ref u5, .bl true]) n_t5
    have q_t5 := upd_same (H := G7) (a := t5) (o := .tup [V.ref u5, .bl true])
    generalize upd G7 t5 (.tup [V.ref u5, .bl true]) = G8 at s_t5 q_t5 ⊢
    refine ⟨(by show 5 ≤ sizeLine; decide), fun lc n_lc => ?_⟩
    have s_lc := same_upd (o := .lst [V.ref t1, .ref t2, .ref t3, .ref t4, .ref t5]) n_lc
    have q_lc := upd_same (H := G8) (a := lc) (o := .lst [V.ref t1, .ref t2, .ref t3, .ref t4, .ref t5])
    generalize upd G8 lc (.lst [V.ref t1, .ref t2, .ref t3, .ref t4, .ref t5]) = G9 at s_lc q_lc ⊢
    have z_t5 : Same G8 G9 := s_lc
    have z_u5 : Same G7 G9 := s_t5.trans z_t5
    have z_t4 : Same G6 G9 := s_u5.trans z_u5
    have z_u4 : Same G5 G9 := s_t4.trans z_t4
    have z_t3 : Same G4 G9 := s_u4.trans z_u4
    have z_u3 : Same G3 G9 := s_t3.trans z_t3
    have z_t2 : Same G2 G9 := s_u3.trans z_u3
    have z_u2 : Same G1 G9 := s_t2.trans z_t2
    have z_t1 : Same G0 G9 := s_u2.trans z_u2
    have g_t1 := z_t1 _ _ q_t1
    have g_u2 := z_u2 _ _ q_u2
    have g_t2 := z_t2 _ _ q_t2
    have g_u3 := z_u3 _ _ q_u3
    have g_t3 := z_t3 _ _ q_t3
    have g_u4 := z_u4 _ _ q_u4
    have g_t4 := z_t4 _ _ q_t4
    have g_u5 := z_u5 _ _ q_u5
    have g_t5 := z_t5 _ _ q_t5
    have sA := s_t1.trans z_t1
    have hd3 := hd2.same sA
    have T3 := T2.ext sA
    have hlc := q_lc
    have e03 := e02.trans sA.ext
    clear s_t1 n_t1 q_t1 s_u2 n_u2 q_u2 s_t2 n_t2 q_t2 s_u3 n_u3 q_u3 s_t3 n_t3 q_t3 s_u4 n_u4 q_u4 s_t4 n_t4 q_t4 s_u5 n_u5 q_u5 s_t5 n_t5 q_t5 s_lc n_lc q_lc z_t1 z_u2 z_t2 z_u3 z_t3 z_u4 z_t4 z_u5 z_t5 sA
    have bad : ∀ (j : Nat) (v : V), [V.ref t1, .ref t2, .ref t3, .ref t4, .ref t5][j]? = some v → ∃ t bv sv, v = .ref t ∧ G9 t = some (.tup [bv, sv]) ∧ PD G9 bv ∧ (∀ H, Dat H sv) ∧ (isBoxB G9 bv = false ∨ isCount 0 13 sv = false) := fun j v ev => by
      match j, ev with
      | 0, ev => rw [← Option.some.inj ev]; exact ⟨t1, _, _, rfl, g_t1, pdN, fun _ => trivial, .inl rfl⟩
      | 1, ev => rw [← Option.some.inj ev]; exact ⟨t2, _, _, rfl, g_t2, pdT g_u2 (by decide) rfl, fun _ => trivial, .inl (by rw [isBoxB_tup g_u2]; decide)⟩
      | 2, ev => rw [← Option.some.inj ev]; exact ⟨t3, _, _, rfl, g_t3, pdT g_u3 (by decide) rfl, fun _ => trivial, .inl (by rw [isBoxB_tup g_u3]; decide)⟩
      | 3, ev => rw [← Option.some.inj ev]; exact ⟨t4, _, _, rfl, g_t4, pdT g_u4 (by decide) rfl, fun _ => trivial, .inr (by decide)⟩
      | 4, ev => rw [← Option.some.inj ev]; exact ⟨t5, _, _, rfl, g_t5, pdT g_u5 (by decide) rfl, fun _ => trivial, .inr rfl⟩
    clear g_t1 g_u2 g_t2 g_u3 g_t3 g_u4 g_t4 g_u5 g_t5 hd2 T2 e2 e02
    refine ⟨lc, rfl, ⟨_, sqL hlc⟩, for_enum (enum_list (xs := [V.ref t1, .ref t2, .ref t3, .ref t4, .ref t5])) (fun _ σ H => ∃ x3 x4, σ = [some (.ref D.dk), x1, x2, x3, x4] ∧ LamX.ExtN G9 H ∧ LamX.Tabs (TL T) H) ⟨_, _, rfl, LamX.ExtN.of (Same.refl _), T3⟩ (fun _ _ _ _ ⟨_, _, _, e, _⟩ => sqL (lst_ext e hlc)) ?_ ?_⟩
    · rintro j v σ H4 ev ⟨x3, x4, rfl, e4, T4⟩
      obtain ⟨t, bv, sv, rfl, ht, pb, ds, nb⟩ := bad j v ev
      refine ⟨t, _, rfl, sqT (ext_keepT e4 _ _ ht), rfl, _, _, rfl, _, [], rfl, rfl, ?_⟩
      refine ⟨T4, fun H5 e5 T5 => ?_⟩
      have e45 := e4.trans e5
      have hd5 := hd3.ext e45
      refine ⟨_, rfl, D.dk, _, _, rfl, hd5.ins, rfl, _, rfl, _, rfl, D, M, tg, past, ahead, bv, sv, .non, rfl, hd5, pb.ext e45, ds _, trivial, (fun x e => nomatch e), .inl ⟨?_, fun H6 s6 => told_E T wdS fun H7 r s7 h7 => ?_⟩⟩
      · rw [isBoxB_ext pb e45]; exact nb
      refine ⟨(by show 2 ≤ sizeLine; decide), fun w nw => ?_⟩
      have sW := same_upd (o := .tup [V.str "refused", .str "BadSize"]) nw
      have lw := lay_word (nm := "BadSize") (by decide +kernel)
      have sA := (s6.trans s7).trans sW
      exact ⟨wordD "BadSize", wordD "BadSize", dp_word (sW _ _ h7), dp_word upd_same, lw.shaped (by decide), lw.shaped (by decide), _, rfl, iteNB lw.eqv ⟨_, _, rfl, e45.trans sA.ext, T5.ext sA⟩⟩
    rintro σ H4 ⟨x3, x4, rfl, e4, T4⟩
    have hd4 := hd3.ext e4
    clear bad hd3 T3 hlc
    refine ⟨T4, fun H5 e5 T5 => ?_⟩
    have hd5 := hd4.ext e5
    refine ⟨_, rfl, D.dk, _, _, rfl, hd5.ins, rfl, D, M, tg, past, ahead, "zz", 3, rfl, hd5, by decide, nZZ, hZZ, fun H6 s6 => told_E T wdH fun H7 r s7 h7 => ⟨(by show 1 ≤ sizeLine; decide), fun l nl => ?_⟩⟩
    have m := Sm.start ((e5.trans s6.ext).trans s7.ext) ((T5.ext s6).ext s7) h7 nl
    clear hd5 e5 T5 s6 s7 h7 nl
    refine ⟨_, rfl, .inl ⟨rfl, _, sqL m.lst⟩, m.tabs, fun H5 e5 T5 => ?_⟩
    have hd5 := hd4.ext (m.ext.trans e5)
    refine ⟨_, rfl, D.dk, _, _, rfl, hd5.ins, rfl, D, M, tg, past, ahead, .str "zz", rfl, hd5, tgn, trivial, nmLen nZZ, .inr ⟨fun n e => by injection e with e; rw [← e]; exact hZZ, fun H6 s6 => told_E T wdN fun H7 r2 s7 h7 => ?_⟩⟩
    obtain ⟨l7, z7, m2⟩ := m.app e5 T5 (s6.trans s7) h7 (by show 1 < 100; decide)
    refine ⟨l, _, _, rfl, rfl, l7, z7, ?_⟩
    replace m := m2
    clear m2 l7 z7 hd5 e5 T5 s6 s7 h7
    refine ⟨_, rfl, (by show 2 ≤ sizeLine; decide), fun w1 nw1 => ⟨(by show 2 ≤ sizeLine; decide), fun w2 nw2 => ⟨(by show 2 ≤ sizeLine; decide), fun l1 nl1 => ?_⟩⟩⟩
    have sW1 := same_upd (o := .tup [V.str "refused", .str "BadHeap"]) nw1
    have sW2 := same_upd (o := .tup [V.str "refused", .str "BadName"]) nw2
    have sL := same_upd (o := .lst [V.ref w1, .ref w2]) nl1
    have sA := (sW1.trans sW2).trans sL
    have m := m.same sA
    have hw1 := (sW2.trans sL) _ _ (upd_same (H := _) (a := w1) (o := .tup [V.str "refused", .str "BadHeap"]))
    have hw2 := sL _ _ (upd_same (H := _) (a := w2) (o := .tup [V.str "refused", .str "BadName"]))
    have lw := lay_wordsL (ws := ["BadHeap", "BadName"]) (by decide +kernel)
    refine ⟨.list ((["BadHeap", "BadName"] : List Str).map wordD), .list ((["BadHeap", "BadName"] : List Str).map wordD), .lst (sqL m.lst) (words_dp m.wds), .lst (sqL upd_same) (.cons (dp_word hw1) (.cons (dp_word hw2) .nil)), lw.shaped (by decide), lw.shaped (by decide), ?_⟩
    rw [lw.eqv]
    exact q _ ((e03.trans e4).trans m.ext) m.tabs

def sp_law (T : Tx K mg) : Sp := fun vs H Q _ => ∃ (a : Addr) (ns : List Int), vs = [.ref a] ∧ SqL K H a (ns.map V.int) ∧ ns.length ≤ 63 ∧ LamX.Tabs (TL T) H ∧ ∀ H', Q (.bl true) H'
theorem few2 (n : Nat) : 1 ≤ (if (if (n : Int) < 2 then (n : Int) else 2) > 1 then (if (n : Int) < 2 then (n : Int) else 2) else 1) ∧ (if (if (n : Int) < 2 then (n : Int) else 2) > 1 then (if (n : Int) < 2 then (n : Int) else 2) else 1) ≤ 2 := by
  split <;> split <;> omega
theorem sortP_nil : sortP [] = [] := List.length_eq_zero_iff.mp (by rw [sortP_len]; rfl)
theorem ok_law (T : Tx K mg) (TB : TBs T base) : FnOk P w K mg base CX0 13 T.f_law T.d_law ["script"] (sp_law T) := by
  refine T.D_law.ok sc_law (fun vs H Q E h => ?_) (fun A outer s H vs Q E hr h => ?_)
  · obtain ⟨a, ns, rfl, _⟩ := h
    rfl
  · obtain ⟨a, ns, rfl, hS, hl, hT, q⟩ := h
    refine ⟨_, (pss_cons (ps_for PassesOwn.never (by rfl) (pi_range1 (by rfl) T.n_range (pa_cons (pe_callB (call_max2 rfl) (by rfl) T.n_max (by decide +kernel) (pa_cons pe_int (pa_cons (pe_callB (call_min2 rfl) (by rfl) T.n_min (by decide +kernel) (pa_cons pe_int (pa_cons (pe_callB call_len_seq (by rfl) T.n_len (by decide +kernel) (pa_cons (pv 0) pa_nil)) pa_nil))) pa_nil))) pa_nil)) (pg_name (i := 1) sc_law.nd rfl (Or.inl rfl))
      (pss_cons (ps_set (i := 2) sc_law.nd rfl (Or.inl rfl) (pe_call (ok_law_drawn T) (hr.mono (by decide)) (by rfl) T.g_law_drawn T.F_law_drawn.kp T.b_law_drawn .nil pass0 (pa_cons (pe_call (ok_law_cell T) (hr.mono (by decide)) (by rfl) T.g_law_cell T.F_law_cell.kp T.b_law_cell .nil pass0 (pa_cons (pv 0) (pa_cons (pv 1) pa_nil))) (pa_cons (pv 1) pa_nil))))
      (pss_cons (ps_set (i := 3) sc_law.nd rfl (Or.inr rfl) (pe_make0 T.m_Desk (ok_Desk___init__ T) (hr.mono (by decide)) (by rfl) T.g_Desk T.b_Desk___init__ .nil pass0))
      (pss_cons (ps_set (i := 4) sc_law.nd rfl (Or.inl rfl) (pe_lst (pa_cons (pe_lst pa_nil) pa_nil)))
      (pss_cons (ps_for PassesOwn.never (by rfl) (pi_range1 (by rfl) T.n_range (pa_cons (pe_op op_mod (pe_op op_fdiv (pv 2) pe_int) pe_int) pa_nil)) (pg_name (i := 5) sc_law.nd rfl (Or.inl rfl))
      (pss_one (ps_if (pt_cmpR op_isN (pe_call (ok_law_any T TB) (hr.mono (by decide)) (by rfl) T.g_law_any T.F_law_any.kp T.b_law_any .nil pass0 (pa_cons (pv 3) (pa_cons (pe_call (ok_law_drawn T) (hr.mono (by decide)) (by rfl) T.g_law_drawn T.F_law_drawn.kp T.b_law_drawn .nil pass0 (pa_cons (pv 2) (pa_cons (pe_op op_add pe_int (pv 5)) pa_nil))) pa_nil))) pe_non (nomark _)) (pss_one (ps_expr (pe_bm PySem.F.plainAttrs_list PySem.F.slot_list_append PySem.F.type_list_append mt_append (pv 4) (pa_cons (pe_call (ok_law_stand T) (hr.mono (by decide)) (by rfl) T.g_law_stand T.F_law_stand.kp T.b_law_stand .nil pass0 (pa_cons (pv 3) pa_nil)) pa_nil)))) pss_nil)))
      (C8.pss_cut (ps_if (pt_cmpR (op_neD hr.units) (pe_ix ix_list (pv 4) (pe_un un_neg pe_int) (fun _ _ => rfl)) (pe_lst pa_nil) (nomark _)) (pss_cons (ps_asg (pe_ix ix_list (pe_ix ix_list (pv 4) (pe_un un_neg pe_int) (fun _ _ => rfl)) pe_int (fun _ _ => rfl)) (pg_tup (by rfl) (pgs_cons (pg_name (i := 6) sc_law.nd rfl (Or.inl rfl)) (pgs_cons (pg_name (i := 7) sc_law.nd rfl (Or.inl rfl)) (pgs_cons (pg_name (i := 8) sc_law.nd rfl (Or.inl rfl)) pgs_nil)))))
      (pss_cons (ps_expr (pe_meth (pv 3) T.c_Desk T.q_Desk_move (ok_Desk_move T) (hr.mono (by decide)) T.b_Desk_move .nil passN0 (pa_cons (pv 6) (pa_cons (pv 7) pa_nil))))
      (pss_one (ps_expr (pe_bm PySem.F.plainAttrs_list PySem.F.slot_list_append PySem.F.type_list_append mt_append (pv 4) (pa_cons (pe_call (ok_law_stand T) (hr.mono (by decide)) (by rfl) T.g_law_stand T.F_law_stand.kp T.b_law_stand .nil pass0 (pa_cons (pv 3) pa_nil)) pa_nil)))))) pss_nil)
      (C8.pss_cut (ps_for PassesOwn.never (by rfl) (pi_list (pe_rev (pe_slice sl_list (pv 4) po_none (po_some (pe_un un_neg pe_int))) (pe_un un_neg pe_int))) (pg_name (i := 9) sc_law.nd rfl (Or.inl rfl))
      (pss_one (ps_if (PW.pt (pw_or (pt_cmpR op_notN (pe_lamN (k := 10) (t := fun E => _) (T := TL T) (TT := TTold K T.C_MarkError (sp_law_word T)) T.F_law_told (by rfl) T.g_law_told T.b_law_told sc_law_told rfl (.inl rfl) (told_okL T 10) TB.2.2 rfl (tl_m_law T) (tl_u_law T) (hr.mono (by decide)) (LamX.lamS_by (sc := defScope s_law) (by decide +kernel)) rfl (fun _ _ _ _ _ => rfl) (fun A outer s H E f c' hl => (pe_meth0 (pv 3) T.c_Desk T.q_Desk_undo (ok_Desk_undo T) (hl.mono (by decide)) T.b_Desk_undo .nil (L2N.passes_call (L2N.takes_of rfl rfl rfl rfl) (fun _ _ _ _ h => h)) ))) pe_non (nomark _)) (pw_or1 (pt_cmpR (op_neD hr.units) (pe_call (ok_law_stand T) (hr.mono (by decide)) (by rfl) T.g_law_stand T.F_law_stand.kp T.b_law_stand .nil pass0 (pa_cons (pv 3) pa_nil)) (pv 9) (nomark _))))) (pss_one (ps_ret pe_bl)) pss_nil)))
      (pss_cons (ps_if (PW.pt (pw_or (pt_cmpR (op_neD hr.units) (pe_lamN (k := 10) (t := fun E => _) (T := TL T) (TT := TTold K T.C_MarkError (sp_law_word T)) T.F_law_told (by rfl) T.g_law_told T.b_law_told sc_law_told rfl (.inl rfl) (told_okL T 10) TB.2.2 rfl (tl_m_law T) (tl_u_law T) (hr.mono (by decide)) (LamX.lamS_by (sc := defScope s_law) (by decide +kernel)) rfl (fun _ _ _ _ _ => rfl) (fun A outer s H E f c' hl => (pe_meth0 (pv 3) T.c_Desk T.q_Desk_undo (ok_Desk_undo T) (hl.mono (by decide)) T.b_Desk_undo .nil (L2N.passes_call (L2N.takes_of rfl rfl rfl rfl) (fun _ _ _ _ h => h)) ))) (pe_tup (pa_cons pe_str (pa_cons pe_str pa_nil))) (nomark _)) (pw_or1 (pt_not (pt_val (pe_call (ok_law_refusals T TB) (hr.mono (by decide)) (by rfl) T.g_law_refusals T.F_law_refusals.kp T.b_law_refusals .nil pass0 (pa_cons (pv 3) pa_nil))))))) (pss_one (ps_ret pe_bl)) pss_nil)
      (C8.pss_cut (ps_for PassesOwn.never (by rfl) (pi_list (pe_slice sl_list (pv 4) (po_some pe_int) po_none)) (pg_name (i := 9) sc_law.nd rfl (Or.inl rfl))
      (pss_one (ps_if (PW.pt (pw_or (pt_cmpR op_notN (pe_lamN (k := 10) (t := fun E => _) (T := TL T) (TT := TTold K T.C_MarkError (sp_law_word T)) T.F_law_told (by rfl) T.g_law_told T.b_law_told sc_law_told rfl (.inl rfl) (told_okL T 10) TB.2.2 rfl (tl_m_law T) (tl_u_law T) (hr.mono (by decide)) (LamX.lamS_by (sc := defScope s_law) (by decide +kernel)) rfl (fun _ _ _ _ _ => rfl) (fun A outer s H E f c' hl => (pe_meth0 (pv 3) T.c_Desk T.q_Desk_redo (ok_Desk_redo T) (hl.mono (by decide)) T.b_Desk_redo .nil (L2N.passes_call (L2N.takes_of rfl rfl rfl rfl) (fun _ _ _ _ h => h)) ))) pe_non (nomark _)) (pw_or1 (pt_cmpR (op_neD hr.units) (pe_call (ok_law_stand T) (hr.mono (by decide)) (by rfl) T.g_law_stand T.F_law_stand.kp T.b_law_stand .nil pass0 (pa_cons (pv 3) pa_nil)) (pv 9) (nomark _))))) (pss_one (ps_ret pe_bl)) pss_nil)))
      (pss_cons (ps_if (pt_cmpR (op_neD hr.units) (pe_lamN (k := 10) (t := fun E => _) (T := TL T) (TT := TTold K T.C_MarkError (sp_law_word T)) T.F_law_told (by rfl) T.g_law_told T.b_law_told sc_law_told rfl (.inl rfl) (told_okL T 10) TB.2.2 rfl (tl_m_law T) (tl_u_law T) (hr.mono (by decide)) (LamX.lamS_by (sc := defScope s_law) (by decide +kernel)) rfl (fun _ _ _ _ _ => rfl) (fun A outer s H E f c' hl => (pe_meth0 (pv 3) T.c_Desk T.q_Desk_redo (ok_Desk_redo T) (hl.mono (by decide)) T.b_Desk_redo .nil (L2N.passes_call (L2N.takes_of rfl rfl rfl rfl) (fun _ _ _ _ h => h)) ))) (pe_tup (pa_cons pe_str (pa_cons pe_str pa_nil))) (nomark _)) (pss_one (ps_ret pe_bl)) pss_nil)
      (C8.pss_cut (ps_for PassesOwn.never (by rfl) (pi_list (pe_slice sl_list (pe_rev (pe_slice sl_list (pv 4) po_none (po_some (pe_un un_neg pe_int))) (pe_un un_neg pe_int)) po_none (po_some (pe_op op_mod (pe_op op_fdiv (pv 2) (pe_op op_pow pe_int pe_int)) pe_int)))) (pg_name (i := 9) sc_law.nd rfl (Or.inl rfl))
      (pss_one (ps_expr (pe_meth0 (pv 3) T.c_Desk T.q_Desk_undo (ok_Desk_undo T) (hr.mono (by decide)) T.b_Desk_undo .nil passN0 ))))
      (pss_cons (ps_expr (pe_meth (pv 3) T.c_Desk T.q_Desk_put (ok_Desk_put T) (hr.mono (by decide)) T.b_Desk_put .nil passN0 (pa_cons pe_str (pa_cons (pe_tup (pa_cons (pe_op op_mod (pv 2) pe_int) (pa_cons pe_int pa_nil))) pa_nil))))
      (pss_cons (ps_if (PW.pt (pw_or (pt_cmpR (op_neD hr.units) (pe_lamN (k := 10) (t := fun E => _) (T := TL T) (TT := TTold K T.C_MarkError (sp_law_word T)) T.F_law_told (by rfl) T.g_law_told T.b_law_told sc_law_told rfl (.inl rfl) (told_okL T 10) TB.2.2 rfl (tl_m_law T) (tl_u_law T) (hr.mono (by decide)) (LamX.lamS_by (sc := defScope s_law) (by decide +kernel)) rfl (fun _ _ _ _ _ => rfl) (fun A outer s H E f c' hl => (pe_meth0 (pv 3) T.c_Desk T.q_Desk_redo (ok_Desk_redo T) (hl.mono (by decide)) T.b_Desk_redo .nil (L2N.passes_call (L2N.takes_of rfl rfl rfl rfl) (fun _ _ _ _ h => h)) ))) (pe_tup (pa_cons pe_str (pa_cons pe_str pa_nil))) (nomark _)) (pw_or1 (pt_cmpR op_notN (pe_meth0 (pv 3) T.c_Desk T.q_Desk_undo (ok_Desk_undo T) (hr.mono (by decide)) T.b_Desk_undo .nil passN0 ) pe_non (nomark _))))) (pss_one (ps_ret pe_bl)) pss_nil)
      (pss_one (ps_if (PW.pt (pw_or (pt_cmpR op_in_seq pe_str (pe_lc (own := [("row", 10)]) (g := gName 10) (tt := tYes) (by rfl) sc_law.nd (pi_list (pe_call (ok_law_stand T) (hr.mono (by decide)) (by rfl) T.g_law_stand T.F_law_stand.kp T.b_law_stand .nil pass0 (pa_cons (pv 3) pa_nil))) (blkOk_by (own := [("row", 10)]) (N := ["script", "k", "more", "desk", "stands", "j", "name", "point", "tags", "stand", "row"]) (sc := defScope s_law) (by decide +kernel)) (fun _ _ _ _ _ => (pg_name (i := 10) sc_law.nd rfl (Or.inl rfl))) (fun _ _ _ _ _ => pts_nil) (fun _ _ _ _ _ => (pe_ix (ix_tupK (K := K) rfl) (pv 10) pe_int (fun _ _ => rfl)))) (by rfl)) (pw_or1 (pt_cmpR op_notN (pe_meth0 (pv 3) T.c_Desk T.q_Desk_redo (ok_Desk_redo T) (hr.mono (by decide)) T.b_Desk_redo .nil passN0 ) pe_non (nomark _))))) (pss_one (ps_ret pe_bl)) pss_nil)))))))))))))))
      (pss_one (ps_ret pe_bl))), ?_⟩
    have f5 := few2 (ns.map V.int).length
    have wdO : Wd T T.C_Nothing "Nothing" := .inr (.inr (.inr (.inr (.inr (.inr ⟨rfl, rfl⟩)))))
    refine ⟨_, rfl, a, _, rfl, .inl hS, _, _, rfl, _, _, rfl, _, rfl, by omega, by omega, for_enum enum_range (fun i σ H => ∃ x1 x2 x3 x4 x5 x6 x7 x8 x9 x10, σ = [some (.ref a), x1, x2, x3, x4, x5, x6, x7, x8, x9, x10] ∧ SqL K H a (ns.map V.int) ∧ LamX.Tabs (TL T) H) ⟨none, none, none, none, none, none, none, none, none, none, rfl, hS, hT⟩ (fun _ _ _ _ _ => trivial) ?_ ?_⟩
    rotate_left
    · rintro σ H' ⟨x1, x2, x3, x4, x5, x6, x7, x8, x9, x10, rfl, hS, hT⟩
      exact q H'
    rintro i x σ H0 hx ⟨x1, x2, x3, x4, x5, x6, x7, x8, x9, x10, rfl, hS, hT⟩
    obtain ⟨hi, rfl⟩ := range0_some hx
    refine ⟨_, rfl, _, rfl, a, ns, _, rfl, hS, hl, by omega, by omega, fun c H1 s1 => ⟨_, rfl, _, _, rfl, by omega, by omega, fun more m0 m1 => ?_⟩⟩
    replace hS := s1.seq hS
    replace hT := hT.ext s1
    clear s1
    -- desk = Desk()
    intro m dx nm ndx nex
    have sm : Same H1 (upd (upd H1 dx (.own m)) m (.ins T.C_Desk dx [])) := (same_upd ndx).trans (same_upd (by rw [upd_ne nex.symm]; exact nm))
    refine ⟨m, dx, rfl, upd_same, fun D H2 e1 e2 sx fr hd => ⟨rfl, ?_⟩⟩
    have s2 : Same H1 H2 := fun b o e => sx b o (ne_of_none e nm) (sm b o e)
    have fresh : ∀ b ∈ D.own, H1 b = none := fun b hb => by
      by_cases z : b = m
      · rw [z]; exact nm
      · exact sm.free (fr b hb z)
    have sc : Scr K H1 D a (ns.map V.int) := Scr.of hS (fun o e z => by rw [fresh a z] at e; cases e)
    replace hT := hT.ext s2
    replace sc := sc.ext s2.ext
    clear sx fr sm nm ndx nex s2 fresh hS
    -- stands = [[]]
    refine ⟨Nat.zero_le _, fun l0 nl0 => ⟨(by show 1 ≤ sizeLine; decide), fun sl nsl => ?_⟩⟩
    have s3 := (same_upd (o := .lst []) nl0).trans (same_upd (o := .lst [V.ref l0]) nsl)
    have hl0 := (same_upd (o := .lst [V.ref l0]) nsl) _ _ (upd_same (H := H2) (a := l0) (o := .lst []))
    have hsl := upd_same (H := upd H2 l0 (.lst [])) (a := sl) (o := .lst [V.ref l0])
    have nsl0 : sl ≠ l0 := fun e => by rw [e, upd_same] at nsl; cases nsl
    have nslo : sl ∉ D.own := hd.notin (none_of_upd nsl)
    have nl0o : l0 ∉ D.own := hd.notin nl0
    generalize upd (upd H2 l0 (.lst [])) sl (.lst [V.ref l0]) = H3 at s3 hl0 hsl ⊢
    have ss : Ss H3 D [([], [])] sl [(l0, [l0])] := ⟨hsl, .cons ⟨[], hl0, .nil, rfl⟩ .nil, (fun p hp b hb => by rw [List.mem_singleton.mp hp] at hb; rw [List.mem_singleton.mp hb]; exact nl0o), nslo, fun p hp => by rw [List.mem_singleton.mp hp]; exact fun z => nsl0 (List.mem_singleton.mp z)⟩
    have ds : DeskS T.C_Desk T.C_Map H3 D [([], [])] 0 := ⟨[], [], hd.same s3, by rw [sortP_nil]; rfl, .nil⟩
    have so : Story [(([] : PM), ([] : Tg))] := ⟨fun st h => by rw [List.mem_singleton.mp h]; exact ⟨MapG.ok hd.map, .nil, fun p hp => nomatch hp⟩, fun st h => by rw [List.mem_singleton.mp h]; exact sortP_nil⟩
    have lw0 : Lw K (TL T) T.C_Desk T.C_Map a m sl ns H3 D [([], [])] 0 [(l0, [l0])] 0 := ⟨e1, sc.ext s3.ext, hT.ext s3, ds, so, ss, (fun st h => by rw [List.mem_singleton.mp h]; exact ⟨Nat.le_refl _, fun n hn => nomatch hn⟩), rfl⟩
    clear ss ds so hl0 hsl nsl0 nslo nl0o s3 nsl nl0 hT sc hd e1 e2
    -- up to eighteen deeds
    refine ⟨_, rfl, _, _, rfl, rfl, ⟨by decide, by decide⟩, _, _, rfl, rfl, (by show (0 : Int) < 19; decide), _, rfl, by omega, by omega, for_enum enum_range (fun j σ H => ∃ D S k ps x5, σ = [some (.ref a), some (.int (i : Int)), some (.int more), some (.ref m), some (.ref sl), x5, x6, x7, x8, x9, x10] ∧ Lw K (TL T) T.C_Desk T.C_Map a m sl ns H D S k ps j ∧ S.length = k + 1 ∧ k ≤ j) ⟨D, _, _, _, _, rfl, lw0, rfl, Nat.le_refl _⟩ (fun _ _ _ _ _ => trivial) ?_ ?_⟩
    · clear lw0 D
      rintro j x σ H4 hx ⟨D, S, k, ps, x5, rfl, lw, hk, hkj⟩
      obtain ⟨hj, rfl⟩ := range0_some hx
      have hj : j < 19 := by omega
      obtain ⟨M, tg, hd, e1, pm, lM, nM⟩ := lw.at
      refine ⟨_, rfl, _, rfl, _, rfl, _, _, rfl, rfl, _, _, rfl, by omega, by omega, fun here h0 h1 => ?_⟩
      refine ⟨D, M, tg, _, _, here, (by rw [lw.dk]; rfl), hd, pm, lw.tb, (by rw [List.length_take]; omega), by omega, ?_, ?_⟩
      · intro D' H5 M' tg' dx T5 hd5 pm5 len5 nm5
        refine ⟨rfl, _, rfl, iteT' (by simp) ?_⟩
        refine ⟨_, rfl, .inl ⟨rfl, _, sqL (lw.ss.x dx).st⟩, _, rfl, D', M', tg', _, _, (by rw [dx.dk, lw.dk]; rfl), hd5, pm5, fun l fp H6 s6 hstd nfp => ?_⟩
        obtain ⟨f1, f2, lw7⟩ := lw.note (N' := j + 1) hk e1 dx T5 hd5 pm5 (by omega) nm5 (Nat.le_succ _) s6 hstd nfp
        exact ⟨sl, _, _, rfl, rfl, f1, (by rw [f2]; exact small1000 (by omega)), D', _, _, _, _, rfl, lw7, (by rw [List.length_append, hk]; rfl), by omega⟩
      · intro H5 r nm e5 T5 h5
        exact ⟨rfl, _, rfl, iteF' (by simp) ⟨D, S, k, ps, _, rfl, (lw.ext e5 T5).mono (Nat.le_succ _), hk, by omega⟩⟩
    clear lw0 D
    rintro σ H4 ⟨D, S, k, ps, x5, rfl, lw, hk, hkj⟩
    rw [rangeV_len] at lw hkj
    have hk18 : k ≤ 18 := by omega
    replace lw := lw.mono (N' := 18) (by omega)
    clear hkj
    -- a move to where it was
    refine ⟨fun σ H => ∃ D S k ps x6 x7 x8, σ = [some (.ref a), some (.int (i : Int)), some (.int more), some (.ref m), some (.ref sl), x5, x6, x7, x8, x9, x10] ∧ Lw K (TL T) T.C_Desk T.C_Map a m sl ns H D S k ps 18 ∧ S.length = k + 1 ∧ k ≤ 19, ?_, ?_⟩
    · obtain ⟨M, tg, hd, e1, pm, lM, nM⟩ := lw.at
      have sd := lw.ss.sd
      rw [last_at hk e1] at sd
      obtain ⟨ps0, p, eps, pr0, hp⟩ := paired_last sd
      have est : (ps.map fun p => V.ref p.1) = (ps0.map fun p => V.ref p.1) ++ [V.ref p.1] := by rw [eps, List.map_append]; rfl
      have hst := lw.ss.st
      rw [est] at hst
      have sok := lw.so.ok _ (List.mem_of_getElem? e1)
      refine ⟨_, rfl, _, rfl, sl, _, _, .ref p.1, rfl, rfl, sqL hst, L2.atI_last _ _, Nat.zero_le _, fun e0 ne0 => ?_⟩
      have sE := same_upd (o := .lst []) ne0
      have hE := upd_same (H := H4) (a := e0) (o := .lst [])
      generalize upd H4 e0 (.lst []) = H5 at sE hE ⊢
      have hp5 : StdAt H5 p.1 (sortP M, tg) p.2 := StdAt.same hp sE
      have eE : PyData.eqv (stD (sortP M, tg)) (.list []) = ((NM.namesOf (sortP M)).map (stRowD (sortP M, tg))).isEmpty := eqv_nil
      refine ⟨stD (sortP M, tg), .list [], hp5.dp, .lst (sqL hE) .nil, (lay_std sok).shaped (by decide), (lay_list (n := 0) lay_nil).shaped (by decide), _, rfl, ?_⟩
      rw [eE]
      cases eN : NM.namesOf (sortP M) with
      | nil => exact iteF' rfl ⟨D, S, k, ps, _, _, _, rfl, lw.same sE, hk, by omega⟩
      | cons n rest =>
        refine iteT' rfl ?_
        obtain ⟨qs, h1, h2, h3⟩ := hp5
        clear h3
        rw [show NM.namesOf (sortP M, tg).1 = n :: rest from eN] at h2
        cases h2 with
        | cons r rs =>
          rename_i q qs
          obtain ⟨v, ht, hv, htl⟩ := r
          have hnP : n ∈ NM.namesOf (sortP M) := by rw [eN]; exact List.mem_cons_self ..
          have hn : n ∈ NM.namesOf M := sortP_mem.mp hnP
          refine ⟨_, rfl, _, rfl, sl, _, _, .ref p.1, rfl, rfl, sqL (sE _ _ hst), L2.atI_last _ _, p.1, _, _, .ref q.1, rfl, rfl, sqL h1, atI_nat (j := 0) rfl, ?_⟩
          refine ⟨q.1, _, rfl, sqT ht, rfl, _, _, rfl, _, _, rfl, _, [], rfl, rfl, ?_⟩
          have hd5 := hd.same sE
          have po : PtOk (ptOf (sortP M) n) := sok.ok.pt hnP
          have emd : some (some (V.ref m)) = some (some (V.ref D.dk)) := by rw [lw.dk]
          refine ⟨_, emd, D.dk, _, _, rfl, hd5.ins, rfl, _, rfl, _, rfl, D, M, tg, _, _, _, v, rfl, hd5, (by rw [List.length_take]; omega), trivial, nmLen (sok.ok.name hnP), hv.pd, .inl ⟨n, _, rfl, hn, hv, po, fun D' H6 to6 _ hd6 => ?_⟩⟩
          have pmn : (NM.namesOf M).Perm (NM.namesOf (dropP M n ++ [(n, ptOf (sortP M) n)])) := by
            have := names_perm (filter_ne_perm (MapG.ok hd.map).nodup hn)
            rw [names_app] at this ⊢
            exact this
          have hlen := pmn.length_eq
          unfold NM.namesOf at hlen
          rw [List.length_map, List.length_map] at hlen
          have dx := (DeskX.ext sE.ext).trans (DeskX.of_to to6)
          have T6 := hd5.tabs (lw.tb.ext sE) to6.keep
          refine ⟨_, rfl, .inl ⟨rfl, _, sqL (lw.ss.x dx).st⟩, _, rfl, D', _, tg, _, _, (by rw [dx.dk, lw.dk]; rfl), hd6, pm.trans pmn, fun l fp H7 s7 hstd nfp => ?_⟩
          obtain ⟨f1, f2, lw7⟩ := lw.note (N' := 18) hk e1 dx T6 hd6 (pm.trans pmn) (by rw [← hlen]; exact lM) (fun z hz => .inl (pmn.mem_iff.mpr hz)) (Nat.le_refl _) s7 hstd nfp
          exact ⟨sl, _, _, rfl, rfl, f1, (by rw [f2]; exact small1000 (by omega)), D', _, _, _, _, _, _, rfl, lw7, (by rw [List.length_append, hk]; rfl), by omega⟩
    clear lw hk hk18 D S k ps
    rintro σ H5 ⟨D, S, k, ps, x6, x7, x8, rfl, lw, hk, hk19⟩
    have lps : (ps.map fun p => V.ref p.1).length = k + 1 := by rw [List.length_map, lw.ss.len, hk]
    -- all undone
    refine ⟨fun σ H => ∃ D x9, σ = [some (.ref a), some (.int (i : Int)), some (.int more), some (.ref m), some (.ref sl), x5, x6, x7, x8, x9, x10] ∧ Lw K (TL T) T.C_Desk T.C_Map a m sl ns H D S 0 ps 18, ?_, ?_⟩
    · refine ⟨_, rfl, _, rfl, _, rfl, sl, _, rfl, sqL lw.ss.st, fun c1 nc1 => ?_⟩
      rw [cutV_init]
      have s6 := same_upd (o := .lst (ps.map fun p => V.ref p.1).dropLast) nc1
      have h6 := upd_same (H := H5) (a := c1) (o := .lst (ps.map fun p => V.ref p.1).dropLast)
      generalize upd H5 c1 (.lst (ps.map fun p => V.ref p.1).dropLast) = H6 at s6 h6 ⊢
      refine ⟨_, rfl, rfl, c1, _, rfl, sqL h6, fun c2 nc2 => ?_⟩
      have s7 := same_upd (o := .lst (ps.map fun p => V.ref p.1).dropLast.reverse) nc2
      have h7 := upd_same (H := H6) (a := c2) (o := .lst (ps.map fun p => V.ref p.1).dropLast.reverse)
      have lw6 := lw.same s6
      have own2 : c2 ∉ D.own := by
        obtain ⟨M, tg, hd, _⟩ := lw6.at
        exact hd.notin nc2
      generalize upd H6 c2 (.lst (ps.map fun p => V.ref p.1).dropLast.reverse) = H7 at s7 h7 ⊢
      have lw7 := lw6.same s7
      refine ⟨c2, rfl, ⟨_, sqL h7⟩, for_enum (enum_list (xs := (ps.map fun p => V.ref p.1).dropLast.reverse)) (fun i' σ H => ∃ D x9, σ = [some (.ref a), some (.int (i : Int)), some (.int more), some (.ref m), some (.ref sl), x5, x6, x7, x8, x9, x10] ∧ Lw K (TL T) T.C_Desk T.C_Map a m sl ns H D S (k - i') ps 18 ∧ H c2 = some (.lst (ps.map fun p => V.ref p.1).dropLast.reverse) ∧ c2 ∉ D.own) ⟨D, _, rfl, lw7, h7, own2⟩ ?_ ?_ ?_⟩
      · rintro i' σ H8 _ ⟨_, _, rfl, _, h8, _⟩
        exact sqL h8
      · clear lw7 lw6 own2 h7 s7 h6 s6 lw D
        rintro i' v σ H8 ev ⟨D, x9, rfl, lw, h8, own2⟩
        obtain ⟨hi', ev⟩ := rev_at lps ev
        obtain ⟨p, st, hp, ep, est, rfl, hstd⟩ := lw.ss.sd.at ev
        obtain ⟨M, tg, hd, e1, pm, lM, nM⟩ := lw.at
        have ek : k - i' = (k - 1 - i') + 1 := by omega
        rw [ek] at hd e1
        have stok := lw.so.ok st (List.mem_of_getElem? est)
        refine ⟨lw.tb, fun H9 e9 T9 => ?_⟩
        have hd9 := hd.ext e9
        have emd : some (some (V.ref m)) = some (some (V.ref D.dk)) := by rw [lw.dk]
        refine ⟨_, emd, D.dk, _, _, rfl, hd9.ins, rfl, D, M, tg, _, _, rfl, hd9, (by rw [List.length_take]; omega), (by rw [List.length_reverse, List.length_drop]; omega), .inl ⟨st, S.take (k - 1 - i'), take_at est, stok, fun D' H10 to10 hd10 => ?_⟩⟩
        have dx := (DeskX.ext e9).trans (DeskX.of_to to10)
        have T10 := hd9.tabs T9 to10.keep
        have lw10 := lw.x dx T10 (DeskS.back lw.so e1 est hd10)
        obtain ⟨M2, tg2, hd2, e2, pm2, _, _⟩ := lw10.at
        have est2 : (sortP M2, tg2) = st := Option.some.inj (e2.symm.trans est)
        have h10 := dx.lst h8 own2
        refine ⟨rfl, _, rfl, iteF' (by simp) ?_⟩
        have emd10 : some (some (V.ref m)) = some (some (V.ref D'.dk)) := by rw [lw10.dk]
        refine ⟨_, emd10, D', M2, tg2, _, _, rfl, hd2, pm2, fun l fp H11 s11 hstd2 nfp => ⟨_, rfl, ?_⟩⟩
        rw [est2] at hstd2
        obtain ⟨hstd10, _⟩ := hstd.x dx (lw.ss.sep p hp)
        refine ⟨stD st, stD st, hstd2.dp, (hstd10.same s11).dp, (lay_std stok).shaped (by decide), (lay_std stok).shaped (by decide), _, rfl, iteNB (std_refl stok) ?_⟩
        refine ⟨D', _, rfl, ?_, s11 _ _ h10.2, h10.1⟩
        rw [show k - (i' + 1) = k - 1 - i' by omega]
        exact lw10.same s11
      · rintro σ H8 ⟨D, x9, rfl, lw, _, _⟩
        rw [List.length_reverse, List.length_dropLast, lps, show k - (k + 1 - 1) = 0 by omega] at lw
        exact ⟨D, _, rfl, lw⟩
    clear lw D
    rintro σ H6 ⟨D, x9, rfl, lw⟩
    -- nothing to take back; what can't be
    obtain ⟨M, tg, hd, e1, pm, lM, nM⟩ := lw.at
    have eM : sortP M = [] ∧ tg = [] := by
      rw [lw.z0] at e1
      have := Option.some.inj e1
      exact ⟨(congrArg Prod.fst this).symm, (congrArg Prod.snd this).symm⟩
    have noZ : ("zz" : Str) ∉ NM.namesOf M := fun z => by
      have := sortP_mem.mpr z
      rw [eM.1] at this
      exact nomatch this
    refine ⟨lw.tb, fun H7 e7 T7 => ?_⟩
    have hd7 := hd.ext e7
    have emd : some (some (V.ref m)) = some (some (V.ref D.dk)) := by rw [lw.dk]
    refine ⟨_, emd, D.dk, _, _, rfl, hd7.ins, rfl, D, M, tg, _, _, rfl, hd7, (by rw [List.length_take]; omega), (by rw [List.length_reverse, List.length_drop]; omega), .inr ⟨rfl, fun H8 s8 => told_E T wdO fun H9 r s9 h9 => ?_⟩⟩
    refine ⟨(by show 2 ≤ sizeLine; decide), fun w nw => ?_⟩
    have sW := same_upd (o := .tup [V.str "refused", .str "Nothing"]) nw
    have lyw := lay_word (nm := "Nothing") (by decide +kernel)
    have sA := (s8.trans s9).trans sW
    refine ⟨wordD "Nothing", wordD "Nothing", dp_word (sW _ _ h9), dp_word upd_same, lyw.shaped (by decide), lyw.shaped (by decide), _, rfl, iteNB lyw.eqv ?_⟩
    replace lw := lw.ext (e7.trans sA.ext) (T7.ext sA)
    replace hd := hd7.same sA
    generalize upd H9 w (.tup [V.str "refused", .str "Nothing"]) = H10 at lw hd ⊢
    clear s8 s9 sW sA h9 hd7 e7 T7
    refine ⟨_, emd, D, M, tg, _, _, rfl, hd, pm, noZ, lw.tb, fun H11 e11 T11 => ⟨_, rfl, iteF ?_⟩⟩
    replace lw := lw.ext e11 T11
    clear hd e11 T11 noZ eM pm e1 lM nM emd M tg H10
    -- all done again
    refine ⟨fun σ H => ∃ D x9, σ = [some (.ref a), some (.int (i : Int)), some (.int more), some (.ref m), some (.ref sl), x5, x6, x7, x8, x9, x10] ∧ Lw K (TL T) T.C_Desk T.C_Map a m sl ns H D S k ps 18, ?_, ?_⟩
    · refine ⟨_, rfl, _, rfl, sl, _, rfl, sqL lw.ss.st, fun c1 nc1 => ?_⟩
      rw [cutV_tail]
      have s7 := same_upd (o := .lst ((ps.map fun p => V.ref p.1).drop 1)) nc1
      have h7 := upd_same (H := H11) (a := c1) (o := .lst ((ps.map fun p => V.ref p.1).drop 1))
      have own2 : c1 ∉ D.own := by
        obtain ⟨M, tg, hd, _⟩ := lw.at
        exact hd.notin nc1
      generalize upd H11 c1 (.lst ((ps.map fun p => V.ref p.1).drop 1)) = H7 at s7 h7 ⊢
      have lw7 := lw.same s7
      refine ⟨c1, rfl, ⟨_, sqL h7⟩, for_enum (enum_list (xs := (ps.map fun p => V.ref p.1).drop 1)) (fun i' σ H => ∃ D x9, σ = [some (.ref a), some (.int (i : Int)), some (.int more), some (.ref m), some (.ref sl), x5, x6, x7, x8, x9, x10] ∧ Lw K (TL T) T.C_Desk T.C_Map a m sl ns H D S i' ps 18 ∧ H c1 = some (.lst ((ps.map fun p => V.ref p.1).drop 1)) ∧ c1 ∉ D.own) ⟨D, _, rfl, lw7, h7, own2⟩ ?_ ?_ ?_⟩
      · rintro i' σ H8 _ ⟨_, _, rfl, _, h8, _⟩
        exact sqL h8
      · clear lw7 own2 h7 s7 lw D
        rintro i' v σ H8 ev ⟨D, x9, rfl, lw, h8, own2⟩
        rw [List.getElem?_drop, Nat.add_comm] at ev
        have hi' : i' + 1 < k + 1 := by rw [← lps]; exact (List.getElem?_eq_some_iff.mp ev).1
        obtain ⟨p, st, hp, ep, est, rfl, hstd⟩ := lw.ss.sd.at ev
        obtain ⟨M, tg, hd, e1, pm, lM, nM⟩ := lw.at
        have stok := lw.so.ok st (List.mem_of_getElem? est)
        refine ⟨lw.tb, fun H9 e9 T9 => ?_⟩
        have hd9 := hd.ext e9
        have emd : some (some (V.ref m)) = some (some (V.ref D.dk)) := by rw [lw.dk]
        refine ⟨_, emd, D.dk, _, _, rfl, hd9.ins, rfl, D, M, tg, _, _, rfl, hd9, (by rw [List.length_take]; omega), (by rw [List.length_reverse, List.length_drop]; omega), .inl ⟨st, (S.drop (i' + 2)).reverse, (by rw [drop_at est, List.reverse_cons]), stok, fun D' H10 to10 hd10 => ?_⟩⟩
        have dx := (DeskX.ext e9).trans (DeskX.of_to to10)
        have T10 := hd9.tabs T9 to10.keep
        have lw10 := lw.x dx T10 (DeskS.on lw.so e1 est hd10)
        obtain ⟨M2, tg2, hd2, e2, pm2, _, _⟩ := lw10.at
        have est2 : (sortP M2, tg2) = st := Option.some.inj (e2.symm.trans est)
        have h10 := dx.lst h8 own2
        refine ⟨rfl, _, rfl, iteF' (by simp) ?_⟩
        have emd10 : some (some (V.ref m)) = some (some (V.ref D'.dk)) := by rw [lw10.dk]
        refine ⟨_, emd10, D', M2, tg2, _, _, rfl, hd2, pm2, fun l fp H11 s11 hstd2 nfp => ⟨_, rfl, ?_⟩⟩
        rw [est2] at hstd2
        obtain ⟨hstd10, _⟩ := hstd.x dx (lw.ss.sep p hp)
        refine ⟨stD st, stD st, hstd2.dp, (hstd10.same s11).dp, (lay_std stok).shaped (by decide), (lay_std stok).shaped (by decide), _, rfl, iteNB (std_refl stok) ?_⟩
        exact ⟨D', _, rfl, lw10.same s11, s11 _ _ h10.2, h10.1⟩
      · rintro σ H8 ⟨D, x9, rfl, lw, _, _⟩
        rw [List.length_drop, lps, show k + 1 - 1 = k by omega] at lw
        exact ⟨D, _, rfl, lw⟩
    clear lw D x9
    rintro σ H6 ⟨D, x9, rfl, lw⟩
    have emd : some (some (V.ref m)) = some (some (V.ref D.dk)) := by rw [lw.dk]
    obtain ⟨M, tg, hd, e1, pm, lM, nM⟩ := lw.at
    have noA : (S.drop (k + 1)).reverse = [] := by rw [List.drop_of_length_le (by omega)]; rfl
    refine ⟨lw.tb, fun H7 e7 T7 => ?_⟩
    have hd7 := hd.ext e7
    refine ⟨_, emd, D.dk, _, _, rfl, hd7.ins, rfl, D, M, tg, _, _, rfl, hd7, (by rw [List.length_take]; omega), (by rw [List.length_reverse, List.length_drop]; omega), .inr ⟨noA, fun H8 s8 => told_E T wdO fun H9 r s9 h9 => ?_⟩⟩
    refine ⟨(by show 2 ≤ sizeLine; decide), fun w nw => ?_⟩
    have sW := same_upd (o := .tup [V.str "refused", .str "Nothing"]) nw
    have lyw := lay_word (nm := "Nothing") (by decide +kernel)
    have sA := (s8.trans s9).trans sW
    refine ⟨wordD "Nothing", wordD "Nothing", dp_word (sW _ _ h9), dp_word upd_same, lyw.shaped (by decide), lyw.shaped (by decide), _, rfl, iteNB lyw.eqv ?_⟩
    replace lw := lw.ext (e7.trans sA.ext) (T7.ext sA)
    generalize upd H9 w (.tup [V.str "refused", .str "Nothing"]) = H10 at lw ⊢
    clear s8 s9 sW sA h9 hd7 e7 T7 hd noA e1 pm lM nM emd M tg
    -- some undone
    refine ⟨fun σ H => ∃ D x9 k', σ = [some (.ref a), some (.int (i : Int)), some (.int more), some (.ref m), some (.ref sl), x5, x6, x7, x8, x9, x10] ∧ Lw K (TL T) T.C_Desk T.C_Map a m sl ns H D S k' ps 18 ∧ k' ≤ k, ?_, ?_⟩
    · refine ⟨_, rfl, _, rfl, _, rfl, sl, _, rfl, sqL lw.ss.st, fun c1 nc1 => ?_⟩
      rw [cutV_init]
      have s6 := same_upd (o := .lst (ps.map fun p => V.ref p.1).dropLast) nc1
      have h6 := upd_same (H := H10) (a := c1) (o := .lst (ps.map fun p => V.ref p.1).dropLast)
      generalize upd H10 c1 (.lst (ps.map fun p => V.ref p.1).dropLast) = H7 at s6 h6 ⊢
      refine ⟨_, rfl, rfl, c1, _, rfl, sqL h6, fun c2 nc2 => ?_⟩
      have s7 := same_upd (o := .lst (ps.map fun p => V.ref p.1).dropLast.reverse) nc2
      have h7 := upd_same (H := H7) (a := c2) (o := .lst (ps.map fun p => V.ref p.1).dropLast.reverse)
      replace lw := (lw.same s6).same s7
      generalize upd H7 c2 (.lst (ps.map fun p => V.ref p.1).dropLast.reverse) = H8 at lw h7 ⊢
      clear s6 s7 h6 nc1 nc2 H7
      refine ⟨_, rfl, _, _, rfl, rfl, ⟨by decide, by decide, by decide⟩, _, _, rfl, rfl, ⟨by decide, by decide⟩, _, _, rfl, rfl, (by show (0 : Int) < 4; decide), _, rfl, c2, _, rfl, sqL h7, fun c3 nc3 => ?_⟩
      have b0 := Int.emod_nonneg (more / 2 ^ Int.toNat 20) (show (4 : Int) ≠ 0 by decide)
      rw [cutV_take _ _ b0]
      generalize (more / 2 ^ Int.toNat 20 % 4).toNat = cn
      have s9 := same_upd (o := .lst ((ps.map fun p => V.ref p.1).dropLast.reverse.take cn)) nc3
      have h9 := upd_same (H := H8) (a := c3) (o := .lst ((ps.map fun p => V.ref p.1).dropLast.reverse.take cn))
      have own3 : c3 ∉ D.own := by
        obtain ⟨M, tg, hd, _⟩ := lw.at
        exact hd.notin nc3
      generalize upd H8 c3 (.lst ((ps.map fun p => V.ref p.1).dropLast.reverse.take cn)) = H9 at s9 h9 ⊢
      have lw9 := lw.same s9
      refine ⟨c3, rfl, ⟨_, sqL h9⟩, for_enum (enum_list (xs := (ps.map fun p => V.ref p.1).dropLast.reverse.take cn)) (fun i' σ H => ∃ D x9, σ = [some (.ref a), some (.int (i : Int)), some (.int more), some (.ref m), some (.ref sl), x5, x6, x7, x8, x9, x10] ∧ Lw K (TL T) T.C_Desk T.C_Map a m sl ns H D S (k - i') ps 18 ∧ H c3 = some (.lst ((ps.map fun p => V.ref p.1).dropLast.reverse.take cn)) ∧ c3 ∉ D.own) ⟨D, _, rfl, lw9, h9, own3⟩ ?_ ?_ ?_⟩
      · rintro i' σ H11 _ ⟨_, _, rfl, _, h11, _⟩
        exact sqL h11
      · clear lw9 own3 h9 s9 lw D h7
        rintro i' v σ H11 ev ⟨D, x9, rfl, lw, h11, own3⟩
        have ev2 : (ps.map fun p => V.ref p.1).dropLast.reverse[i']? = some v := by
          rw [List.getElem?_take] at ev
          split at ev
          · exact ev
          · cases ev
        obtain ⟨hi', ev2⟩ := rev_at lps ev2
        obtain ⟨p, st, hp, ep, est, rfl, hstd⟩ := lw.ss.sd.at ev2
        obtain ⟨M, tg, hd, e1, pm, lM, nM⟩ := lw.at
        have ek : k - i' = (k - 1 - i') + 1 := by omega
        rw [ek] at hd e1
        have stok := lw.so.ok st (List.mem_of_getElem? est)
        have emd : some (some (V.ref m)) = some (some (V.ref D.dk)) := by rw [lw.dk]
        refine ⟨_, emd, D.dk, _, _, rfl, hd.ins, rfl, D, M, tg, _, _, rfl, hd, (by rw [List.length_take]; omega), (by rw [List.length_reverse, List.length_drop]; omega), .inl ⟨st, S.take (k - 1 - i'), take_at est, stok, fun D' H12 to12 hd12 => ?_⟩⟩
        have dx := DeskX.of_to to12
        have T12 := hd.tabs lw.tb to12.keep
        have h12 := dx.lst h11 own3
        refine ⟨D', _, rfl, ?_, h12.2, h12.1⟩
        rw [show k - (i' + 1) = k - 1 - i' by omega]
        exact lw.x dx T12 (DeskS.back lw.so e1 est hd12)
      · rintro σ H11 ⟨D, x9, rfl, lw, _, _⟩
        exact ⟨D, _, _, rfl, lw, Nat.sub_le _ _⟩
    clear lw D x9 H10
    rintro σ H6 ⟨D, x9, k', rfl, lw, hk'⟩
    have emd : some (some (V.ref m)) = some (some (V.ref D.dk)) := by rw [lw.dk]
    obtain ⟨M, tg, hd, e1, pm, lM, nM⟩ := lw.at
    have nNew : nameS "new" = true := by decide +kernel
    have lNew : ("new" : Str).length = 3 := rfl
    have noN : ("new" : Str) ∉ NM.namesOf M := fun z => by
      have := nM _ z
      rw [lNew] at this
      cases this
    -- desk.put('new', ..)
    have b0 := Int.emod_nonneg more (show (4096 : Int) ≠ 0 by decide)
    have b1 := Int.emod_lt_of_pos more (show (0 : Int) < 4096 by decide)
    refine ⟨_, emd, D.dk, _, _, rfl, hd.ins, rfl, _, rfl, _, _, rfl, rfl, (by show (0 : Int) < 4096; decide), (by show 2 ≤ sizeLine; decide), fun t nt => ?_⟩
    have sT := same_upd (o := .tup [V.int (more % 4096), .int 7]) nt
    have hP : PtAt (upd H6 t (.tup [V.int (more % 4096), .int 7])) (.ref t) (more % 4096, 7) := ⟨t, rfl, upd_same⟩
    replace lw := lw.same sT
    replace hd := hd.same sT
    generalize upd H6 t (.tup [V.int (more % 4096), .int 7]) = H7 at lw hd hP ⊢
    refine ⟨D, M, tg, _, _, _, _, rfl, hd, pm, (by rw [List.length_take]; omega), trivial, nmLen nNew, hP.pd, .inl ⟨"new", _, rfl, nNew, noN, by omega, hP, ⟨b0, Int.le_of_lt_add_one b1, (by show (0 : Int) ≤ 7; decide), (by show (7 : Int) ≤ 4095; decide)⟩, fun D1 H8 to8 _ hd8 => ?_⟩⟩
    clear sT nt
    have pm8 : ((tg ++ [(("new" : Str), ([] : List Str))]).map (·.1)).Perm (NM.namesOf (M ++ [(("new" : Str), (more % 4096, (7 : Int)))])) := by
      rw [List.map_append, names_app]; exact pm.append_right _
    have dx8 := DeskX.of_to to8
    obtain ⟨ds8, so8⟩ := DeskS.deed lw.so e1 pm8 hd8
    have T8 := hd.tabs lw.tb to8.keep
    have sc8 := lw.sc.x dx8
    have hk1 : k' < S.length := (List.getElem?_eq_some_iff.mp e1).1
    have lS8 : (S.take (k' + 1) ++ [(sortP (M ++ [(("new" : Str), (more % 4096, (7 : Int)))]), tg ++ [(("new" : Str), ([] : List Str))])]).length = k' + 2 := by
      rw [List.length_append, List.length_take]
      show _ + 1 = _
      omega
    have e8 : (S.take (k' + 1) ++ [(sortP (M ++ [(("new" : Str), (more % 4096, (7 : Int)))]), tg ++ [(("new" : Str), ([] : List Str))])])[k']? = some (sortP M, tg) := by
      rw [List.getElem?_append_left (by rw [List.length_take]; omega), List.getElem?_take, if_pos (by omega)]
      exact e1
    have emd1 : some (some (V.ref m)) = some (some (V.ref D1.dk)) := by rw [dx8.dk, lw.dk]
    clear hd hd8 to8 dx8 pm8 lw emd hP
    generalize S.take (k' + 1) ++ [(sortP (M ++ [(("new" : Str), (more % 4096, (7 : Int)))]), tg ++ [(("new" : Str), ([] : List Str))])] = S8 at ds8 so8 lS8 e8
    -- redo: nothing
    obtain ⟨M8, tg8, hd8, e9, pm9⟩ := ds8
    have noA : (S8.drop (k' + 1 + 1)).reverse = [] := by rw [List.drop_of_length_le (by omega)]; rfl
    refine ⟨T8, fun H9 e9' T9 => ?_⟩
    have hd9 := hd8.ext e9'
    refine ⟨_, emd1, D1.dk, _, _, rfl, hd9.ins, rfl, D1, M8, tg8, _, _, rfl, hd9, (by rw [List.length_take]; omega), (by rw [List.length_reverse, List.length_drop]; omega), .inr ⟨noA, fun H10 s10 => told_E T wdO fun H11 r s11 h11 => ?_⟩⟩
    refine ⟨(by show 2 ≤ sizeLine; decide), fun w nw => ?_⟩
    have sW := same_upd (o := .tup [V.str "refused", .str "Nothing"]) nw
    have sA := (s10.trans s11).trans sW
    refine ⟨wordD "Nothing", wordD "Nothing", dp_word (sW _ _ h11), dp_word upd_same, lyw.shaped (by decide), lyw.shaped (by decide), _, rfl, iteNB lyw.eqv ?_⟩
    have hd12 := hd9.same sA
    have T12 := T9.ext sA
    have sc12 := sc8.ext (e9'.trans sA.ext)
    generalize upd H11 w (.tup [V.str "refused", .str "Nothing"]) = H12 at hd12 T12 sc12 ⊢
    clear s10 s11 sW sA h11 hd9 hd8 e9' T9 T8 sc8
    -- desk.undo() is not None
    have stok := so8.ok _ (List.mem_of_getElem? e8)
    refine ⟨_, emd1, D1.dk, _, _, rfl, hd12.ins, rfl, D1, M8, tg8, _, _, rfl, hd12, (by rw [List.length_take]; omega), (by rw [List.length_reverse, List.length_drop]; omega), .inl ⟨(sortP M, tg), S8.take k', take_at e8, stok, fun D2 H13 to13 hd13 => ⟨rfl, _, rfl, iteF' (by simp) ?_⟩⟩⟩
    have ds13 := DeskS.back so8 e9 e8 hd13
    have T13 := hd12.tabs T12 to13.keep
    have sc13 := sc12.x (DeskX.of_to to13)
    have emd2 : some (some (V.ref m)) = some (some (V.ref D2.dk)) := by rw [to13.dk]; exact emd1
    clear hd12 hd13 to13 T12 sc12
    obtain ⟨M3, tg3, hd3, e3, pm3⟩ := ds13
    have eM3 : sortP M3 = sortP M := congrArg Prod.fst (Option.some.inj (e3.symm.trans e8))
    -- 'new' in [row[0] for row in _law_stand(desk)]
    refine ⟨_, emd2, D2, M3, tg3, _, _, rfl, hd3, pm3, fun l fp H14 s14 hstd nfp => ?_⟩
    obtain ⟨qs, hl, hq, _⟩ := hstd
    have lq : qs.length = (NM.namesOf (sortP M3)).length := paired_len hq
    have lN := (MapG.ok hd3.map).sortP.lenN
    refine ⟨l, rfl, ⟨_, sqL hl⟩, lc_mapR (enum_list (xs := qs.map fun q => V.ref q.1)) (fun x y _ => ∃ q n, q ∈ qs ∧ x = V.ref q.1 ∧ y = V.str n ∧ n ∈ NM.namesOf (sortP M3)) (fun D H' nD s => sqL (s _ _ (ne_of_none hl nD) hl)) (by rw [List.length_map, lq]; exact small1000 (by omega)) (fun _ _ _ _ _ _ h _ _ => h) ?_ ?_⟩
    · intro e x H15 Cy ex s15 kk
      rw [List.getElem?_map] at ex
      cases eq : qs[e]? with
      | none => rw [eq] at ex; cases ex
      | some q =>
        rw [eq] at ex
        obtain rfl := Option.some.inj ex
        obtain ⟨n, en, v, ht, hv, htl⟩ := paired_getL hq eq
        exact ⟨_, rfl, q.1, _, _, .str n, rfl, rfl, sqT (s15 _ _ ht), atI_nat (j := 0) rfl, kk _ _ (Same.refl _) ⟨q, n, List.mem_of_getElem? eq, rfl, rfl, List.mem_of_getElem? en⟩⟩
    intro cl H15 ys ncl s15 hcl pr
    have ysS : ∃ L : List Str, ys = L.map V.str ∧ ∀ n ∈ L, n ∈ NM.namesOf (sortP M3) := by
      clear hcl lq hl hq
      have go : ∀ {as bs : List V}, Paired (fun x y => ∃ q n, q ∈ qs ∧ x = V.ref q.1 ∧ y = V.str n ∧ n ∈ NM.namesOf (sortP M3)) as bs → ∃ L : List Str, bs = L.map V.str ∧ ∀ n ∈ L, n ∈ NM.namesOf (sortP M3) := fun {as bs} h => by
        induction h with
        | nil => exact ⟨[], rfl, fun n hn => nomatch hn⟩
        | cons r _ ih =>
          obtain ⟨q, n, _, _, rfl, hn⟩ := r
          obtain ⟨L, rfl, hL⟩ := ih
          exact ⟨n :: L, rfl, fun z hz => by
            rcases List.mem_cons.mp hz with e | hz
            · rw [e]; exact hn
            · exact hL z hz⟩
      exact go pr
    obtain ⟨L, rfl, hL⟩ := ysS
    have noL : ("new" : Str) ∉ L := fun z => noN (sortP_mem.mp (by rw [← eM3]; exact hL _ z))
    refine ⟨cl, _, rfl, .inl (sqL hcl), rfl, flat_strs _, _, rfl, ?_⟩
    rw [inV_str, decide_eq_false noL]
    refine iteF ?_
    -- desk.redo() is not None
    have s05 := s14.trans s15
    have hd5 := hd3.same s05
    obtain ⟨st9, e9b⟩ : ∃ st9, S8[k' + 1]? = some st9 := ⟨_, e9⟩
    have stok9 := so8.ok _ (List.mem_of_getElem? e9b)
    refine ⟨_, emd2, D2.dk, _, _, rfl, hd5.ins, rfl, D2, M3, tg3, _, _, rfl, hd5, (by rw [List.length_take]; omega), (by rw [List.length_reverse, List.length_drop]; omega), .inl ⟨st9, (S8.drop (k' + 2)).reverse, (by rw [drop_at e9b, List.reverse_cons]), stok9, fun D4 H16 to16 hd16 => ⟨rfl, _, rfl, iteF' (by simp) ?_⟩⟩⟩
    exact ⟨_, _, _, _, _, _, _, _, _, _, rfl, ((sc13.ext s05.ext).x (DeskX.of_to to16)).sq, hd5.tabs (T13.ext s05) to16.keep⟩

end
theorem all_mk {l : PySem.W.OpenLaw} {w : World} {K : PySem.W.Frag} {h : Heap} {mg : Str → Option Value} {fa : Addr} (X : K.In h) (G : h.Ns mainGlobals mg) (hfa : mg "law" = some (.ref fa))
    {C_MarkError : Addr} {C_BadName : Addr} {C_BadPoint : Addr} {C_BadSize : Addr} {C_BadHeap : Addr} {C_BadText : Addr} {C_BadTag : Addr} {C_Nothing : Addr} {t_SMALL : Tok} {t_MOST_WORD : Tok} {t_MOST_SIDE : Tok} {t_MOST_SIZE : Tok} {a_REACHES : Addr} {oc_REACHES : Option Addr} {n_REACHES : Nat} {sl_REACHES : Array (Option Value)} {t0_REACHES : Tok} {t1_REACHES : Tok} {t2_REACHES : Tok} {t3_REACHES : Tok} {t4_REACHES : Tok} {t5_REACHES : Tok} {t6_REACHES : Tok} {t7_REACHES : Tok} {t8_REACHES : Tok} {t9_REACHES : Tok} {t10_REACHES : Tok} {t11_REACHES : Tok} {t12_REACHES : Tok} {t13_REACHES : Tok} {t_MOST_MARKS : Tok} {t_MOST_TAGS : Tok} {C_Map : Addr} {C_Desk : Addr} {f_is_count : Addr} {od_is_count : Option Addr} {an_is_count : Option Addr} {sl_is_count : Array (Option Value)} {oc_is_count : Value} {kV_is_count : Value} {dc_is_count : Value} {pm_is_count : Value} {cd_is_count : Value} {ct_is_count : Value} {f_is_name : Addr} {od_is_name : Option Addr} {an_is_name : Option Addr} {sl_is_name : Array (Option Value)} {oc_is_name : Value} {kV_is_name : Value} {dc_is_name : Value} {pm_is_name : Value} {cd_is_name : Value} {ct_is_name : Value} {f_need_name : Addr} {od_need_name : Option Addr} {an_need_name : Option Addr} {sl_need_name : Array (Option Value)} {oc_need_name : Value} {kV_need_name : Value} {dc_need_name : Value} {pm_need_name : Value} {cd_need_name : Value} {ct_need_name : Value} {f_need_point : Addr} {od_need_point : Option Addr} {an_need_point : Option Addr} {sl_need_point : Array (Option Value)} {oc_need_point : Value} {kV_need_point : Value} {dc_need_point : Value} {pm_need_point : Value} {cd_need_point : Value} {ct_need_point : Value} {f_need_size : Addr} {od_need_size : Option Addr} {an_need_size : Option Addr} {sl_need_size : Array (Option Value)} {oc_need_size : Value} {kV_need_size : Value} {dc_need_size : Value} {pm_need_size : Value} {cd_need_size : Value} {ct_need_size : Value} {f_reach : Addr} {od_reach : Option Addr} {an_reach : Option Addr} {sl_reach : Array (Option Value)} {oc_reach : Value} {kV_reach : Value} {dc_reach : Value} {pm_reach : Value} {cd_reach : Value} {ct_reach : Value} {f_apart : Addr} {od_apart : Option Addr} {an_apart : Option Addr} {sl_apart : Array (Option Value)} {oc_apart : Value} {kV_apart : Value} {dc_apart : Value} {pm_apart : Value} {cd_apart : Value} {ct_apart : Value} {f_heaps_of : Addr} {od_heaps_of : Option Addr} {an_heaps_of : Option Addr} {sl_heaps_of : Array (Option Value)} {oc_heaps_of : Value} {kV_heaps_of : Value} {dc_heaps_of : Value} {pm_heaps_of : Value} {cd_heaps_of : Value} {ct_heaps_of : Value} {f_Map___init__ : Addr} {od_Map___init__ : Option Addr} {an_Map___init__ : Option Addr} {sl_Map___init__ : Array (Option Value)} {oc_Map___init__ : Value} {kV_Map___init__ : Value} {dc_Map___init__ : Value} {pm_Map___init__ : Value} {cd_Map___init__ : Value} {ct_Map___init__ : Value} {f_Map_marks : Addr} {od_Map_marks : Option Addr} {an_Map_marks : Option Addr} {sl_Map_marks : Array (Option Value)} {oc_Map_marks : Value} {kV_Map_marks : Value} {dc_Map_marks : Value} {pm_Map_marks : Value} {cd_Map_marks : Value} {ct_Map_marks : Value} {f_Map_point : Addr} {od_Map_point : Option Addr} {an_Map_point : Option Addr} {sl_Map_point : Array (Option Value)} {oc_Map_point : Value} {kV_Map_point : Value} {dc_Map_point : Value} {pm_Map_point : Value} {cd_Map_point : Value} {ct_Map_point : Value} {f_Map_put : Addr} {od_Map_put : Option Addr} {an_Map_put : Option Addr} {sl_Map_put : Array (Option Value)} {oc_Map_put : Value} {kV_Map_put : Value} {dc_Map_put : Value} {pm_Map_put : Value} {cd_Map_put : Value} {ct_Map_put : Value} {f_Map_join : Addr} {od_Map_join : Option Addr} {an_Map_join : Option Addr} {sl_Map_join : Array (Option Value)} {oc_Map_join : Value} {kV_Map_join : Value} {dc_Map_join : Value} {pm_Map_join : Value} {cd_Map_join : Value} {ct_Map_join : Value} {f_Map_drop : Addr} {od_Map_drop : Option Addr} {an_Map_drop : Option Addr} {sl_Map_drop : Array (Option Value)} {oc_Map_drop : Value} {kV_Map_drop : Value} {dc_Map_drop : Value} {pm_Map_drop : Value} {cd_Map_drop : Value} {ct_Map_drop : Value} {f_Map_move : Addr} {od_Map_move : Option Addr} {an_Map_move : Option Addr} {sl_Map_move : Array (Option Value)} {oc_Map_move : Value} {kV_Map_move : Value} {dc_Map_move : Value} {pm_Map_move : Value} {cd_Map_move : Value} {ct_Map_move : Value} {f_Map_names_at : Addr} {od_Map_names_at : Option Addr} {an_Map_names_at : Option Addr} {sl_Map_names_at : Array (Option Value)} {oc_Map_names_at : Value} {kV_Map_names_at : Value} {dc_Map_names_at : Value} {pm_Map_names_at : Value} {cd_Map_names_at : Value} {ct_Map_names_at : Value} {f_Map_heap_of : Addr} {od_Map_heap_of : Option Addr} {an_Map_heap_of : Option Addr} {sl_Map_heap_of : Array (Option Value)} {oc_Map_heap_of : Value} {kV_Map_heap_of : Value} {dc_Map_heap_of : Value} {pm_Map_heap_of : Value} {cd_Map_heap_of : Value} {ct_Map_heap_of : Value} {f_Map_names : Addr} {od_Map_names : Option Addr} {an_Map_names : Option Addr} {sl_Map_names : Array (Option Value)} {oc_Map_names : Value} {kV_Map_names : Value} {dc_Map_names : Value} {pm_Map_names : Value} {cd_Map_names : Value} {ct_Map_names : Value} {f_need_box : Addr} {od_need_box : Option Addr} {an_need_box : Option Addr} {sl_need_box : Array (Option Value)} {oc_need_box : Value} {kV_need_box : Value} {dc_need_box : Value} {pm_need_box : Value} {cd_need_box : Value} {ct_need_box : Value} {f_is_in : Addr} {od_is_in : Option Addr} {an_is_in : Option Addr} {sl_is_in : Array (Option Value)} {oc_is_in : Value} {kV_is_in : Value} {dc_is_in : Value} {pm_is_in : Value} {cd_is_in : Value} {ct_is_in : Value} {f_Desk___init__ : Addr} {od_Desk___init__ : Option Addr} {an_Desk___init__ : Option Addr} {sl_Desk___init__ : Array (Option Value)} {oc_Desk___init__ : Value} {kV_Desk___init__ : Value} {dc_Desk___init__ : Value} {pm_Desk___init__ : Value} {cd_Desk___init__ : Value} {ct_Desk___init__ : Value} {f_Desk_stand : Addr} {od_Desk_stand : Option Addr} {an_Desk_stand : Option Addr} {sl_Desk_stand : Array (Option Value)} {oc_Desk_stand : Value} {kV_Desk_stand : Value} {dc_Desk_stand : Value} {pm_Desk_stand : Value} {cd_Desk_stand : Value} {ct_Desk_stand : Value} {f_Desk_to : Addr} {od_Desk_to : Option Addr} {an_Desk_to : Option Addr} {sl_Desk_to : Array (Option Value)} {oc_Desk_to : Value} {kV_Desk_to : Value} {dc_Desk_to : Value} {pm_Desk_to : Value} {cd_Desk_to : Value} {ct_Desk_to : Value} {f_Desk_keep : Addr} {od_Desk_keep : Option Addr} {an_Desk_keep : Option Addr} {sl_Desk_keep : Array (Option Value)} {oc_Desk_keep : Value} {kV_Desk_keep : Value} {dc_Desk_keep : Value} {pm_Desk_keep : Value} {cd_Desk_keep : Value} {ct_Desk_keep : Value} {f_Desk_put : Addr} {od_Desk_put : Option Addr} {an_Desk_put : Option Addr} {sl_Desk_put : Array (Option Value)} {oc_Desk_put : Value} {kV_Desk_put : Value} {dc_Desk_put : Value} {pm_Desk_put : Value} {cd_Desk_put : Value} {ct_Desk_put : Value} {f_Desk_drop : Addr} {od_Desk_drop : Option Addr} {an_Desk_drop : Option Addr} {sl_Desk_drop : Array (Option Value)} {oc_Desk_drop : Value} {kV_Desk_drop : Value} {dc_Desk_drop : Value} {pm_Desk_drop : Value} {cd_Desk_drop : Value} {ct_Desk_drop : Value} {f_Desk_move : Addr} {od_Desk_move : Option Addr} {an_Desk_move : Option Addr} {sl_Desk_move : Array (Option Value)} {oc_Desk_move : Value} {kV_Desk_move : Value} {dc_Desk_move : Value} {pm_Desk_move : Value} {cd_Desk_move : Value} {ct_Desk_move : Value} {f_Desk_tag : Addr} {od_Desk_tag : Option Addr} {an_Desk_tag : Option Addr} {sl_Desk_tag : Array (Option Value)} {oc_Desk_tag : Value} {kV_Desk_tag : Value} {dc_Desk_tag : Value} {pm_Desk_tag : Value} {cd_Desk_tag : Value} {ct_Desk_tag : Value} {f_Desk_untag : Addr} {od_Desk_untag : Option Addr} {an_Desk_untag : Option Addr} {sl_Desk_untag : Array (Option Value)} {oc_Desk_untag : Value} {kV_Desk_untag : Value} {dc_Desk_untag : Value} {pm_Desk_untag : Value} {cd_Desk_untag : Value} {ct_Desk_untag : Value} {f_Desk_undo : Addr} {od_Desk_undo : Option Addr} {an_Desk_undo : Option Addr} {sl_Desk_undo : Array (Option Value)} {oc_Desk_undo : Value} {kV_Desk_undo : Value} {dc_Desk_undo : Value} {pm_Desk_undo : Value} {cd_Desk_undo : Value} {ct_Desk_undo : Value} {f_Desk_redo : Addr} {od_Desk_redo : Option Addr} {an_Desk_redo : Option Addr} {sl_Desk_redo : Array (Option Value)} {oc_Desk_redo : Value} {kV_Desk_redo : Value} {dc_Desk_redo : Value} {pm_Desk_redo : Value} {cd_Desk_redo : Value} {ct_Desk_redo : Value} {f_Desk_chart : Addr} {od_Desk_chart : Option Addr} {an_Desk_chart : Option Addr} {sl_Desk_chart : Array (Option Value)} {oc_Desk_chart : Value} {kV_Desk_chart : Value} {dc_Desk_chart : Value} {pm_Desk_chart : Value} {cd_Desk_chart : Value} {ct_Desk_chart : Value} {f_Desk_tags : Addr} {od_Desk_tags : Option Addr} {an_Desk_tags : Option Addr} {sl_Desk_tags : Array (Option Value)} {oc_Desk_tags : Value} {kV_Desk_tags : Value} {dc_Desk_tags : Value} {pm_Desk_tags : Value} {cd_Desk_tags : Value} {ct_Desk_tags : Value} {f_Desk_tagged : Addr} {od_Desk_tagged : Option Addr} {an_Desk_tagged : Option Addr} {sl_Desk_tagged : Array (Option Value)} {oc_Desk_tagged : Value} {kV_Desk_tagged : Value} {dc_Desk_tagged : Value} {pm_Desk_tagged : Value} {cd_Desk_tagged : Value} {ct_Desk_tagged : Value} {f_Desk_sought : Addr} {od_Desk_sought : Option Addr} {an_Desk_sought : Option Addr} {sl_Desk_sought : Array (Option Value)} {oc_Desk_sought : Value} {kV_Desk_sought : Value} {dc_Desk_sought : Value} {pm_Desk_sought : Value} {cd_Desk_sought : Value} {ct_Desk_sought : Value} {f_Desk_told_of : Addr} {od_Desk_told_of : Option Addr} {an_Desk_told_of : Option Addr} {sl_Desk_told_of : Array (Option Value)} {oc_Desk_told_of : Value} {kV_Desk_told_of : Value} {dc_Desk_told_of : Value} {pm_Desk_told_of : Value} {cd_Desk_told_of : Value} {ct_Desk_told_of : Value} {f_law_cell : Addr} {od_law_cell : Option Addr} {an_law_cell : Option Addr} {sl_law_cell : Array (Option Value)} {oc_law_cell : Value} {kV_law_cell : Value} {dc_law_cell : Value} {pm_law_cell : Value} {cd_law_cell : Value} {ct_law_cell : Value} {f_law_drawn : Addr} {od_law_drawn : Option Addr} {an_law_drawn : Option Addr} {sl_law_drawn : Array (Option Value)} {oc_law_drawn : Value} {kV_law_drawn : Value} {dc_law_drawn : Value} {pm_law_drawn : Value} {cd_law_drawn : Value} {ct_law_drawn : Value} {f_law_word : Addr} {od_law_word : Option Addr} {an_law_word : Option Addr} {sl_law_word : Array (Option Value)} {oc_law_word : Value} {kV_law_word : Value} {dc_law_word : Value} {pm_law_word : Value} {cd_law_word : Value} {ct_law_word : Value} {f_law_told : Addr} {od_law_told : Option Addr} {an_law_told : Option Addr} {sl_law_told : Array (Option Value)} {oc_law_told : Value} {kV_law_told : Value} {dc_law_told : Value} {pm_law_told : Value} {cd_law_told : Value} {ct_law_told : Value} {f_law_point : Addr} {od_law_point : Option Addr} {an_law_point : Option Addr} {sl_law_point : Array (Option Value)} {oc_law_point : Value} {kV_law_point : Value} {dc_law_point : Value} {pm_law_point : Value} {cd_law_point : Value} {ct_law_point : Value} {f_law_name : Addr} {od_law_name : Option Addr} {an_law_name : Option Addr} {sl_law_name : Array (Option Value)} {oc_law_name : Value} {kV_law_name : Value} {dc_law_name : Value} {pm_law_name : Value} {cd_law_name : Value} {ct_law_name : Value} {f_law_stand : Addr} {od_law_stand : Option Addr} {an_law_stand : Option Addr} {sl_law_stand : Array (Option Value)} {oc_law_stand : Value} {kV_law_stand : Value} {dc_law_stand : Value} {pm_law_stand : Value} {cd_law_stand : Value} {ct_law_stand : Value} {f_law_any : Addr} {od_law_any : Option Addr} {an_law_any : Option Addr} {sl_law_any : Array (Option Value)} {oc_law_any : Value} {kV_law_any : Value} {dc_law_any : Value} {pm_law_any : Value} {ct_law_any : Value} {co_law_any : Addr} {tb_law_any : Addr} {f_law_refusals : Addr} {od_law_refusals : Option Addr} {an_law_refusals : Option Addr} {sl_law_refusals : Array (Option Value)} {oc_law_refusals : Value} {kV_law_refusals : Value} {dc_law_refusals : Value} {pm_law_refusals : Value} {ct_law_refusals : Value} {co_law_refusals : Addr} {tb_law_refusals : Addr} {f_law : Addr} {od_law : Option Addr} {an_law : Option Addr} {sl_law : Array (Option Value)} {oc_law : Value} {kV_law : Value} {dc_law : Value} {pm_law : Value} {ct_law : Value} {co_law : Addr} {tb_law : Addr} {odc_law_any : Option Addr} {vsc_law_any : Array Value} {slc_law_any : Array (Option Value)} {odc_law_refusals : Option Addr} {vsc_law_refusals : Array Value} {slc_law_refusals : Array (Option Value)} {odc_law : Option Addr} {vsc_law : Array Value} {slc_law : Array (Option Value)}
    (a_MarkError : PySem.W.nsIn K mainGlobals "MarkError" = some (some (.ref C_MarkError)))
    (x_MarkError : PySem.W.excIn K C_MarkError [.type "ValueError", .type "Exception", .type "BaseException", .type "object"] "ValueError.__new__" = true)
    (k_MarkError : PySem.W.keepIn K (.ref C_MarkError) = true)
    (e_MarkError : PySem.W.subIn K (.ref C_MarkError) (.type "BaseException") = some true)
    (t_MarkError : PySem.W.typeIn K (.ref C_MarkError) = some (.type "type"))
    (hd_MarkError : PySem.W.hasDictIn K C_MarkError = true)
    (sm_MarkError : PySem.W.subIn K (.ref C_MarkError) (.ref C_MarkError) = some true)
    (ga_MarkError : PySem.W.findIn K (.ref C_MarkError) "__getattribute__" = some (some (.builtin "BaseException.__getattribute__")))
    (gt_MarkError : PySem.W.findIn K (.ref C_MarkError) "__getattr__" = some none)
    (cl_MarkError : PySem.W.findIn K (.ref C_MarkError) "__class__" = some (some (.builtin "object.__class__")))
    (mr_MarkError : PySem.W.mroIn K C_MarkError (.type "object") = some true)
    (a_BadName : PySem.W.nsIn K mainGlobals "BadName" = some (some (.ref C_BadName)))
    (x_BadName : PySem.W.excIn K C_BadName [.type "ValueError", .type "Exception", .type "BaseException", .type "object"] "ValueError.__new__" = true)
    (k_BadName : PySem.W.keepIn K (.ref C_BadName) = true)
    (e_BadName : PySem.W.subIn K (.ref C_BadName) (.type "BaseException") = some true)
    (t_BadName : PySem.W.typeIn K (.ref C_BadName) = some (.type "type"))
    (hd_BadName : PySem.W.hasDictIn K C_BadName = true)
    (sm_BadName : PySem.W.subIn K (.ref C_BadName) (.ref C_MarkError) = some true)
    (ga_BadName : PySem.W.findIn K (.ref C_BadName) "__getattribute__" = some (some (.builtin "BaseException.__getattribute__")))
    (gt_BadName : PySem.W.findIn K (.ref C_BadName) "__getattr__" = some none)
    (cl_BadName : PySem.W.findIn K (.ref C_BadName) "__class__" = some (some (.builtin "object.__class__")))
    (mr_BadName : PySem.W.mroIn K C_BadName (.type "object") = some true)
    (a_BadPoint : PySem.W.nsIn K mainGlobals "BadPoint" = some (some (.ref C_BadPoint)))
    (x_BadPoint : PySem.W.excIn K C_BadPoint [.type "ValueError", .type "Exception", .type "BaseException", .type "object"] "ValueError.__new__" = true)
    (k_BadPoint : PySem.W.keepIn K (.ref C_BadPoint) = true)
    (e_BadPoint : PySem.W.subIn K (.ref C_BadPoint) (.type "BaseException") = some true)
    (t_BadPoint : PySem.W.typeIn K (.ref C_BadPoint) = some (.type "type"))
    (hd_BadPoint : PySem.W.hasDictIn K C_BadPoint = true)
    (sm_BadPoint : PySem.W.subIn K (.ref C_BadPoint) (.ref C_MarkError) = some true)
    (ga_BadPoint : PySem.W.findIn K (.ref C_BadPoint) "__getattribute__" = some (some (.builtin "BaseException.__getattribute__")))
    (gt_BadPoint : PySem.W.findIn K (.ref C_BadPoint) "__getattr__" = some none)
    (cl_BadPoint : PySem.W.findIn K (.ref C_BadPoint) "__class__" = some (some (.builtin "object.__class__")))
    (mr_BadPoint : PySem.W.mroIn K C_BadPoint (.type "object") = some true)
    (a_BadSize : PySem.W.nsIn K mainGlobals "BadSize" = some (some (.ref C_BadSize)))
    (x_BadSize : PySem.W.excIn K C_BadSize [.type "ValueError", .type "Exception", .type "BaseException", .type "object"] "ValueError.__new__" = true)
    (k_BadSize : PySem.W.keepIn K (.ref C_BadSize) = true)
    (e_BadSize : PySem.W.subIn K (.ref C_BadSize) (.type "BaseException") = some true)
    (t_BadSize : PySem.W.typeIn K (.ref C_BadSize) = some (.type "type"))
    (hd_BadSize : PySem.W.hasDictIn K C_BadSize = true)
    (sm_BadSize : PySem.W.subIn K (.ref C_BadSize) (.ref C_MarkError) = some true)
    (ga_BadSize : PySem.W.findIn K (.ref C_BadSize) "__getattribute__" = some (some (.builtin "BaseException.__getattribute__")))
    (gt_BadSize : PySem.W.findIn K (.ref C_BadSize) "__getattr__" = some none)
    (cl_BadSize : PySem.W.findIn K (.ref C_BadSize) "__class__" = some (some (.builtin "object.__class__")))
    (mr_BadSize : PySem.W.mroIn K C_BadSize (.type "object") = some true)
    (a_BadHeap : PySem.W.nsIn K mainGlobals "BadHeap" = some (some (.ref C_BadHeap)))
    (x_BadHeap : PySem.W.excIn K C_BadHeap [.type "ValueError", .type "Exception", .type "BaseException", .type "object"] "ValueError.__new__" = true)
    (k_BadHeap : PySem.W.keepIn K (.ref C_BadHeap) = true)
    (e_BadHeap : PySem.W.subIn K (.ref C_BadHeap) (.type "BaseException") = some true)
    (t_BadHeap : PySem.W.typeIn K (.ref C_BadHeap) = some (.type "type"))
    (hd_BadHeap : PySem.W.hasDictIn K C_BadHeap = true)
    (sm_BadHeap : PySem.W.subIn K (.ref C_BadHeap) (.ref C_MarkError) = some true)
    (ga_BadHeap : PySem.W.findIn K (.ref C_BadHeap) "__getattribute__" = some (some (.builtin "BaseException.__getattribute__")))
    (gt_BadHeap : PySem.W.findIn K (.ref C_BadHeap) "__getattr__" = some none)
    (cl_BadHeap : PySem.W.findIn K (.ref C_BadHeap) "__class__" = some (some (.builtin "object.__class__")))
    (mr_BadHeap : PySem.W.mroIn K C_BadHeap (.type "object") = some true)
    (a_BadText : PySem.W.nsIn K mainGlobals "BadText" = some (some (.ref C_BadText)))
    (x_BadText : PySem.W.excIn K C_BadText [.type "ValueError", .type "Exception", .type "BaseException", .type "object"] "ValueError.__new__" = true)
    (k_BadText : PySem.W.keepIn K (.ref C_BadText) = true)
    (e_BadText : PySem.W.subIn K (.ref C_BadText) (.type "BaseException") = some true)
    (t_BadText : PySem.W.typeIn K (.ref C_BadText) = some (.type "type"))
    (hd_BadText : PySem.W.hasDictIn K C_BadText = true)
    (sm_BadText : PySem.W.subIn K (.ref C_BadText) (.ref C_MarkError) = some true)
    (ga_BadText : PySem.W.findIn K (.ref C_BadText) "__getattribute__" = some (some (.builtin "BaseException.__getattribute__")))
    (gt_BadText : PySem.W.findIn K (.ref C_BadText) "__getattr__" = some none)
    (cl_BadText : PySem.W.findIn K (.ref C_BadText) "__class__" = some (some (.builtin "object.__class__")))
    (mr_BadText : PySem.W.mroIn K C_BadText (.type "object") = some true)
    (a_BadTag : PySem.W.nsIn K mainGlobals "BadTag" = some (some (.ref C_BadTag)))
    (x_BadTag : PySem.W.excIn K C_BadTag [.type "ValueError", .type "Exception", .type "BaseException", .type "object"] "ValueError.__new__" = true)
    (k_BadTag : PySem.W.keepIn K (.ref C_BadTag) = true)
    (e_BadTag : PySem.W.subIn K (.ref C_BadTag) (.type "BaseException") = some true)
    (t_BadTag : PySem.W.typeIn K (.ref C_BadTag) = some (.type "type"))
    (hd_BadTag : PySem.W.hasDictIn K C_BadTag = true)
    (sm_BadTag : PySem.W.subIn K (.ref C_BadTag) (.ref C_MarkError) = some true)
    (ga_BadTag : PySem.W.findIn K (.ref C_BadTag) "__getattribute__" = some (some (.builtin "BaseException.__getattribute__")))
    (gt_BadTag : PySem.W.findIn K (.ref C_BadTag) "__getattr__" = some none)
    (cl_BadTag : PySem.W.findIn K (.ref C_BadTag) "__class__" = some (some (.builtin "object.__class__")))
    (mr_BadTag : PySem.W.mroIn K C_BadTag (.type "object") = some true)
    (a_Nothing : PySem.W.nsIn K mainGlobals "Nothing" = some (some (.ref C_Nothing)))
    (x_Nothing : PySem.W.excIn K C_Nothing [.type "ValueError", .type "Exception", .type "BaseException", .type "object"] "ValueError.__new__" = true)
    (k_Nothing : PySem.W.keepIn K (.ref C_Nothing) = true)
    (e_Nothing : PySem.W.subIn K (.ref C_Nothing) (.type "BaseException") = some true)
    (t_Nothing : PySem.W.typeIn K (.ref C_Nothing) = some (.type "type"))
    (hd_Nothing : PySem.W.hasDictIn K C_Nothing = true)
    (sm_Nothing : PySem.W.subIn K (.ref C_Nothing) (.ref C_MarkError) = some true)
    (ga_Nothing : PySem.W.findIn K (.ref C_Nothing) "__getattribute__" = some (some (.builtin "BaseException.__getattribute__")))
    (gt_Nothing : PySem.W.findIn K (.ref C_Nothing) "__getattr__" = some none)
    (cl_Nothing : PySem.W.findIn K (.ref C_Nothing) "__class__" = some (some (.builtin "object.__class__")))
    (mr_Nothing : PySem.W.mroIn K C_Nothing (.type "object") = some true)
    (ocn : PySem.W.specialIn K (.builtin "object.__class__") "__get__" = some (some (.builtin "getset_descriptor.__get__")))
    (oct : PySem.W.takesIn K (.builtin "object.__class__") = some true)
    (kit_BadHeap_BadHeap : PySem.W.kitOne K (.ref C_BadHeap) (.ref C_BadHeap) = some true)
    (kit_BadHeap_BadName : PySem.W.kitOne K (.ref C_BadHeap) (.ref C_BadName) = some false)
    (kit_BadHeap_BadPoint : PySem.W.kitOne K (.ref C_BadHeap) (.ref C_BadPoint) = some false)
    (kit_BadHeap_BadSize : PySem.W.kitOne K (.ref C_BadHeap) (.ref C_BadSize) = some false)
    (kit_BadHeap_BadText : PySem.W.kitOne K (.ref C_BadHeap) (.ref C_BadText) = some false)
    (kit_BadHeap_BadTag : PySem.W.kitOne K (.ref C_BadHeap) (.ref C_BadTag) = some false)
    (kit_BadHeap_Nothing : PySem.W.kitOne K (.ref C_BadHeap) (.ref C_Nothing) = some false)
    (kit_BadHeap_VE : PySem.W.kitOne K (.ref C_BadHeap) (.type "ValueError") = some true)
    (kit_BadName_BadHeap : PySem.W.kitOne K (.ref C_BadName) (.ref C_BadHeap) = some false)
    (kit_BadName_BadName : PySem.W.kitOne K (.ref C_BadName) (.ref C_BadName) = some true)
    (kit_BadName_BadPoint : PySem.W.kitOne K (.ref C_BadName) (.ref C_BadPoint) = some false)
    (kit_BadName_BadSize : PySem.W.kitOne K (.ref C_BadName) (.ref C_BadSize) = some false)
    (kit_BadName_BadText : PySem.W.kitOne K (.ref C_BadName) (.ref C_BadText) = some false)
    (kit_BadName_BadTag : PySem.W.kitOne K (.ref C_BadName) (.ref C_BadTag) = some false)
    (kit_BadName_Nothing : PySem.W.kitOne K (.ref C_BadName) (.ref C_Nothing) = some false)
    (kit_BadName_VE : PySem.W.kitOne K (.ref C_BadName) (.type "ValueError") = some true)
    (kit_BadPoint_BadHeap : PySem.W.kitOne K (.ref C_BadPoint) (.ref C_BadHeap) = some false)
    (kit_BadPoint_BadName : PySem.W.kitOne K (.ref C_BadPoint) (.ref C_BadName) = some false)
    (kit_BadPoint_BadPoint : PySem.W.kitOne K (.ref C_BadPoint) (.ref C_BadPoint) = some true)
    (kit_BadPoint_BadSize : PySem.W.kitOne K (.ref C_BadPoint) (.ref C_BadSize) = some false)
    (kit_BadPoint_BadText : PySem.W.kitOne K (.ref C_BadPoint) (.ref C_BadText) = some false)
    (kit_BadPoint_BadTag : PySem.W.kitOne K (.ref C_BadPoint) (.ref C_BadTag) = some false)
    (kit_BadPoint_Nothing : PySem.W.kitOne K (.ref C_BadPoint) (.ref C_Nothing) = some false)
    (kit_BadPoint_VE : PySem.W.kitOne K (.ref C_BadPoint) (.type "ValueError") = some true)
    (kit_BadSize_BadHeap : PySem.W.kitOne K (.ref C_BadSize) (.ref C_BadHeap) = some false)
    (kit_BadSize_BadName : PySem.W.kitOne K (.ref C_BadSize) (.ref C_BadName) = some false)
    (kit_BadSize_BadPoint : PySem.W.kitOne K (.ref C_BadSize) (.ref C_BadPoint) = some false)
    (kit_BadSize_BadSize : PySem.W.kitOne K (.ref C_BadSize) (.ref C_BadSize) = some true)
    (kit_BadSize_BadText : PySem.W.kitOne K (.ref C_BadSize) (.ref C_BadText) = some false)
    (kit_BadSize_BadTag : PySem.W.kitOne K (.ref C_BadSize) (.ref C_BadTag) = some false)
    (kit_BadSize_Nothing : PySem.W.kitOne K (.ref C_BadSize) (.ref C_Nothing) = some false)
    (kit_BadSize_VE : PySem.W.kitOne K (.ref C_BadSize) (.type "ValueError") = some true)
    (kit_BadText_BadHeap : PySem.W.kitOne K (.ref C_BadText) (.ref C_BadHeap) = some false)
    (kit_BadText_BadName : PySem.W.kitOne K (.ref C_BadText) (.ref C_BadName) = some false)
    (kit_BadText_BadPoint : PySem.W.kitOne K (.ref C_BadText) (.ref C_BadPoint) = some false)
    (kit_BadText_BadSize : PySem.W.kitOne K (.ref C_BadText) (.ref C_BadSize) = some false)
    (kit_BadText_BadText : PySem.W.kitOne K (.ref C_BadText) (.ref C_BadText) = some true)
    (kit_BadText_BadTag : PySem.W.kitOne K (.ref C_BadText) (.ref C_BadTag) = some false)
    (kit_BadText_Nothing : PySem.W.kitOne K (.ref C_BadText) (.ref C_Nothing) = some false)
    (kit_BadText_VE : PySem.W.kitOne K (.ref C_BadText) (.type "ValueError") = some true)
    (kit_BadTag_BadHeap : PySem.W.kitOne K (.ref C_BadTag) (.ref C_BadHeap) = some false)
    (kit_BadTag_BadName : PySem.W.kitOne K (.ref C_BadTag) (.ref C_BadName) = some false)
    (kit_BadTag_BadPoint : PySem.W.kitOne K (.ref C_BadTag) (.ref C_BadPoint) = some false)
    (kit_BadTag_BadSize : PySem.W.kitOne K (.ref C_BadTag) (.ref C_BadSize) = some false)
    (kit_BadTag_BadText : PySem.W.kitOne K (.ref C_BadTag) (.ref C_BadText) = some false)
    (kit_BadTag_BadTag : PySem.W.kitOne K (.ref C_BadTag) (.ref C_BadTag) = some true)
    (kit_BadTag_Nothing : PySem.W.kitOne K (.ref C_BadTag) (.ref C_Nothing) = some false)
    (kit_BadTag_VE : PySem.W.kitOne K (.ref C_BadTag) (.type "ValueError") = some true)
    (kit_Nothing_BadHeap : PySem.W.kitOne K (.ref C_Nothing) (.ref C_BadHeap) = some false)
    (kit_Nothing_BadName : PySem.W.kitOne K (.ref C_Nothing) (.ref C_BadName) = some false)
    (kit_Nothing_BadPoint : PySem.W.kitOne K (.ref C_Nothing) (.ref C_BadPoint) = some false)
    (kit_Nothing_BadSize : PySem.W.kitOne K (.ref C_Nothing) (.ref C_BadSize) = some false)
    (kit_Nothing_BadText : PySem.W.kitOne K (.ref C_Nothing) (.ref C_BadText) = some false)
    (kit_Nothing_BadTag : PySem.W.kitOne K (.ref C_Nothing) (.ref C_BadTag) = some false)
    (kit_Nothing_Nothing : PySem.W.kitOne K (.ref C_Nothing) (.ref C_Nothing) = some true)
    (kit_Nothing_VE : PySem.W.kitOne K (.ref C_Nothing) (.type "ValueError") = some true)
    (g_SMALL : PySem.W.nsIn K mainGlobals "SMALL" = some (some (.str "abcdefghijklmnopqrstuvwxyz" t_SMALL)))
    (g_MOST_WORD : PySem.W.nsIn K mainGlobals "MOST_WORD" = some (some (.int 6 t_MOST_WORD)))
    (g_MOST_SIDE : PySem.W.nsIn K mainGlobals "MOST_SIDE" = some (some (.int 4095 t_MOST_SIDE)))
    (g_MOST_SIZE : PySem.W.nsIn K mainGlobals "MOST_SIZE" = some (some (.int 13 t_MOST_SIZE)))
    (g_REACHES : PySem.W.nsIn K mainGlobals "REACHES" = some (some (.ref a_REACHES)))
    (l_REACHES : K.lookup a_REACHES = some ⟨.type "tuple", oc_REACHES, .seq #[Value.int 0 t0_REACHES, Value.int 1 t1_REACHES, Value.int 2 t2_REACHES, Value.int 4 t3_REACHES, Value.int 8 t4_REACHES, Value.int 16 t5_REACHES, Value.int 32 t6_REACHES, Value.int 64 t7_REACHES, Value.int 128 t8_REACHES, Value.int 256 t9_REACHES, Value.int 512 t10_REACHES, Value.int 1024 t11_REACHES, Value.int 2048 t12_REACHES, Value.int 4096 t13_REACHES] n_REACHES, sl_REACHES⟩)
    (g_MOST_MARKS : PySem.W.nsIn K mainGlobals "MOST_MARKS" = some (some (.int 60 t_MOST_MARKS)))
    (g_MOST_TAGS : PySem.W.nsIn K mainGlobals "MOST_TAGS" = some (some (.int 5 t_MOST_TAGS)))
    (n_ValueError : PySem.W.nsIn K mainGlobals "ValueError" = some none)
    (n_abs : PySem.W.nsIn K mainGlobals "abs" = some none)
    (n_all : PySem.W.nsIn K mainGlobals "all" = some none)
    (n_bool : PySem.W.nsIn K mainGlobals "bool" = some none)
    (n_dict : PySem.W.nsIn K mainGlobals "dict" = some none)
    (n_int : PySem.W.nsIn K mainGlobals "int" = some none)
    (n_isinstance : PySem.W.nsIn K mainGlobals "isinstance" = some none)
    (n_len : PySem.W.nsIn K mainGlobals "len" = some none)
    (n_list : PySem.W.nsIn K mainGlobals "list" = some none)
    (n_max : PySem.W.nsIn K mainGlobals "max" = some none)
    (n_min : PySem.W.nsIn K mainGlobals "min" = some none)
    (n_range : PySem.W.nsIn K mainGlobals "range" = some none)
    (n_sorted : PySem.W.nsIn K mainGlobals "sorted" = some none)
    (n_str : PySem.W.nsIn K mainGlobals "str" = some none)
    (n_sum : PySem.W.nsIn K mainGlobals "sum" = some none)
    (n_tuple : PySem.W.nsIn K mainGlobals "tuple" = some none)
    (a_is_count : PySem.W.nsIn K mainGlobals "is_count" = some (some (.ref f_is_count)))
    (l_is_count : K.lookup f_is_count = some ⟨oc_is_count, od_is_count, .func (PySem.W.fnOf "is_count" "is_count" (defArgs s_is_count) (defBody s_is_count) (defScope s_is_count) .none kV_is_count dc_is_count pm_is_count an_is_count cd_is_count ct_is_count), sl_is_count⟩)
    (c_is_count : PySem.W.codeIn K cd_is_count "is_count" = true)
    (k_is_count : PySem.W.keepIn K (.ref f_is_count) = true)
    (a_is_name : PySem.W.nsIn K mainGlobals "is_name" = some (some (.ref f_is_name)))
    (l_is_name : K.lookup f_is_name = some ⟨oc_is_name, od_is_name, .func (PySem.W.fnOf "is_name" "is_name" (defArgs s_is_name) (defBody s_is_name) (defScope s_is_name) .none kV_is_name dc_is_name pm_is_name an_is_name cd_is_name ct_is_name), sl_is_name⟩)
    (c_is_name : PySem.W.codeIn K cd_is_name "is_name" = true)
    (k_is_name : PySem.W.keepIn K (.ref f_is_name) = true)
    (a_need_name : PySem.W.nsIn K mainGlobals "need_name" = some (some (.ref f_need_name)))
    (l_need_name : K.lookup f_need_name = some ⟨oc_need_name, od_need_name, .func (PySem.W.fnOf "need_name" "need_name" (defArgs s_need_name) (defBody s_need_name) (defScope s_need_name) .none kV_need_name dc_need_name pm_need_name an_need_name cd_need_name ct_need_name), sl_need_name⟩)
    (c_need_name : PySem.W.codeIn K cd_need_name "need_name" = true)
    (k_need_name : PySem.W.keepIn K (.ref f_need_name) = true)
    (a_need_point : PySem.W.nsIn K mainGlobals "need_point" = some (some (.ref f_need_point)))
    (l_need_point : K.lookup f_need_point = some ⟨oc_need_point, od_need_point, .func (PySem.W.fnOf "need_point" "need_point" (defArgs s_need_point) (defBody s_need_point) (defScope s_need_point) .none kV_need_point dc_need_point pm_need_point an_need_point cd_need_point ct_need_point), sl_need_point⟩)
    (c_need_point : PySem.W.codeIn K cd_need_point "need_point" = true)
    (k_need_point : PySem.W.keepIn K (.ref f_need_point) = true)
    (a_need_size : PySem.W.nsIn K mainGlobals "need_size" = some (some (.ref f_need_size)))
    (l_need_size : K.lookup f_need_size = some ⟨oc_need_size, od_need_size, .func (PySem.W.fnOf "need_size" "need_size" (defArgs s_need_size) (defBody s_need_size) (defScope s_need_size) .none kV_need_size dc_need_size pm_need_size an_need_size cd_need_size ct_need_size), sl_need_size⟩)
    (c_need_size : PySem.W.codeIn K cd_need_size "need_size" = true)
    (k_need_size : PySem.W.keepIn K (.ref f_need_size) = true)
    (a_reach : PySem.W.nsIn K mainGlobals "reach" = some (some (.ref f_reach)))
    (l_reach : K.lookup f_reach = some ⟨oc_reach, od_reach, .func (PySem.W.fnOf "reach" "reach" (defArgs s_reach) (defBody s_reach) (defScope s_reach) .none kV_reach dc_reach pm_reach an_reach cd_reach ct_reach), sl_reach⟩)
    (c_reach : PySem.W.codeIn K cd_reach "reach" = true)
    (k_reach : PySem.W.keepIn K (.ref f_reach) = true)
    (a_apart : PySem.W.nsIn K mainGlobals "apart" = some (some (.ref f_apart)))
    (l_apart : K.lookup f_apart = some ⟨oc_apart, od_apart, .func (PySem.W.fnOf "apart" "apart" (defArgs s_apart) (defBody s_apart) (defScope s_apart) .none kV_apart dc_apart pm_apart an_apart cd_apart ct_apart), sl_apart⟩)
    (c_apart : PySem.W.codeIn K cd_apart "apart" = true)
    (k_apart : PySem.W.keepIn K (.ref f_apart) = true)
    (a_heaps_of : PySem.W.nsIn K mainGlobals "heaps_of" = some (some (.ref f_heaps_of)))
    (l_heaps_of : K.lookup f_heaps_of = some ⟨oc_heaps_of, od_heaps_of, .func (PySem.W.fnOf "heaps_of" "heaps_of" (defArgs s_heaps_of) (defBody s_heaps_of) (defScope s_heaps_of) .none kV_heaps_of dc_heaps_of pm_heaps_of an_heaps_of cd_heaps_of ct_heaps_of), sl_heaps_of⟩)
    (c_heaps_of : PySem.W.codeIn K cd_heaps_of "heaps_of" = true)
    (k_heaps_of : PySem.W.keepIn K (.ref f_heaps_of) = true)
    (a_Map___init__ : PySem.W.findIn K (.ref C_Map) "__init__" = some (some (.ref f_Map___init__)))
    (i_Map___init__ : PySem.W.isFn K (.ref f_Map___init__) = true)
    (l_Map___init__ : K.lookup f_Map___init__ = some ⟨oc_Map___init__, od_Map___init__, .func (PySem.W.fnOf "__init__" "Map.__init__" (defArgs s_Map___init__) (defBody s_Map___init__) (defScope s_Map___init__) .none kV_Map___init__ dc_Map___init__ pm_Map___init__ an_Map___init__ cd_Map___init__ ct_Map___init__), sl_Map___init__⟩)
    (c_Map___init__ : PySem.W.codeIn K cd_Map___init__ "Map.__init__" = true)
    (k_Map___init__ : PySem.W.keepIn K (.ref f_Map___init__) = true)
    (a_Map_marks : PySem.W.findIn K (.ref C_Map) "marks" = some (some (.ref f_Map_marks)))
    (i_Map_marks : PySem.W.isFn K (.ref f_Map_marks) = true)
    (l_Map_marks : K.lookup f_Map_marks = some ⟨oc_Map_marks, od_Map_marks, .func (PySem.W.fnOf "marks" "Map.marks" (defArgs s_Map_marks) (defBody s_Map_marks) (defScope s_Map_marks) .none kV_Map_marks dc_Map_marks pm_Map_marks an_Map_marks cd_Map_marks ct_Map_marks), sl_Map_marks⟩)
    (c_Map_marks : PySem.W.codeIn K cd_Map_marks "Map.marks" = true)
    (k_Map_marks : PySem.W.keepIn K (.ref f_Map_marks) = true)
    (a_Map_point : PySem.W.findIn K (.ref C_Map) "point" = some (some (.ref f_Map_point)))
    (i_Map_point : PySem.W.isFn K (.ref f_Map_point) = true)
    (l_Map_point : K.lookup f_Map_point = some ⟨oc_Map_point, od_Map_point, .func (PySem.W.fnOf "point" "Map.point" (defArgs s_Map_point) (defBody s_Map_point) (defScope s_Map_point) .none kV_Map_point dc_Map_point pm_Map_point an_Map_point cd_Map_point ct_Map_point), sl_Map_point⟩)
    (c_Map_point : PySem.W.codeIn K cd_Map_point "Map.point" = true)
    (k_Map_point : PySem.W.keepIn K (.ref f_Map_point) = true)
    (a_Map_put : PySem.W.findIn K (.ref C_Map) "put" = some (some (.ref f_Map_put)))
    (i_Map_put : PySem.W.isFn K (.ref f_Map_put) = true)
    (l_Map_put : K.lookup f_Map_put = some ⟨oc_Map_put, od_Map_put, .func (PySem.W.fnOf "put" "Map.put" (defArgs s_Map_put) (defBody s_Map_put) (defScope s_Map_put) .none kV_Map_put dc_Map_put pm_Map_put an_Map_put cd_Map_put ct_Map_put), sl_Map_put⟩)
    (c_Map_put : PySem.W.codeIn K cd_Map_put "Map.put" = true)
    (k_Map_put : PySem.W.keepIn K (.ref f_Map_put) = true)
    (a_Map_join : PySem.W.findIn K (.ref C_Map) "join" = some (some (.ref f_Map_join)))
    (i_Map_join : PySem.W.isFn K (.ref f_Map_join) = true)
    (l_Map_join : K.lookup f_Map_join = some ⟨oc_Map_join, od_Map_join, .func (PySem.W.fnOf "join" "Map.join" (defArgs s_Map_join) (defBody s_Map_join) (defScope s_Map_join) .none kV_Map_join dc_Map_join pm_Map_join an_Map_join cd_Map_join ct_Map_join), sl_Map_join⟩)
    (c_Map_join : PySem.W.codeIn K cd_Map_join "Map.join" = true)
    (k_Map_join : PySem.W.keepIn K (.ref f_Map_join) = true)
    (a_Map_drop : PySem.W.findIn K (.ref C_Map) "drop" = some (some (.ref f_Map_drop)))
    (i_Map_drop : PySem.W.isFn K (.ref f_Map_drop) = true)
    (l_Map_drop : K.lookup f_Map_drop = some ⟨oc_Map_drop, od_Map_drop, .func (PySem.W.fnOf "drop" "Map.drop" (defArgs s_Map_drop) (defBody s_Map_drop) (defScope s_Map_drop) .none kV_Map_drop dc_Map_drop pm_Map_drop an_Map_drop cd_Map_drop ct_Map_drop), sl_Map_drop⟩)
    (c_Map_drop : PySem.W.codeIn K cd_Map_drop "Map.drop" = true)
    (k_Map_drop : PySem.W.keepIn K (.ref f_Map_drop) = true)
    (a_Map_move : PySem.W.findIn K (.ref C_Map) "move" = some (some (.ref f_Map_move)))
    (i_Map_move : PySem.W.isFn K (.ref f_Map_move) = true)
    (l_Map_move : K.lookup f_Map_move = some ⟨oc_Map_move, od_Map_move, .func (PySem.W.fnOf "move" "Map.move" (defArgs s_Map_move) (defBody s_Map_move) (defScope s_Map_move) .none kV_Map_move dc_Map_move pm_Map_move an_Map_move cd_Map_move ct_Map_move), sl_Map_move⟩)
    (c_Map_move : PySem.W.codeIn K cd_Map_move "Map.move" = true)
    (k_Map_move : PySem.W.keepIn K (.ref f_Map_move) = true)
    (a_Map_names_at : PySem.W.findIn K (.ref C_Map) "names_at" = some (some (.ref f_Map_names_at)))
    (i_Map_names_at : PySem.W.isFn K (.ref f_Map_names_at) = true)
    (l_Map_names_at : K.lookup f_Map_names_at = some ⟨oc_Map_names_at, od_Map_names_at, .func (PySem.W.fnOf "names_at" "Map.names_at" (defArgs s_Map_names_at) (defBody s_Map_names_at) (defScope s_Map_names_at) .none kV_Map_names_at dc_Map_names_at pm_Map_names_at an_Map_names_at cd_Map_names_at ct_Map_names_at), sl_Map_names_at⟩)
    (c_Map_names_at : PySem.W.codeIn K cd_Map_names_at "Map.names_at" = true)
    (k_Map_names_at : PySem.W.keepIn K (.ref f_Map_names_at) = true)
    (a_Map_heap_of : PySem.W.findIn K (.ref C_Map) "heap_of" = some (some (.ref f_Map_heap_of)))
    (i_Map_heap_of : PySem.W.isFn K (.ref f_Map_heap_of) = true)
    (l_Map_heap_of : K.lookup f_Map_heap_of = some ⟨oc_Map_heap_of, od_Map_heap_of, .func (PySem.W.fnOf "heap_of" "Map.heap_of" (defArgs s_Map_heap_of) (defBody s_Map_heap_of) (defScope s_Map_heap_of) .none kV_Map_heap_of dc_Map_heap_of pm_Map_heap_of an_Map_heap_of cd_Map_heap_of ct_Map_heap_of), sl_Map_heap_of⟩)
    (c_Map_heap_of : PySem.W.codeIn K cd_Map_heap_of "Map.heap_of" = true)
    (k_Map_heap_of : PySem.W.keepIn K (.ref f_Map_heap_of) = true)
    (a_Map_names : PySem.W.findIn K (.ref C_Map) "names" = some (some (.ref f_Map_names)))
    (i_Map_names : PySem.W.isFn K (.ref f_Map_names) = true)
    (l_Map_names : K.lookup f_Map_names = some ⟨oc_Map_names, od_Map_names, .func (PySem.W.fnOf "names" "Map.names" (defArgs s_Map_names) (defBody s_Map_names) (defScope s_Map_names) .none kV_Map_names dc_Map_names pm_Map_names an_Map_names cd_Map_names ct_Map_names), sl_Map_names⟩)
    (c_Map_names : PySem.W.codeIn K cd_Map_names "Map.names" = true)
    (k_Map_names : PySem.W.keepIn K (.ref f_Map_names) = true)
    (a_need_box : PySem.W.nsIn K mainGlobals "need_box" = some (some (.ref f_need_box)))
    (l_need_box : K.lookup f_need_box = some ⟨oc_need_box, od_need_box, .func (PySem.W.fnOf "need_box" "need_box" (defArgs s_need_box) (defBody s_need_box) (defScope s_need_box) .none kV_need_box dc_need_box pm_need_box an_need_box cd_need_box ct_need_box), sl_need_box⟩)
    (c_need_box : PySem.W.codeIn K cd_need_box "need_box" = true)
    (k_need_box : PySem.W.keepIn K (.ref f_need_box) = true)
    (a_is_in : PySem.W.nsIn K mainGlobals "is_in" = some (some (.ref f_is_in)))
    (l_is_in : K.lookup f_is_in = some ⟨oc_is_in, od_is_in, .func (PySem.W.fnOf "is_in" "is_in" (defArgs s_is_in) (defBody s_is_in) (defScope s_is_in) .none kV_is_in dc_is_in pm_is_in an_is_in cd_is_in ct_is_in), sl_is_in⟩)
    (c_is_in : PySem.W.codeIn K cd_is_in "is_in" = true)
    (k_is_in : PySem.W.keepIn K (.ref f_is_in) = true)
    (a_Desk___init__ : PySem.W.findIn K (.ref C_Desk) "__init__" = some (some (.ref f_Desk___init__)))
    (i_Desk___init__ : PySem.W.isFn K (.ref f_Desk___init__) = true)
    (l_Desk___init__ : K.lookup f_Desk___init__ = some ⟨oc_Desk___init__, od_Desk___init__, .func (PySem.W.fnOf "__init__" "Desk.__init__" (defArgs s_Desk___init__) (defBody s_Desk___init__) (defScope s_Desk___init__) .none kV_Desk___init__ dc_Desk___init__ pm_Desk___init__ an_Desk___init__ cd_Desk___init__ ct_Desk___init__), sl_Desk___init__⟩)
    (c_Desk___init__ : PySem.W.codeIn K cd_Desk___init__ "Desk.__init__" = true)
    (k_Desk___init__ : PySem.W.keepIn K (.ref f_Desk___init__) = true)
    (a_Desk_stand : PySem.W.findIn K (.ref C_Desk) "stand" = some (some (.ref f_Desk_stand)))
    (i_Desk_stand : PySem.W.isFn K (.ref f_Desk_stand) = true)
    (l_Desk_stand : K.lookup f_Desk_stand = some ⟨oc_Desk_stand, od_Desk_stand, .func (PySem.W.fnOf "stand" "Desk.stand" (defArgs s_Desk_stand) (defBody s_Desk_stand) (defScope s_Desk_stand) .none kV_Desk_stand dc_Desk_stand pm_Desk_stand an_Desk_stand cd_Desk_stand ct_Desk_stand), sl_Desk_stand⟩)
    (c_Desk_stand : PySem.W.codeIn K cd_Desk_stand "Desk.stand" = true)
    (k_Desk_stand : PySem.W.keepIn K (.ref f_Desk_stand) = true)
    (a_Desk_to : PySem.W.findIn K (.ref C_Desk) "to" = some (some (.ref f_Desk_to)))
    (i_Desk_to : PySem.W.isFn K (.ref f_Desk_to) = true)
    (l_Desk_to : K.lookup f_Desk_to = some ⟨oc_Desk_to, od_Desk_to, .func (PySem.W.fnOf "to" "Desk.to" (defArgs s_Desk_to) (defBody s_Desk_to) (defScope s_Desk_to) .none kV_Desk_to dc_Desk_to pm_Desk_to an_Desk_to cd_Desk_to ct_Desk_to), sl_Desk_to⟩)
    (c_Desk_to : PySem.W.codeIn K cd_Desk_to "Desk.to" = true)
    (k_Desk_to : PySem.W.keepIn K (.ref f_Desk_to) = true)
    (a_Desk_keep : PySem.W.findIn K (.ref C_Desk) "keep" = some (some (.ref f_Desk_keep)))
    (i_Desk_keep : PySem.W.isFn K (.ref f_Desk_keep) = true)
    (l_Desk_keep : K.lookup f_Desk_keep = some ⟨oc_Desk_keep, od_Desk_keep, .func (PySem.W.fnOf "keep" "Desk.keep" (defArgs s_Desk_keep) (defBody s_Desk_keep) (defScope s_Desk_keep) .none kV_Desk_keep dc_Desk_keep pm_Desk_keep an_Desk_keep cd_Desk_keep ct_Desk_keep), sl_Desk_keep⟩)
    (c_Desk_keep : PySem.W.codeIn K cd_Desk_keep "Desk.keep" = true)
    (k_Desk_keep : PySem.W.keepIn K (.ref f_Desk_keep) = true)
    (a_Desk_put : PySem.W.findIn K (.ref C_Desk) "put" = some (some (.ref f_Desk_put)))
    (i_Desk_put : PySem.W.isFn K (.ref f_Desk_put) = true)
    (l_Desk_put : K.lookup f_Desk_put = some ⟨oc_Desk_put, od_Desk_put, .func (PySem.W.fnOf "put" "Desk.put" (defArgs s_Desk_put) (defBody s_Desk_put) (defScope s_Desk_put) .none kV_Desk_put dc_Desk_put pm_Desk_put an_Desk_put cd_Desk_put ct_Desk_put), sl_Desk_put⟩)
    (c_Desk_put : PySem.W.codeIn K cd_Desk_put "Desk.put" = true)
    (k_Desk_put : PySem.W.keepIn K (.ref f_Desk_put) = true)
    (a_Desk_drop : PySem.W.findIn K (.ref C_Desk) "drop" = some (some (.ref f_Desk_drop)))
    (i_Desk_drop : PySem.W.isFn K (.ref f_Desk_drop) = true)
    (l_Desk_drop : K.lookup f_Desk_drop = some ⟨oc_Desk_drop, od_Desk_drop, .func (PySem.W.fnOf "drop" "Desk.drop" (defArgs s_Desk_drop) (defBody s_Desk_drop) (defScope s_Desk_drop) .none kV_Desk_drop dc_Desk_drop pm_Desk_drop an_Desk_drop cd_Desk_drop ct_Desk_drop), sl_Desk_drop⟩)
    (c_Desk_drop : PySem.W.codeIn K cd_Desk_drop "Desk.drop" = true)
    (k_Desk_drop : PySem.W.keepIn K (.ref f_Desk_drop) = true)
    (a_Desk_move : PySem.W.findIn K (.ref C_Desk) "move" = some (some (.ref f_Desk_move)))
    (i_Desk_move : PySem.W.isFn K (.ref f_Desk_move) = true)
    (l_Desk_move : K.lookup f_Desk_move = some ⟨oc_Desk_move, od_Desk_move, .func (PySem.W.fnOf "move" "Desk.move" (defArgs s_Desk_move) (defBody s_Desk_move) (defScope s_Desk_move) .none kV_Desk_move dc_Desk_move pm_Desk_move an_Desk_move cd_Desk_move ct_Desk_move), sl_Desk_move⟩)
    (c_Desk_move : PySem.W.codeIn K cd_Desk_move "Desk.move" = true)
    (k_Desk_move : PySem.W.keepIn K (.ref f_Desk_move) = true)
    (a_Desk_tag : PySem.W.findIn K (.ref C_Desk) "tag" = some (some (.ref f_Desk_tag)))
    (i_Desk_tag : PySem.W.isFn K (.ref f_Desk_tag) = true)
    (l_Desk_tag : K.lookup f_Desk_tag = some ⟨oc_Desk_tag, od_Desk_tag, .func (PySem.W.fnOf "tag" "Desk.tag" (defArgs s_Desk_tag) (defBody s_Desk_tag) (defScope s_Desk_tag) .none kV_Desk_tag dc_Desk_tag pm_Desk_tag an_Desk_tag cd_Desk_tag ct_Desk_tag), sl_Desk_tag⟩)
    (c_Desk_tag : PySem.W.codeIn K cd_Desk_tag "Desk.tag" = true)
    (k_Desk_tag : PySem.W.keepIn K (.ref f_Desk_tag) = true)
    (a_Desk_untag : PySem.W.findIn K (.ref C_Desk) "untag" = some (some (.ref f_Desk_untag)))
    (i_Desk_untag : PySem.W.isFn K (.ref f_Desk_untag) = true)
    (l_Desk_untag : K.lookup f_Desk_untag = some ⟨oc_Desk_untag, od_Desk_untag, .func (PySem.W.fnOf "untag" "Desk.untag" (defArgs s_Desk_untag) (defBody s_Desk_untag) (defScope s_Desk_untag) .none kV_Desk_untag dc_Desk_untag pm_Desk_untag an_Desk_untag cd_Desk_untag ct_Desk_untag), sl_Desk_untag⟩)
    (c_Desk_untag : PySem.W.codeIn K cd_Desk_untag "Desk.untag" = true)
    (k_Desk_untag : PySem.W.keepIn K (.ref f_Desk_untag) = true)
    (a_Desk_undo : PySem.W.findIn K (.ref C_Desk) "undo" = some (some (.ref f_Desk_undo)))
    (i_Desk_undo : PySem.W.isFn K (.ref f_Desk_undo) = true)
    (l_Desk_undo : K.lookup f_Desk_undo = some ⟨oc_Desk_undo, od_Desk_undo, .func (PySem.W.fnOf "undo" "Desk.undo" (defArgs s_Desk_undo) (defBody s_Desk_undo) (defScope s_Desk_undo) .none kV_Desk_undo dc_Desk_undo pm_Desk_undo an_Desk_undo cd_Desk_undo ct_Desk_undo), sl_Desk_undo⟩)
    (c_Desk_undo : PySem.W.codeIn K cd_Desk_undo "Desk.undo" = true)
    (k_Desk_undo : PySem.W.keepIn K (.ref f_Desk_undo) = true)
    (a_Desk_redo : PySem.W.findIn K (.ref C_Desk) "redo" = some (some (.ref f_Desk_redo)))
    (i_Desk_redo : PySem.W.isFn K (.ref f_Desk_redo) = true)
    (l_Desk_redo : K.lookup f_Desk_redo = some ⟨oc_Desk_redo, od_Desk_redo, .func (PySem.W.fnOf "redo" "Desk.redo" (defArgs s_Desk_redo) (defBody s_Desk_redo) (defScope s_Desk_redo) .none kV_Desk_redo dc_Desk_redo pm_Desk_redo an_Desk_redo cd_Desk_redo ct_Desk_redo), sl_Desk_redo⟩)
    (c_Desk_redo : PySem.W.codeIn K cd_Desk_redo "Desk.redo" = true)
    (k_Desk_redo : PySem.W.keepIn K (.ref f_Desk_redo) = true)
    (a_Desk_chart : PySem.W.findIn K (.ref C_Desk) "chart" = some (some (.ref f_Desk_chart)))
    (i_Desk_chart : PySem.W.isFn K (.ref f_Desk_chart) = true)
    (l_Desk_chart : K.lookup f_Desk_chart = some ⟨oc_Desk_chart, od_Desk_chart, .func (PySem.W.fnOf "chart" "Desk.chart" (defArgs s_Desk_chart) (defBody s_Desk_chart) (defScope s_Desk_chart) .none kV_Desk_chart dc_Desk_chart pm_Desk_chart an_Desk_chart cd_Desk_chart ct_Desk_chart), sl_Desk_chart⟩)
    (c_Desk_chart : PySem.W.codeIn K cd_Desk_chart "Desk.chart" = true)
    (k_Desk_chart : PySem.W.keepIn K (.ref f_Desk_chart) = true)
    (a_Desk_tags : PySem.W.findIn K (.ref C_Desk) "tags" = some (some (.ref f_Desk_tags)))
    (i_Desk_tags : PySem.W.isFn K (.ref f_Desk_tags) = true)
    (l_Desk_tags : K.lookup f_Desk_tags = some ⟨oc_Desk_tags, od_Desk_tags, .func (PySem.W.fnOf "tags" "Desk.tags" (defArgs s_Desk_tags) (defBody s_Desk_tags) (defScope s_Desk_tags) .none kV_Desk_tags dc_Desk_tags pm_Desk_tags an_Desk_tags cd_Desk_tags ct_Desk_tags), sl_Desk_tags⟩)
    (c_Desk_tags : PySem.W.codeIn K cd_Desk_tags "Desk.tags" = true)
    (k_Desk_tags : PySem.W.keepIn K (.ref f_Desk_tags) = true)
    (a_Desk_tagged : PySem.W.findIn K (.ref C_Desk) "tagged" = some (some (.ref f_Desk_tagged)))
    (i_Desk_tagged : PySem.W.isFn K (.ref f_Desk_tagged) = true)
    (l_Desk_tagged : K.lookup f_Desk_tagged = some ⟨oc_Desk_tagged, od_Desk_tagged, .func (PySem.W.fnOf "tagged" "Desk.tagged" (defArgs s_Desk_tagged) (defBody s_Desk_tagged) (defScope s_Desk_tagged) .none kV_Desk_tagged dc_Desk_tagged pm_Desk_tagged an_Desk_tagged cd_Desk_tagged ct_Desk_tagged), sl_Desk_tagged⟩)
    (c_Desk_tagged : PySem.W.codeIn K cd_Desk_tagged "Desk.tagged" = true)
    (k_Desk_tagged : PySem.W.keepIn K (.ref f_Desk_tagged) = true)
    (a_Desk_sought : PySem.W.findIn K (.ref C_Desk) "sought" = some (some (.ref f_Desk_sought)))
    (i_Desk_sought : PySem.W.isFn K (.ref f_Desk_sought) = true)
    (l_Desk_sought : K.lookup f_Desk_sought = some ⟨oc_Desk_sought, od_Desk_sought, .func (PySem.W.fnOf "sought" "Desk.sought" (defArgs s_Desk_sought) (defBody s_Desk_sought) (defScope s_Desk_sought) .none kV_Desk_sought dc_Desk_sought pm_Desk_sought an_Desk_sought cd_Desk_sought ct_Desk_sought), sl_Desk_sought⟩)
    (c_Desk_sought : PySem.W.codeIn K cd_Desk_sought "Desk.sought" = true)
    (k_Desk_sought : PySem.W.keepIn K (.ref f_Desk_sought) = true)
    (a_Desk_told_of : PySem.W.findIn K (.ref C_Desk) "told_of" = some (some (.ref f_Desk_told_of)))
    (i_Desk_told_of : PySem.W.isFn K (.ref f_Desk_told_of) = true)
    (l_Desk_told_of : K.lookup f_Desk_told_of = some ⟨oc_Desk_told_of, od_Desk_told_of, .func (PySem.W.fnOf "told_of" "Desk.told_of" (defArgs s_Desk_told_of) (defBody s_Desk_told_of) (defScope s_Desk_told_of) .none kV_Desk_told_of dc_Desk_told_of pm_Desk_told_of an_Desk_told_of cd_Desk_told_of ct_Desk_told_of), sl_Desk_told_of⟩)
    (c_Desk_told_of : PySem.W.codeIn K cd_Desk_told_of "Desk.told_of" = true)
    (k_Desk_told_of : PySem.W.keepIn K (.ref f_Desk_told_of) = true)
    (a_law_cell : PySem.W.nsIn K mainGlobals "_law_cell" = some (some (.ref f_law_cell)))
    (l_law_cell : K.lookup f_law_cell = some ⟨oc_law_cell, od_law_cell, .func (PySem.W.fnOf "_law_cell" "_law_cell" (defArgs s_law_cell) (defBody s_law_cell) (defScope s_law_cell) .none kV_law_cell dc_law_cell pm_law_cell an_law_cell cd_law_cell ct_law_cell), sl_law_cell⟩)
    (c_law_cell : PySem.W.codeIn K cd_law_cell "_law_cell" = true)
    (k_law_cell : PySem.W.keepIn K (.ref f_law_cell) = true)
    (a_law_drawn : PySem.W.nsIn K mainGlobals "_law_drawn" = some (some (.ref f_law_drawn)))
    (l_law_drawn : K.lookup f_law_drawn = some ⟨oc_law_drawn, od_law_drawn, .func (PySem.W.fnOf "_law_drawn" "_law_drawn" (defArgs s_law_drawn) (defBody s_law_drawn) (defScope s_law_drawn) .none kV_law_drawn dc_law_drawn pm_law_drawn an_law_drawn cd_law_drawn ct_law_drawn), sl_law_drawn⟩)
    (c_law_drawn : PySem.W.codeIn K cd_law_drawn "_law_drawn" = true)
    (k_law_drawn : PySem.W.keepIn K (.ref f_law_drawn) = true)
    (a_law_word : PySem.W.nsIn K mainGlobals "_law_word" = some (some (.ref f_law_word)))
    (l_law_word : K.lookup f_law_word = some ⟨oc_law_word, od_law_word, .func (PySem.W.fnOf "_law_word" "_law_word" (defArgs s_law_word) (defBody s_law_word) (defScope s_law_word) .none kV_law_word dc_law_word pm_law_word an_law_word cd_law_word ct_law_word), sl_law_word⟩)
    (c_law_word : PySem.W.codeIn K cd_law_word "_law_word" = true)
    (k_law_word : PySem.W.keepIn K (.ref f_law_word) = true)
    (a_law_told : PySem.W.nsIn K mainGlobals "_law_told" = some (some (.ref f_law_told)))
    (l_law_told : K.lookup f_law_told = some ⟨oc_law_told, od_law_told, .func (PySem.W.fnOf "_law_told" "_law_told" (defArgs s_law_told) (defBody s_law_told) (defScope s_law_told) .none kV_law_told dc_law_told pm_law_told an_law_told cd_law_told ct_law_told), sl_law_told⟩)
    (c_law_told : PySem.W.codeIn K cd_law_told "_law_told" = true)
    (k_law_told : PySem.W.keepIn K (.ref f_law_told) = true)
    (a_law_point : PySem.W.nsIn K mainGlobals "_law_point" = some (some (.ref f_law_point)))
    (l_law_point : K.lookup f_law_point = some ⟨oc_law_point, od_law_point, .func (PySem.W.fnOf "_law_point" "_law_point" (defArgs s_law_point) (defBody s_law_point) (defScope s_law_point) .none kV_law_point dc_law_point pm_law_point an_law_point cd_law_point ct_law_point), sl_law_point⟩)
    (c_law_point : PySem.W.codeIn K cd_law_point "_law_point" = true)
    (k_law_point : PySem.W.keepIn K (.ref f_law_point) = true)
    (a_law_name : PySem.W.nsIn K mainGlobals "_law_name" = some (some (.ref f_law_name)))
    (l_law_name : K.lookup f_law_name = some ⟨oc_law_name, od_law_name, .func (PySem.W.fnOf "_law_name" "_law_name" (defArgs s_law_name) (defBody s_law_name) (defScope s_law_name) .none kV_law_name dc_law_name pm_law_name an_law_name cd_law_name ct_law_name), sl_law_name⟩)
    (c_law_name : PySem.W.codeIn K cd_law_name "_law_name" = true)
    (k_law_name : PySem.W.keepIn K (.ref f_law_name) = true)
    (a_law_stand : PySem.W.nsIn K mainGlobals "_law_stand" = some (some (.ref f_law_stand)))
    (l_law_stand : K.lookup f_law_stand = some ⟨oc_law_stand, od_law_stand, .func (PySem.W.fnOf "_law_stand" "_law_stand" (defArgs s_law_stand) (defBody s_law_stand) (defScope s_law_stand) .none kV_law_stand dc_law_stand pm_law_stand an_law_stand cd_law_stand ct_law_stand), sl_law_stand⟩)
    (c_law_stand : PySem.W.codeIn K cd_law_stand "_law_stand" = true)
    (k_law_stand : PySem.W.keepIn K (.ref f_law_stand) = true)
    (a_law_any : PySem.W.nsIn K mainGlobals "_law_any" = some (some (.ref f_law_any)))
    (l_law_any : K.lookup f_law_any = some ⟨oc_law_any, od_law_any, .func (PySem.W.fnOf "_law_any" "_law_any" (defArgs s_law_any) (defBody s_law_any) (defScope s_law_any) .none kV_law_any dc_law_any pm_law_any an_law_any (.ref co_law_any) ct_law_any), sl_law_any⟩)
    (c_law_any : PySem.W.codeIn K (.ref co_law_any) "_law_any" = true)
    (k_law_any : PySem.W.keepIn K (.ref f_law_any) = true)
    (a_law_refusals : PySem.W.nsIn K mainGlobals "_law_refusals" = some (some (.ref f_law_refusals)))
    (l_law_refusals : K.lookup f_law_refusals = some ⟨oc_law_refusals, od_law_refusals, .func (PySem.W.fnOf "_law_refusals" "_law_refusals" (defArgs s_law_refusals) (defBody s_law_refusals) (defScope s_law_refusals) .none kV_law_refusals dc_law_refusals pm_law_refusals an_law_refusals (.ref co_law_refusals) ct_law_refusals), sl_law_refusals⟩)
    (c_law_refusals : PySem.W.codeIn K (.ref co_law_refusals) "_law_refusals" = true)
    (k_law_refusals : PySem.W.keepIn K (.ref f_law_refusals) = true)
    (a_law : PySem.W.nsIn K mainGlobals "law" = some (some (.ref f_law)))
    (l_law : K.lookup f_law = some ⟨oc_law, od_law, .func (PySem.W.fnOf "law" "law" (defArgs s_law) (defBody s_law) (defScope s_law) .none kV_law dc_law pm_law an_law (.ref co_law) ct_law), sl_law⟩)
    (c_law : PySem.W.codeIn K (.ref co_law) "law" = true)
    (k_law : PySem.W.keepIn K (.ref f_law) = true)
    (a_Map : PySem.W.nsIn K mainGlobals "Map" = some (some (.ref C_Map)))
    (pg_Map : PySem.W.plainGet K C_Map Str.empty = true)
    (hd_Map : PySem.W.hasDictIn K C_Map = true)
    (po_Map : PySem.W.plainOver K C_Map = true)
    (sa_Map : PySem.W.findIn K (.ref C_Map) "__setattr__" = some (some (.builtin "object.__setattr__")))
    (mk_Map : PySem.W.makesIn K C_Map = true)
    (kc_Map : PySem.W.keepIn K (.ref C_Map) = true)
    (nA_Map_points : PySem.W.findIn K (.ref C_Map) "points" = some none)
    (nA_Map_heads : PySem.W.findIn K (.ref C_Map) "heads" = some none)
    (a_Desk : PySem.W.nsIn K mainGlobals "Desk" = some (some (.ref C_Desk)))
    (pg_Desk : PySem.W.plainGet K C_Desk Str.empty = true)
    (hd_Desk : PySem.W.hasDictIn K C_Desk = true)
    (po_Desk : PySem.W.plainOver K C_Desk = true)
    (sa_Desk : PySem.W.findIn K (.ref C_Desk) "__setattr__" = some (some (.builtin "object.__setattr__")))
    (mk_Desk : PySem.W.makesIn K C_Desk = true)
    (kc_Desk : PySem.W.keepIn K (.ref C_Desk) = true)
    (nA_Desk_here : PySem.W.findIn K (.ref C_Desk) "here" = some none)
    (nA_Desk_tags_of : PySem.W.findIn K (.ref C_Desk) "tags_of" = some none)
    (nA_Desk_past : PySem.W.findIn K (.ref C_Desk) "past" = some none)
    (nA_Desk_ahead : PySem.W.findIn K (.ref C_Desk) "ahead" = some none)
    (lo_law_any : K.lookup co_law_any = some ⟨.type "code", odc_law_any, .fields vsc_law_any, slc_law_any⟩)
    (lo_law_refusals : K.lookup co_law_refusals = some ⟨.type "code", odc_law_refusals, .fields vsc_law_refusals, slc_law_refusals⟩)
    (lo_law : K.lookup co_law = some ⟨.type "code", odc_law, .fields vsc_law, slc_law⟩)
    (tv_law_any : vsc_law_any[11]? = some (Value.ref tb_law_any))
    (tv_law_refusals : vsc_law_refusals[11]? = some (Value.ref tb_law_refusals))
    (tv_law : vsc_law[11]? = some (Value.ref tb_law))
    (th_law_any : codeHdV vsc_law_any co_law_any tb_law_any = true)
    (th_law_refusals : codeHdV vsc_law_refusals co_law_refusals tb_law_refusals = true)
    (th_law : codeHdV vsc_law co_law tb_law = true)
    (tn_law_any : K.lookup tb_law_any = none)
    (tn_law_refusals : K.lookup tb_law_refusals = none)
    (tn_law : K.lookup tb_law = none)
    (te_law_any : h.get? tb_law_any = some (PySem.W.tabObj #[]))
    (te_law_refusals : h.get? tb_law_refusals = some (PySem.W.tabObj #[]))
    (te_law : h.get? tb_law = some (PySem.W.tabObj #[]))
    (tbne_law_any_law_refusals : tb_law_any ≠ tb_law_refusals)
    (tbne_law_any_law : tb_law_any ≠ tb_law)
    (tbne_law_refusals_law_any : tb_law_refusals ≠ tb_law_any)
    (tbne_law_refusals_law : tb_law_refusals ≠ tb_law)
    (tbne_law_law_any : tb_law ≠ tb_law_any)
    (tbne_law_law_refusals : tb_law ≠ tb_law_refusals)
    : LamX.LawAtS l w K CX0 13 63 "script" mg fa h := by
  have e := hfa.symm.trans (PySem.W.mg_of X G a_law)
  have e' : fa = f_law := by cases e; rfl
  rw [e']
  have F_is_count := fun_mk (st := s_is_count) l_is_count c_is_count k_is_count
  have b_is_count := F_is_count.binds (ps := ["thing", "low", "high"]) fun _ _ _ _ _ _ us hl => match us, hl with | [_, _, _], _ => rfl
  have F_is_name := fun_mk (st := s_is_name) l_is_name c_is_name k_is_name
  have b_is_name := F_is_name.binds (ps := ["thing"]) fun _ _ _ _ _ _ us hl => match us, hl with | [_], _ => rfl
  have F_need_name := fun_mk (st := s_need_name) l_need_name c_need_name k_need_name
  have b_need_name := F_need_name.binds (ps := ["thing"]) fun _ _ _ _ _ _ us hl => match us, hl with | [_], _ => rfl
  have F_need_point := fun_mk (st := s_need_point) l_need_point c_need_point k_need_point
  have b_need_point := F_need_point.binds (ps := ["thing"]) fun _ _ _ _ _ _ us hl => match us, hl with | [_], _ => rfl
  have F_need_size := fun_mk (st := s_need_size) l_need_size c_need_size k_need_size
  have b_need_size := F_need_size.binds (ps := ["thing"]) fun _ _ _ _ _ _ us hl => match us, hl with | [_], _ => rfl
  have F_reach := fun_mk (st := s_reach) l_reach c_reach k_reach
  have b_reach := F_reach.binds (ps := ["size"]) fun _ _ _ _ _ _ us hl => match us, hl with | [_], _ => rfl
  have F_apart := fun_mk (st := s_apart) l_apart c_apart k_apart
  have b_apart := F_apart.binds (ps := ["one", "other"]) fun _ _ _ _ _ _ us hl => match us, hl with | [_, _], _ => rfl
  have F_heaps_of := fun_mk (st := s_heaps_of) l_heaps_of c_heaps_of k_heaps_of
  have b_heaps_of := F_heaps_of.binds (ps := ["points", "size"]) fun _ _ _ _ _ _ us hl => match us, hl with | [_, _], _ => rfl
  have F_Map___init__ := fun_mk (st := s_Map___init__) l_Map___init__ c_Map___init__ k_Map___init__
  have b_Map___init__ := F_Map___init__.binds (ps := ["self"]) fun _ _ _ _ _ _ us hl => match us, hl with | [_], _ => rfl
  have F_Map_marks := fun_mk (st := s_Map_marks) l_Map_marks c_Map_marks k_Map_marks
  have b_Map_marks := F_Map_marks.binds (ps := ["self"]) fun _ _ _ _ _ _ us hl => match us, hl with | [_], _ => rfl
  have F_Map_point := fun_mk (st := s_Map_point) l_Map_point c_Map_point k_Map_point
  have b_Map_point := F_Map_point.binds (ps := ["self", "name"]) fun _ _ _ _ _ _ us hl => match us, hl with | [_, _], _ => rfl
  have F_Map_put := fun_mk (st := s_Map_put) l_Map_put c_Map_put k_Map_put
  have b_Map_put := F_Map_put.binds (ps := ["self", "name", "point"]) fun _ _ _ _ _ _ us hl => match us, hl with | [_, _, _], _ => rfl
  have F_Map_join := fun_mk (st := s_Map_join) l_Map_join c_Map_join k_Map_join
  have b_Map_join := F_Map_join.binds (ps := ["self", "name", "size"]) fun _ _ _ _ _ _ us hl => match us, hl with | [_, _, _], _ => rfl
  have F_Map_drop := fun_mk (st := s_Map_drop) l_Map_drop c_Map_drop k_Map_drop
  have b_Map_drop := F_Map_drop.binds (ps := ["self", "name"]) fun _ _ _ _ _ _ us hl => match us, hl with | [_, _], _ => rfl
  have F_Map_move := fun_mk (st := s_Map_move) l_Map_move c_Map_move k_Map_move
  have b_Map_move := F_Map_move.binds (ps := ["self", "name", "point"]) fun _ _ _ _ _ _ us hl => match us, hl with | [_, _, _], _ => rfl
  have F_Map_names_at := fun_mk (st := s_Map_names_at) l_Map_names_at c_Map_names_at k_Map_names_at
  have b_Map_names_at := F_Map_names_at.binds (ps := ["self", "head", "size"]) fun _ _ _ _ _ _ us hl => match us, hl with | [_, _, _], _ => rfl
  have F_Map_heap_of := fun_mk (st := s_Map_heap_of) l_Map_heap_of c_Map_heap_of k_Map_heap_of
  have b_Map_heap_of := F_Map_heap_of.binds (ps := ["self", "name", "size"]) fun _ _ _ _ _ _ us hl => match us, hl with | [_, _, _], _ => rfl
  have F_Map_names := fun_mk (st := s_Map_names) l_Map_names c_Map_names k_Map_names
  have b_Map_names := F_Map_names.binds (ps := ["self", "head", "size"]) fun _ _ _ _ _ _ us hl => match us, hl with | [_, _, _], _ => rfl
  have F_need_box := fun_mk (st := s_need_box) l_need_box c_need_box k_need_box
  have b_need_box := F_need_box.binds (ps := ["box"]) fun _ _ _ _ _ _ us hl => match us, hl with | [_], _ => rfl
  have F_is_in := fun_mk (st := s_is_in) l_is_in c_is_in k_is_in
  have b_is_in := F_is_in.binds (ps := ["point", "box"]) fun _ _ _ _ _ _ us hl => match us, hl with | [_, _], _ => rfl
  have F_Desk___init__ := fun_mk (st := s_Desk___init__) l_Desk___init__ c_Desk___init__ k_Desk___init__
  have b_Desk___init__ := F_Desk___init__.binds (ps := ["self"]) fun _ _ _ _ _ _ us hl => match us, hl with | [_], _ => rfl
  have F_Desk_stand := fun_mk (st := s_Desk_stand) l_Desk_stand c_Desk_stand k_Desk_stand
  have b_Desk_stand := F_Desk_stand.binds (ps := ["self"]) fun _ _ _ _ _ _ us hl => match us, hl with | [_], _ => rfl
  have F_Desk_to := fun_mk (st := s_Desk_to) l_Desk_to c_Desk_to k_Desk_to
  have b_Desk_to := F_Desk_to.binds (ps := ["self", "stand"]) fun _ _ _ _ _ _ us hl => match us, hl with | [_, _], _ => rfl
  have F_Desk_keep := fun_mk (st := s_Desk_keep) l_Desk_keep c_Desk_keep k_Desk_keep
  have b_Desk_keep := F_Desk_keep.binds (ps := ["self", "stand"]) fun _ _ _ _ _ _ us hl => match us, hl with | [_, _], _ => rfl
  have F_Desk_put := fun_mk (st := s_Desk_put) l_Desk_put c_Desk_put k_Desk_put
  have b_Desk_put := F_Desk_put.binds (ps := ["self", "name", "point"]) fun _ _ _ _ _ _ us hl => match us, hl with | [_, _, _], _ => rfl
  have F_Desk_drop := fun_mk (st := s_Desk_drop) l_Desk_drop c_Desk_drop k_Desk_drop
  have b_Desk_drop := F_Desk_drop.binds (ps := ["self", "name"]) fun _ _ _ _ _ _ us hl => match us, hl with | [_, _], _ => rfl
  have F_Desk_move := fun_mk (st := s_Desk_move) l_Desk_move c_Desk_move k_Desk_move
  have b_Desk_move := F_Desk_move.binds (ps := ["self", "name", "point"]) fun _ _ _ _ _ _ us hl => match us, hl with | [_, _, _], _ => rfl
  have F_Desk_tag := fun_mk (st := s_Desk_tag) l_Desk_tag c_Desk_tag k_Desk_tag
  have b_Desk_tag := F_Desk_tag.binds (ps := ["self", "name", "word"]) fun _ _ _ _ _ _ us hl => match us, hl with | [_, _, _], _ => rfl
  have F_Desk_untag := fun_mk (st := s_Desk_untag) l_Desk_untag c_Desk_untag k_Desk_untag
  have b_Desk_untag := F_Desk_untag.binds (ps := ["self", "name", "word"]) fun _ _ _ _ _ _ us hl => match us, hl with | [_, _, _], _ => rfl
  have F_Desk_undo := fun_mk (st := s_Desk_undo) l_Desk_undo c_Desk_undo k_Desk_undo
  have b_Desk_undo := F_Desk_undo.binds (ps := ["self"]) fun _ _ _ _ _ _ us hl => match us, hl with | [_], _ => rfl
  have F_Desk_redo := fun_mk (st := s_Desk_redo) l_Desk_redo c_Desk_redo k_Desk_redo
  have b_Desk_redo := F_Desk_redo.binds (ps := ["self"]) fun _ _ _ _ _ _ us hl => match us, hl with | [_], _ => rfl
  have F_Desk_chart := fun_mk (st := s_Desk_chart) l_Desk_chart c_Desk_chart k_Desk_chart
  have b_Desk_chart := F_Desk_chart.binds (ps := ["self"]) fun _ _ _ _ _ _ us hl => match us, hl with | [_], _ => rfl
  have F_Desk_tags := fun_mk (st := s_Desk_tags) l_Desk_tags c_Desk_tags k_Desk_tags
  have b_Desk_tags := F_Desk_tags.binds (ps := ["self", "name"]) fun _ _ _ _ _ _ us hl => match us, hl with | [_, _], _ => rfl
  have F_Desk_tagged := fun_mk (st := s_Desk_tagged) l_Desk_tagged c_Desk_tagged k_Desk_tagged
  have b_Desk_tagged := F_Desk_tagged.binds (ps := ["self", "word"]) fun _ _ _ _ _ _ us hl => match us, hl with | [_, _], _ => rfl
  have F_Desk_sought := fun_mk (st := s_Desk_sought) l_Desk_sought c_Desk_sought k_Desk_sought
  have b_Desk_sought := F_Desk_sought.binds (ps := ["self", "box", "size", "word"]) fun _ _ _ _ _ _ us hl => match us, hl with | [_, _, _, _], _ => rfl
  have F_Desk_told_of := fun_mk (st := s_Desk_told_of) l_Desk_told_of c_Desk_told_of k_Desk_told_of
  have b_Desk_told_of := F_Desk_told_of.binds (ps := ["self", "head", "size"]) fun _ _ _ _ _ _ us hl => match us, hl with | [_, _, _], _ => rfl
  have F_law_cell := fun_mk (st := s_law_cell) l_law_cell c_law_cell k_law_cell
  have b_law_cell := F_law_cell.binds (ps := ["script", "k"]) fun _ _ _ _ _ _ us hl => match us, hl with | [_, _], _ => rfl
  have F_law_drawn := fun_mk (st := s_law_drawn) l_law_drawn c_law_drawn k_law_drawn
  have b_law_drawn := F_law_drawn.binds (ps := ["cell", "k"]) fun _ _ _ _ _ _ us hl => match us, hl with | [_, _], _ => rfl
  have F_law_word := fun_mk (st := s_law_word) l_law_word c_law_word k_law_word
  have b_law_word := F_law_word.binds (ps := ["e"]) fun _ _ _ _ _ _ us hl => match us, hl with | [_], _ => rfl
  have F_law_told := fun_mk (st := s_law_told) l_law_told c_law_told k_law_told
  have b_law_told := F_law_told.binds (ps := ["deed"]) fun _ _ _ _ _ _ us hl => match us, hl with | [_], _ => rfl
  have F_law_point := fun_mk (st := s_law_point) l_law_point c_law_point k_law_point
  have b_law_point := F_law_point.binds (ps := ["more"]) fun _ _ _ _ _ _ us hl => match us, hl with | [_], _ => rfl
  have F_law_name := fun_mk (st := s_law_name) l_law_name c_law_name k_law_name
  have b_law_name := F_law_name.binds (ps := ["j"]) fun _ _ _ _ _ _ us hl => match us, hl with | [_], _ => rfl
  have F_law_stand := fun_mk (st := s_law_stand) l_law_stand c_law_stand k_law_stand
  have b_law_stand := F_law_stand.binds (ps := ["desk"]) fun _ _ _ _ _ _ us hl => match us, hl with | [_], _ => rfl
  have F_law_any := fun_mk (st := s_law_any) l_law_any c_law_any k_law_any
  have b_law_any := F_law_any.binds (ps := ["desk", "here"]) fun _ _ _ _ _ _ us hl => match us, hl with | [_, _], _ => rfl
  have F_law_refusals := fun_mk (st := s_law_refusals) l_law_refusals c_law_refusals k_law_refusals
  have b_law_refusals := F_law_refusals.binds (ps := ["desk"]) fun _ _ _ _ _ _ us hl => match us, hl with | [_], _ => rfl
  have F_law := fun_mk (st := s_law) l_law c_law k_law
  have b_law := F_law.binds (ps := ["script"]) fun _ _ _ _ _ _ us hl => match us, hl with | [_], _ => rfl
  obtain ⟨T, e0, e1, e2, e3, e4, e5, e6, e7⟩ : ∃ T : Tx K mg, T.f_law = f_law ∧ T.d_law = (PySem.W.fnOf "law" "law" (defArgs s_law) (defBody s_law) (defScope s_law) .none kV_law dc_law pm_law an_law (.ref co_law) ct_law) ∧ T.co_law_any = co_law_any ∧ T.tb_law_any = tb_law_any ∧ T.co_law_refusals = co_law_refusals ∧ T.tb_law_refusals = tb_law_refusals ∧ T.co_law = co_law ∧ T.tb_law = tb_law := ⟨{
    C_MarkError := C_MarkError
    C_BadName := C_BadName
    C_BadPoint := C_BadPoint
    C_BadSize := C_BadSize
    C_BadHeap := C_BadHeap
    C_BadText := C_BadText
    C_BadTag := C_BadTag
    C_Nothing := C_Nothing
    g_MarkError := PySem.W.mg_of X G a_MarkError
    x_MarkError := x_MarkError
    k_MarkError := k_MarkError
    e_MarkError := e_MarkError
    t_MarkError := t_MarkError
    hd_MarkError := hd_MarkError
    sm_MarkError := sm_MarkError
    ga_MarkError := ga_MarkError
    gt_MarkError := gt_MarkError
    cl_MarkError := cl_MarkError
    mr_MarkError := mr_MarkError
    g_BadName := PySem.W.mg_of X G a_BadName
    x_BadName := x_BadName
    k_BadName := k_BadName
    e_BadName := e_BadName
    t_BadName := t_BadName
    hd_BadName := hd_BadName
    sm_BadName := sm_BadName
    ga_BadName := ga_BadName
    gt_BadName := gt_BadName
    cl_BadName := cl_BadName
    mr_BadName := mr_BadName
    g_BadPoint := PySem.W.mg_of X G a_BadPoint
    x_BadPoint := x_BadPoint
    k_BadPoint := k_BadPoint
    e_BadPoint := e_BadPoint
    t_BadPoint := t_BadPoint
    hd_BadPoint := hd_BadPoint
    sm_BadPoint := sm_BadPoint
    ga_BadPoint := ga_BadPoint
    gt_BadPoint := gt_BadPoint
    cl_BadPoint := cl_BadPoint
    mr_BadPoint := mr_BadPoint
    g_BadSize := PySem.W.mg_of X G a_BadSize
    x_BadSize := x_BadSize
    k_BadSize := k_BadSize
    e_BadSize := e_BadSize
    t_BadSize := t_BadSize
    hd_BadSize := hd_BadSize
    sm_BadSize := sm_BadSize
    ga_BadSize := ga_BadSize
    gt_BadSize := gt_BadSize
    cl_BadSize := cl_BadSize
    mr_BadSize := mr_BadSize
    g_BadHeap := PySem.W.mg_of X G a_BadHeap
    x_BadHeap := x_BadHeap
    k_BadHeap := k_BadHeap
    e_BadHeap := e_BadHeap
    t_BadHeap := t_BadHeap
    hd_BadHeap := hd_BadHeap
    sm_BadHeap := sm_BadHeap
    ga_BadHeap := ga_BadHeap
    gt_BadHeap := gt_BadHeap
    cl_BadHeap := cl_BadHeap
    mr_BadHeap := mr_BadHeap
    g_BadText := PySem.W.mg_of X G a_BadText
    x_BadText := x_BadText
    k_BadText := k_BadText
    e_BadText := e_BadText
    t_BadText := t_BadText
    hd_BadText := hd_BadText
    sm_BadText := sm_BadText
    ga_BadText := ga_BadText
    gt_BadText := gt_BadText
    cl_BadText := cl_BadText
    mr_BadText := mr_BadText
    g_BadTag := PySem.W.mg_of X G a_BadTag
    x_BadTag := x_BadTag
    k_BadTag := k_BadTag
    e_BadTag := e_BadTag
    t_BadTag := t_BadTag
    hd_BadTag := hd_BadTag
    sm_BadTag := sm_BadTag
    ga_BadTag := ga_BadTag
    gt_BadTag := gt_BadTag
    cl_BadTag := cl_BadTag
    mr_BadTag := mr_BadTag
    g_Nothing := PySem.W.mg_of X G a_Nothing
    x_Nothing := x_Nothing
    k_Nothing := k_Nothing
    e_Nothing := e_Nothing
    t_Nothing := t_Nothing
    hd_Nothing := hd_Nothing
    sm_Nothing := sm_Nothing
    ga_Nothing := ga_Nothing
    gt_Nothing := gt_Nothing
    cl_Nothing := cl_Nothing
    mr_Nothing := mr_Nothing
    ocn := ocn
    oct := oct
    kit_BadHeap_BadHeap := kit_BadHeap_BadHeap
    kit_BadHeap_BadName := kit_BadHeap_BadName
    kit_BadHeap_BadPoint := kit_BadHeap_BadPoint
    kit_BadHeap_BadSize := kit_BadHeap_BadSize
    kit_BadHeap_BadText := kit_BadHeap_BadText
    kit_BadHeap_BadTag := kit_BadHeap_BadTag
    kit_BadHeap_Nothing := kit_BadHeap_Nothing
    kit_BadHeap_VE := kit_BadHeap_VE
    kit_BadName_BadHeap := kit_BadName_BadHeap
    kit_BadName_BadName := kit_BadName_BadName
    kit_BadName_BadPoint := kit_BadName_BadPoint
    kit_BadName_BadSize := kit_BadName_BadSize
    kit_BadName_BadText := kit_BadName_BadText
    kit_BadName_BadTag := kit_BadName_BadTag
    kit_BadName_Nothing := kit_BadName_Nothing
    kit_BadName_VE := kit_BadName_VE
    kit_BadPoint_BadHeap := kit_BadPoint_BadHeap
    kit_BadPoint_BadName := kit_BadPoint_BadName
    kit_BadPoint_BadPoint := kit_BadPoint_BadPoint
    kit_BadPoint_BadSize := kit_BadPoint_BadSize
    kit_BadPoint_BadText := kit_BadPoint_BadText
    kit_BadPoint_BadTag := kit_BadPoint_BadTag
    kit_BadPoint_Nothing := kit_BadPoint_Nothing
    kit_BadPoint_VE := kit_BadPoint_VE
    kit_BadSize_BadHeap := kit_BadSize_BadHeap
    kit_BadSize_BadName := kit_BadSize_BadName
    kit_BadSize_BadPoint := kit_BadSize_BadPoint
    kit_BadSize_BadSize := kit_BadSize_BadSize
    kit_BadSize_BadText := kit_BadSize_BadText
    kit_BadSize_BadTag := kit_BadSize_BadTag
    kit_BadSize_Nothing := kit_BadSize_Nothing
    kit_BadSize_VE := kit_BadSize_VE
    kit_BadText_BadHeap := kit_BadText_BadHeap
    kit_BadText_BadName := kit_BadText_BadName
    kit_BadText_BadPoint := kit_BadText_BadPoint
    kit_BadText_BadSize := kit_BadText_BadSize
    kit_BadText_BadText := kit_BadText_BadText
    kit_BadText_BadTag := kit_BadText_BadTag
    kit_BadText_Nothing := kit_BadText_Nothing
    kit_BadText_VE := kit_BadText_VE
    kit_BadTag_BadHeap := kit_BadTag_BadHeap
    kit_BadTag_BadName := kit_BadTag_BadName
    kit_BadTag_BadPoint := kit_BadTag_BadPoint
    kit_BadTag_BadSize := kit_BadTag_BadSize
    kit_BadTag_BadText := kit_BadTag_BadText
    kit_BadTag_BadTag := kit_BadTag_BadTag
    kit_BadTag_Nothing := kit_BadTag_Nothing
    kit_BadTag_VE := kit_BadTag_VE
    kit_Nothing_BadHeap := kit_Nothing_BadHeap
    kit_Nothing_BadName := kit_Nothing_BadName
    kit_Nothing_BadPoint := kit_Nothing_BadPoint
    kit_Nothing_BadSize := kit_Nothing_BadSize
    kit_Nothing_BadText := kit_Nothing_BadText
    kit_Nothing_BadTag := kit_Nothing_BadTag
    kit_Nothing_Nothing := kit_Nothing_Nothing
    kit_Nothing_VE := kit_Nothing_VE
    t_SMALL := t_SMALL
    g_SMALL := PySem.W.mg_of X G g_SMALL
    t_MOST_WORD := t_MOST_WORD
    g_MOST_WORD := PySem.W.mg_of X G g_MOST_WORD
    t_MOST_SIDE := t_MOST_SIDE
    g_MOST_SIDE := PySem.W.mg_of X G g_MOST_SIDE
    t_MOST_SIZE := t_MOST_SIZE
    g_MOST_SIZE := PySem.W.mg_of X G g_MOST_SIZE
    a_REACHES := a_REACHES
    g_REACHES := PySem.W.mg_of X G g_REACHES
    s_REACHES := fun H => .inr ⟨_, _, _, l_REACHES, rfl, rfl, (by show 14 ≤ sizeLine; decide), (Paired.cons ⟨_, rfl⟩ (Paired.cons ⟨_, rfl⟩ (Paired.cons ⟨_, rfl⟩ (Paired.cons ⟨_, rfl⟩ (Paired.cons ⟨_, rfl⟩ (Paired.cons ⟨_, rfl⟩ (Paired.cons ⟨_, rfl⟩ (Paired.cons ⟨_, rfl⟩ (Paired.cons ⟨_, rfl⟩ (Paired.cons ⟨_, rfl⟩ (Paired.cons ⟨_, rfl⟩ (Paired.cons ⟨_, rfl⟩ (Paired.cons ⟨_, rfl⟩ (Paired.cons ⟨_, rfl⟩ Paired.nil))))))))))))))⟩
    t_MOST_MARKS := t_MOST_MARKS
    g_MOST_MARKS := PySem.W.mg_of X G g_MOST_MARKS
    t_MOST_TAGS := t_MOST_TAGS
    g_MOST_TAGS := PySem.W.mg_of X G g_MOST_TAGS
    n_ValueError := PySem.W.mg_none_of X G n_ValueError
    n_abs := PySem.W.mg_none_of X G n_abs
    n_all := PySem.W.mg_none_of X G n_all
    n_bool := PySem.W.mg_none_of X G n_bool
    n_dict := PySem.W.mg_none_of X G n_dict
    n_int := PySem.W.mg_none_of X G n_int
    n_isinstance := PySem.W.mg_none_of X G n_isinstance
    n_len := PySem.W.mg_none_of X G n_len
    n_list := PySem.W.mg_none_of X G n_list
    n_max := PySem.W.mg_none_of X G n_max
    n_min := PySem.W.mg_none_of X G n_min
    n_range := PySem.W.mg_none_of X G n_range
    n_sorted := PySem.W.mg_none_of X G n_sorted
    n_str := PySem.W.mg_none_of X G n_str
    n_sum := PySem.W.mg_none_of X G n_sum
    n_tuple := PySem.W.mg_none_of X G n_tuple
    C_Map := C_Map
    C_Desk := C_Desk
    g_is_count := PySem.W.mg_of X G a_is_count
    f_is_count := f_is_count
    d_is_count := _
    F_is_count := F_is_count
    b_is_count := b_is_count
    g_is_name := PySem.W.mg_of X G a_is_name
    f_is_name := f_is_name
    d_is_name := _
    F_is_name := F_is_name
    b_is_name := b_is_name
    g_need_name := PySem.W.mg_of X G a_need_name
    f_need_name := f_need_name
    d_need_name := _
    F_need_name := F_need_name
    b_need_name := b_need_name
    g_need_point := PySem.W.mg_of X G a_need_point
    f_need_point := f_need_point
    d_need_point := _
    F_need_point := F_need_point
    b_need_point := b_need_point
    g_need_size := PySem.W.mg_of X G a_need_size
    f_need_size := f_need_size
    d_need_size := _
    F_need_size := F_need_size
    b_need_size := b_need_size
    g_reach := PySem.W.mg_of X G a_reach
    f_reach := f_reach
    d_reach := _
    F_reach := F_reach
    b_reach := b_reach
    g_apart := PySem.W.mg_of X G a_apart
    f_apart := f_apart
    d_apart := _
    F_apart := F_apart
    b_apart := b_apart
    g_heaps_of := PySem.W.mg_of X G a_heaps_of
    f_heaps_of := f_heaps_of
    d_heaps_of := _
    F_heaps_of := F_heaps_of
    b_heaps_of := b_heaps_of
    f_Map___init__ := f_Map___init__
    d_Map___init__ := _
    F_Map___init__ := F_Map___init__
    b_Map___init__ := b_Map___init__
    q_Map_marks := ⟨a_Map_marks, i_Map_marks, k_Map_marks⟩
    f_Map_marks := f_Map_marks
    d_Map_marks := _
    F_Map_marks := F_Map_marks
    b_Map_marks := b_Map_marks
    q_Map_point := ⟨a_Map_point, i_Map_point, k_Map_point⟩
    f_Map_point := f_Map_point
    d_Map_point := _
    F_Map_point := F_Map_point
    b_Map_point := b_Map_point
    q_Map_put := ⟨a_Map_put, i_Map_put, k_Map_put⟩
    f_Map_put := f_Map_put
    d_Map_put := _
    F_Map_put := F_Map_put
    b_Map_put := b_Map_put
    q_Map_join := ⟨a_Map_join, i_Map_join, k_Map_join⟩
    f_Map_join := f_Map_join
    d_Map_join := _
    F_Map_join := F_Map_join
    b_Map_join := b_Map_join
    q_Map_drop := ⟨a_Map_drop, i_Map_drop, k_Map_drop⟩
    f_Map_drop := f_Map_drop
    d_Map_drop := _
    F_Map_drop := F_Map_drop
    b_Map_drop := b_Map_drop
    q_Map_move := ⟨a_Map_move, i_Map_move, k_Map_move⟩
    f_Map_move := f_Map_move
    d_Map_move := _
    F_Map_move := F_Map_move
    b_Map_move := b_Map_move
    q_Map_names_at := ⟨a_Map_names_at, i_Map_names_at, k_Map_names_at⟩
    f_Map_names_at := f_Map_names_at
    d_Map_names_at := _
    F_Map_names_at := F_Map_names_at
    b_Map_names_at := b_Map_names_at
    q_Map_heap_of := ⟨a_Map_heap_of, i_Map_heap_of, k_Map_heap_of⟩
    f_Map_heap_of := f_Map_heap_of
    d_Map_heap_of := _
    F_Map_heap_of := F_Map_heap_of
    b_Map_heap_of := b_Map_heap_of
    q_Map_names := ⟨a_Map_names, i_Map_names, k_Map_names⟩
    f_Map_names := f_Map_names
    d_Map_names := _
    F_Map_names := F_Map_names
    b_Map_names := b_Map_names
    g_need_box := PySem.W.mg_of X G a_need_box
    f_need_box := f_need_box
    d_need_box := _
    F_need_box := F_need_box
    b_need_box := b_need_box
    g_is_in := PySem.W.mg_of X G a_is_in
    f_is_in := f_is_in
    d_is_in := _
    F_is_in := F_is_in
    b_is_in := b_is_in
    f_Desk___init__ := f_Desk___init__
    d_Desk___init__ := _
    F_Desk___init__ := F_Desk___init__
    b_Desk___init__ := b_Desk___init__
    q_Desk_stand := ⟨a_Desk_stand, i_Desk_stand, k_Desk_stand⟩
    f_Desk_stand := f_Desk_stand
    d_Desk_stand := _
    F_Desk_stand := F_Desk_stand
    b_Desk_stand := b_Desk_stand
    q_Desk_to := ⟨a_Desk_to, i_Desk_to, k_Desk_to⟩
    f_Desk_to := f_Desk_to
    d_Desk_to := _
    F_Desk_to := F_Desk_to
    b_Desk_to := b_Desk_to
    q_Desk_keep := ⟨a_Desk_keep, i_Desk_keep, k_Desk_keep⟩
    f_Desk_keep := f_Desk_keep
    d_Desk_keep := _
    F_Desk_keep := F_Desk_keep
    b_Desk_keep := b_Desk_keep
    q_Desk_put := ⟨a_Desk_put, i_Desk_put, k_Desk_put⟩
    f_Desk_put := f_Desk_put
    d_Desk_put := _
    F_Desk_put := F_Desk_put
    b_Desk_put := b_Desk_put
    q_Desk_drop := ⟨a_Desk_drop, i_Desk_drop, k_Desk_drop⟩
    f_Desk_drop := f_Desk_drop
    d_Desk_drop := _
    F_Desk_drop := F_Desk_drop
    b_Desk_drop := b_Desk_drop
    q_Desk_move := ⟨a_Desk_move, i_Desk_move, k_Desk_move⟩
    f_Desk_move := f_Desk_move
    d_Desk_move := _
    F_Desk_move := F_Desk_move
    b_Desk_move := b_Desk_move
    q_Desk_tag := ⟨a_Desk_tag, i_Desk_tag, k_Desk_tag⟩
    f_Desk_tag := f_Desk_tag
    d_Desk_tag := _
    F_Desk_tag := F_Desk_tag
    b_Desk_tag := b_Desk_tag
    q_Desk_untag := ⟨a_Desk_untag, i_Desk_untag, k_Desk_untag⟩
    f_Desk_untag := f_Desk_untag
    d_Desk_untag := _
    F_Desk_untag := F_Desk_untag
    b_Desk_untag := b_Desk_untag
    q_Desk_undo := ⟨a_Desk_undo, i_Desk_undo, k_Desk_undo⟩
    f_Desk_undo := f_Desk_undo
    d_Desk_undo := _
    F_Desk_undo := F_Desk_undo
    b_Desk_undo := b_Desk_undo
    q_Desk_redo := ⟨a_Desk_redo, i_Desk_redo, k_Desk_redo⟩
    f_Desk_redo := f_Desk_redo
    d_Desk_redo := _
    F_Desk_redo := F_Desk_redo
    b_Desk_redo := b_Desk_redo
    q_Desk_chart := ⟨a_Desk_chart, i_Desk_chart, k_Desk_chart⟩
    f_Desk_chart := f_Desk_chart
    d_Desk_chart := _
    F_Desk_chart := F_Desk_chart
    b_Desk_chart := b_Desk_chart
    q_Desk_tags := ⟨a_Desk_tags, i_Desk_tags, k_Desk_tags⟩
    f_Desk_tags := f_Desk_tags
    d_Desk_tags := _
    F_Desk_tags := F_Desk_tags
    b_Desk_tags := b_Desk_tags
    q_Desk_tagged := ⟨a_Desk_tagged, i_Desk_tagged, k_Desk_tagged⟩
    f_Desk_tagged := f_Desk_tagged
    d_Desk_tagged := _
    F_Desk_tagged := F_Desk_tagged
    b_Desk_tagged := b_Desk_tagged
    q_Desk_sought := ⟨a_Desk_sought, i_Desk_sought, k_Desk_sought⟩
    f_Desk_sought := f_Desk_sought
    d_Desk_sought := _
    F_Desk_sought := F_Desk_sought
    b_Desk_sought := b_Desk_sought
    q_Desk_told_of := ⟨a_Desk_told_of, i_Desk_told_of, k_Desk_told_of⟩
    f_Desk_told_of := f_Desk_told_of
    d_Desk_told_of := _
    F_Desk_told_of := F_Desk_told_of
    b_Desk_told_of := b_Desk_told_of
    g_law_cell := PySem.W.mg_of X G a_law_cell
    f_law_cell := f_law_cell
    d_law_cell := _
    F_law_cell := F_law_cell
    b_law_cell := b_law_cell
    g_law_drawn := PySem.W.mg_of X G a_law_drawn
    f_law_drawn := f_law_drawn
    d_law_drawn := _
    F_law_drawn := F_law_drawn
    b_law_drawn := b_law_drawn
    g_law_word := PySem.W.mg_of X G a_law_word
    f_law_word := f_law_word
    d_law_word := _
    F_law_word := F_law_word
    b_law_word := b_law_word
    g_law_told := PySem.W.mg_of X G a_law_told
    f_law_told := f_law_told
    d_law_told := _
    F_law_told := F_law_told
    b_law_told := b_law_told
    g_law_point := PySem.W.mg_of X G a_law_point
    f_law_point := f_law_point
    d_law_point := _
    F_law_point := F_law_point
    b_law_point := b_law_point
    g_law_name := PySem.W.mg_of X G a_law_name
    f_law_name := f_law_name
    d_law_name := _
    F_law_name := F_law_name
    b_law_name := b_law_name
    g_law_stand := PySem.W.mg_of X G a_law_stand
    f_law_stand := f_law_stand
    d_law_stand := _
    F_law_stand := F_law_stand
    b_law_stand := b_law_stand
    co_law_any := co_law_any
    tb_law_any := tb_law_any
    D_law_any := ⟨_, _, _, _, _, _, _, _, rfl, l_law_any, c_law_any⟩
    g_law_any := PySem.W.mg_of X G a_law_any
    f_law_any := f_law_any
    d_law_any := _
    F_law_any := F_law_any
    b_law_any := b_law_any
    co_law_refusals := co_law_refusals
    tb_law_refusals := tb_law_refusals
    D_law_refusals := ⟨_, _, _, _, _, _, _, _, rfl, l_law_refusals, c_law_refusals⟩
    g_law_refusals := PySem.W.mg_of X G a_law_refusals
    f_law_refusals := f_law_refusals
    d_law_refusals := _
    F_law_refusals := F_law_refusals
    b_law_refusals := b_law_refusals
    co_law := co_law
    tb_law := tb_law
    D_law := ⟨_, _, _, _, _, _, _, _, rfl, l_law, c_law⟩
    g_law := PySem.W.mg_of X G a_law
    f_law := f_law
    d_law := _
    F_law := F_law
    b_law := b_law
    c_Map := ⟨pg_Map, hd_Map, po_Map, sa_Map⟩
    g_Map := PySem.W.mg_of X G a_Map
    m_Map := ⟨mk_Map, a_Map___init__, i_Map___init__, kc_Map⟩
    nA_Map_points := nA_Map_points
    nA_Map_heads := nA_Map_heads
    c_Desk := ⟨pg_Desk, hd_Desk, po_Desk, sa_Desk⟩
    g_Desk := PySem.W.mg_of X G a_Desk
    m_Desk := ⟨mk_Desk, a_Desk___init__, i_Desk___init__, kc_Desk⟩
    nA_Desk_here := nA_Desk_here
    nA_Desk_tags_of := nA_Desk_tags_of
    nA_Desk_past := nA_Desk_past
    nA_Desk_ahead := nA_Desk_ahead
    tbne_law_any_law_refusals := tbne_law_any_law_refusals
    tbne_law_any_law := tbne_law_any_law
    tbne_law_refusals_law_any := tbne_law_refusals_law_any
    tbne_law_refusals_law := tbne_law_refusals_law
    tbne_law_law_any := tbne_law_law_any
    tbne_law_law_refusals := tbne_law_law_refusals
    }, rfl, rfl, rfl, rfl, rfl, rfl, rfl, rfl⟩
  subst e0 e2 e3 e4 e5 e6 e7
  have q1 : ∀ p ∈ ([(T.co_law_any, T.tb_law_any), (T.co_law_refusals, T.tb_law_refusals), (T.co_law, T.tb_law)] : List (Addr × Addr)), h.get? p.2 = some { cls := .none, data := .fields #[] } := fun p hp => by
    simp only [List.mem_cons, List.not_mem_nil, or_false] at hp
    rcases hp with rfl | rfl | rfl
    · exact te_law_any
    · exact te_law_refusals
    · exact te_law
  have q2 : ∀ p ∈ ([(T.co_law_any, T.tb_law_any), (T.co_law_refusals, T.tb_law_refusals), (T.co_law, T.tb_law)] : List (Addr × Addr)), K.lookup p.2 = none := fun p hp => by
    simp only [List.mem_cons, List.not_mem_nil, or_false] at hp
    rcases hp with rfl | rfl | rfl
    · exact tn_law_any
    · exact tn_law_refusals
    · exact tn_law
  have q3 : ∀ p ∈ ([(T.co_law_any, T.tb_law_any), (T.co_law_refusals, T.tb_law_refusals), (T.co_law, T.tb_law)] : List (Addr × Addr)), PySem.W.CodeHd h p.1 p.2 := fun p hp => by
    simp only [List.mem_cons, List.not_mem_nil, or_false] at hp
    rcases hp with rfl | rfl | rfl
    · exact PySem.W.codeHd_of_K X (hd_of lo_law_any th_law_any)
    · exact PySem.W.codeHd_of_K X (hd_of lo_law_refusals th_law_refusals)
    · exact PySem.W.codeHd_of_K X (hd_of lo_law th_law)
  refine ⟨(PySem.W.fnOf "law" "law" (defArgs s_law) (defBody s_law) (defScope s_law) .none kV_law dc_law pm_law an_law (.ref T.co_law) ct_law), [(T.co_law_any, T.tb_law_any), (T.co_law_refusals, T.tb_law_refusals), (T.co_law, T.tb_law)], sp_law T, q1, q2, q3, fun s v => .of_eq rfl, fun H a ns hl _ hT hS => ?_, fun base _ _ tb => ?_⟩
  · refine ⟨a, ns, rfl, hS, hl, fun p hp => ?_, fun _ => rfl⟩
    unfold TL at hp
    simp only [List.mem_cons, List.not_mem_nil, or_false] at hp
    rcases hp with rfl | rfl | rfl
    · exact LamX.TabS.nil (hT (T.co_law_any, T.tb_law_any) (by simp))
    · exact LamX.TabS.nil (hT (T.co_law_refusals, T.tb_law_refusals) (by simp))
    · exact LamX.TabS.nil (hT (T.co_law, T.tb_law) (by simp))
  · rw [← e1]
    exact ok_law T ⟨tb (T.co_law_any, T.tb_law_any) (by simp), tb (T.co_law_refusals, T.tb_law_refusals) (by simp), tb (T.co_law, T.tb_law) (by simp)⟩
end NMP
open PySem PySem.W PyProof.Rows
set_option maxRecDepth 100000 in
set_option maxHeartbeats 0 in
theorem PySem.Challenge.cw_nearmarks_k71_whole_desks_back_holds : PySem.Challenge.rw_nearmarks_k71_whole_desks_back.Holds := by
  w_on; o_law; k_head; (case hw => w_witness2)
  k_fill
  refine LamX.walk_ofTs (l := PySem.Challenge.rw_nearmarks_k71_whole_desks_back) (n := 63) (k := 13) (x := "script") (CX := fun _ => L2.CX0) rfl (by decide) rfl ⟨rfl, by decide, by decide⟩ (fun w h Y => PySem.W.km_in_of Y) ?F (fun _ _ _ _ _ z => z)
  case F =>
    intro w mg fa h Y KX G hmg
    refine' NMP.all_mk KX G hmg ?a_MarkError ?x_MarkError ?k_MarkError ?e_MarkError ?t_MarkError ?hd_MarkError ?sm_MarkError ?ga_MarkError ?gt_MarkError ?cl_MarkError ?mr_MarkError ?a_BadName ?x_BadName ?k_BadName ?e_BadName ?t_BadName ?hd_BadName ?sm_BadName ?ga_BadName ?gt_BadName ?cl_BadName ?mr_BadName ?a_BadPoint ?x_BadPoint ?k_BadPoint ?e_BadPoint ?t_BadPoint ?hd_BadPoint ?sm_BadPoint ?ga_BadPoint ?gt_BadPoint ?cl_BadPoint ?mr_BadPoint ?a_BadSize ?x_BadSize ?k_BadSize ?e_BadSize ?t_BadSize ?hd_BadSize ?sm_BadSize ?ga_BadSize ?gt_BadSize ?cl_BadSize ?mr_BadSize ?a_BadHeap ?x_BadHeap ?k_BadHeap ?e_BadHeap ?t_BadHeap ?hd_BadHeap ?sm_BadHeap ?ga_BadHeap ?gt_BadHeap ?cl_BadHeap ?mr_BadHeap ?a_BadText ?x_BadText ?k_BadText ?e_BadText ?t_BadText ?hd_BadText ?sm_BadText ?ga_BadText ?gt_BadText ?cl_BadText ?mr_BadText ?a_BadTag ?x_BadTag ?k_BadTag ?e_BadTag ?t_BadTag ?hd_BadTag ?sm_BadTag ?ga_BadTag ?gt_BadTag ?cl_BadTag ?mr_BadTag ?a_Nothing ?x_Nothing ?k_Nothing ?e_Nothing ?t_Nothing ?hd_Nothing ?sm_Nothing ?ga_Nothing ?gt_Nothing ?cl_Nothing ?mr_Nothing ?ocn ?oct ?kit_BadHeap_BadHeap ?kit_BadHeap_BadName ?kit_BadHeap_BadPoint ?kit_BadHeap_BadSize ?kit_BadHeap_BadText ?kit_BadHeap_BadTag ?kit_BadHeap_Nothing ?kit_BadHeap_VE ?kit_BadName_BadHeap ?kit_BadName_BadName ?kit_BadName_BadPoint ?kit_BadName_BadSize ?kit_BadName_BadText ?kit_BadName_BadTag ?kit_BadName_Nothing ?kit_BadName_VE ?kit_BadPoint_BadHeap ?kit_BadPoint_BadName ?kit_BadPoint_BadPoint ?kit_BadPoint_BadSize ?kit_BadPoint_BadText ?kit_BadPoint_BadTag ?kit_BadPoint_Nothing ?kit_BadPoint_VE ?kit_BadSize_BadHeap ?kit_BadSize_BadName ?kit_BadSize_BadPoint ?kit_BadSize_BadSize ?kit_BadSize_BadText ?kit_BadSize_BadTag ?kit_BadSize_Nothing ?kit_BadSize_VE ?kit_BadText_BadHeap ?kit_BadText_BadName ?kit_BadText_BadPoint ?kit_BadText_BadSize ?kit_BadText_BadText ?kit_BadText_BadTag ?kit_BadText_Nothing ?kit_BadText_VE ?kit_BadTag_BadHeap ?kit_BadTag_BadName ?kit_BadTag_BadPoint ?kit_BadTag_BadSize ?kit_BadTag_BadText ?kit_BadTag_BadTag ?kit_BadTag_Nothing ?kit_BadTag_VE ?kit_Nothing_BadHeap ?kit_Nothing_BadName ?kit_Nothing_BadPoint ?kit_Nothing_BadSize ?kit_Nothing_BadText ?kit_Nothing_BadTag ?kit_Nothing_Nothing ?kit_Nothing_VE ?g_SMALL ?g_MOST_WORD ?g_MOST_SIDE ?g_MOST_SIZE ?g_REACHES ?l_REACHES ?g_MOST_MARKS ?g_MOST_TAGS ?n_ValueError ?n_abs ?n_all ?n_bool ?n_dict ?n_int ?n_isinstance ?n_len ?n_list ?n_max ?n_min ?n_range ?n_sorted ?n_str ?n_sum ?n_tuple ?a_is_count ?l_is_count ?c_is_count ?k_is_count ?a_is_name ?l_is_name ?c_is_name ?k_is_name ?a_need_name ?l_need_name ?c_need_name ?k_need_name ?a_need_point ?l_need_point ?c_need_point ?k_need_point ?a_need_size ?l_need_size ?c_need_size ?k_need_size ?a_reach ?l_reach ?c_reach ?k_reach ?a_apart ?l_apart ?c_apart ?k_apart ?a_heaps_of ?l_heaps_of ?c_heaps_of ?k_heaps_of ?a_Map___init__ ?i_Map___init__ ?l_Map___init__ ?c_Map___init__ ?k_Map___init__ ?a_Map_marks ?i_Map_marks ?l_Map_marks ?c_Map_marks ?k_Map_marks ?a_Map_point ?i_Map_point ?l_Map_point ?c_Map_point ?k_Map_point ?a_Map_put ?i_Map_put ?l_Map_put ?c_Map_put ?k_Map_put ?a_Map_join ?i_Map_join ?l_Map_join ?c_Map_join ?k_Map_join ?a_Map_drop ?i_Map_drop ?l_Map_drop ?c_Map_drop ?k_Map_drop ?a_Map_move ?i_Map_move ?l_Map_move ?c_Map_move ?k_Map_move ?a_Map_names_at ?i_Map_names_at ?l_Map_names_at ?c_Map_names_at ?k_Map_names_at ?a_Map_heap_of ?i_Map_heap_of ?l_Map_heap_of ?c_Map_heap_of ?k_Map_heap_of ?a_Map_names ?i_Map_names ?l_Map_names ?c_Map_names ?k_Map_names ?a_need_box ?l_need_box ?c_need_box ?k_need_box ?a_is_in ?l_is_in ?c_is_in ?k_is_in ?a_Desk___init__ ?i_Desk___init__ ?l_Desk___init__ ?c_Desk___init__ ?k_Desk___init__ ?a_Desk_stand ?i_Desk_stand ?l_Desk_stand ?c_Desk_stand ?k_Desk_stand ?a_Desk_to ?i_Desk_to ?l_Desk_to ?c_Desk_to ?k_Desk_to ?a_Desk_keep ?i_Desk_keep ?l_Desk_keep ?c_Desk_keep ?k_Desk_keep ?a_Desk_put ?i_Desk_put ?l_Desk_put ?c_Desk_put ?k_Desk_put ?a_Desk_drop ?i_Desk_drop ?l_Desk_drop ?c_Desk_drop ?k_Desk_drop ?a_Desk_move ?i_Desk_move ?l_Desk_move ?c_Desk_move ?k_Desk_move ?a_Desk_tag ?i_Desk_tag ?l_Desk_tag ?c_Desk_tag ?k_Desk_tag ?a_Desk_untag ?i_Desk_untag ?l_Desk_untag ?c_Desk_untag ?k_Desk_untag ?a_Desk_undo ?i_Desk_undo ?l_Desk_undo ?c_Desk_undo ?k_Desk_undo ?a_Desk_redo ?i_Desk_redo ?l_Desk_redo ?c_Desk_redo ?k_Desk_redo ?a_Desk_chart ?i_Desk_chart ?l_Desk_chart ?c_Desk_chart ?k_Desk_chart ?a_Desk_tags ?i_Desk_tags ?l_Desk_tags ?c_Desk_tags ?k_Desk_tags ?a_Desk_tagged ?i_Desk_tagged ?l_Desk_tagged ?c_Desk_tagged ?k_Desk_tagged ?a_Desk_sought ?i_Desk_sought ?l_Desk_sought ?c_Desk_sought ?k_Desk_sought ?a_Desk_told_of ?i_Desk_told_of ?l_Desk_told_of ?c_Desk_told_of ?k_Desk_told_of ?a_law_cell ?l_law_cell ?c_law_cell ?k_law_cell ?a_law_drawn ?l_law_drawn ?c_law_drawn ?k_law_drawn ?a_law_word ?l_law_word ?c_law_word ?k_law_word ?a_law_told ?l_law_told ?c_law_told ?k_law_told ?a_law_point ?l_law_point ?c_law_point ?k_law_point ?a_law_name ?l_law_name ?c_law_name ?k_law_name ?a_law_stand ?l_law_stand ?c_law_stand ?k_law_stand ?a_law_any ?l_law_any ?c_law_any ?k_law_any ?a_law_refusals ?l_law_refusals ?c_law_refusals ?k_law_refusals ?a_law ?l_law ?c_law ?k_law ?a_Map ?pg_Map ?hd_Map ?po_Map ?sa_Map ?mk_Map ?kc_Map ?nA_Map_points ?nA_Map_heads ?a_Desk ?pg_Desk ?hd_Desk ?po_Desk ?sa_Desk ?mk_Desk ?kc_Desk ?nA_Desk_here ?nA_Desk_tags_of ?nA_Desk_past ?nA_Desk_ahead ?lo_law_any ?lo_law_refusals ?lo_law ?tv_law_any ?tv_law_refusals ?tv_law ?th_law_any ?th_law_refusals ?th_law ?tn_law_any ?tn_law_refusals ?tn_law ?te_law_any ?te_law_refusals ?te_law ?tbne_law_any_law_refusals ?tbne_law_any_law ?tbne_law_refusals_law_any ?tbne_law_refusals_law ?tbne_law_law_any ?tbne_law_law_refusals
    (case a_Map => k_is)
    (case a_Desk => k_is)
    (case a_MarkError => k_is)
    (case x_MarkError => k_exc)
    (case k_MarkError => k_is)
    (case e_MarkError => k_is)
    (case t_MarkError => k_is)
    (case hd_MarkError => k_is)
    (case sm_MarkError => k_is)
    (case ga_MarkError => k_is)
    (case gt_MarkError => k_is)
    (case cl_MarkError => k_is)
    (case mr_MarkError => k_is)
    (case a_BadName => k_is)
    (case x_BadName => k_exc)
    (case k_BadName => k_is)
    (case e_BadName => k_is)
    (case t_BadName => k_is)
    (case hd_BadName => k_is)
    (case sm_BadName => k_is)
    (case ga_BadName => k_is)
    (case gt_BadName => k_is)
    (case cl_BadName => k_is)
    (case mr_BadName => k_is)
    (case a_BadPoint => k_is)
    (case x_BadPoint => k_exc)
    (case k_BadPoint => k_is)
    (case e_BadPoint => k_is)
    (case t_BadPoint => k_is)
    (case hd_BadPoint => k_is)
    (case sm_BadPoint => k_is)
    (case ga_BadPoint => k_is)
    (case gt_BadPoint => k_is)
    (case cl_BadPoint => k_is)
    (case mr_BadPoint => k_is)
    (case a_BadSize => k_is)
    (case x_BadSize => k_exc)
    (case k_BadSize => k_is)
    (case e_BadSize => k_is)
    (case t_BadSize => k_is)
    (case hd_BadSize => k_is)
    (case sm_BadSize => k_is)
    (case ga_BadSize => k_is)
    (case gt_BadSize => k_is)
    (case cl_BadSize => k_is)
    (case mr_BadSize => k_is)
    (case a_BadHeap => k_is)
    (case x_BadHeap => k_exc)
    (case k_BadHeap => k_is)
    (case e_BadHeap => k_is)
    (case t_BadHeap => k_is)
    (case hd_BadHeap => k_is)
    (case sm_BadHeap => k_is)
    (case ga_BadHeap => k_is)
    (case gt_BadHeap => k_is)
    (case cl_BadHeap => k_is)
    (case mr_BadHeap => k_is)
    (case a_BadText => k_is)
    (case x_BadText => k_exc)
    (case k_BadText => k_is)
    (case e_BadText => k_is)
    (case t_BadText => k_is)
    (case hd_BadText => k_is)
    (case sm_BadText => k_is)
    (case ga_BadText => k_is)
    (case gt_BadText => k_is)
    (case cl_BadText => k_is)
    (case mr_BadText => k_is)
    (case a_BadTag => k_is)
    (case x_BadTag => k_exc)
    (case k_BadTag => k_is)
    (case e_BadTag => k_is)
    (case t_BadTag => k_is)
    (case hd_BadTag => k_is)
    (case sm_BadTag => k_is)
    (case ga_BadTag => k_is)
    (case gt_BadTag => k_is)
    (case cl_BadTag => k_is)
    (case mr_BadTag => k_is)
    (case a_Nothing => k_is)
    (case x_Nothing => k_exc)
    (case k_Nothing => k_is)
    (case e_Nothing => k_is)
    (case t_Nothing => k_is)
    (case hd_Nothing => k_is)
    (case sm_Nothing => k_is)
    (case ga_Nothing => k_is)
    (case gt_Nothing => k_is)
    (case cl_Nothing => k_is)
    (case mr_Nothing => k_is)
    (case ocn => k_is)
    (case oct => k_is)
    (case kit_BadHeap_BadHeap => exact NM.kit_yes)
    (case kit_BadHeap_BadName => exact NM.kit_no (by decide) (by k_is) (by k_is) (by k_is))
    (case kit_BadHeap_BadPoint => exact NM.kit_no (by decide) (by k_is) (by k_is) (by k_is))
    (case kit_BadHeap_BadSize => exact NM.kit_no (by decide) (by k_is) (by k_is) (by k_is))
    (case kit_BadHeap_BadText => exact NM.kit_no (by decide) (by k_is) (by k_is) (by k_is))
    (case kit_BadHeap_BadTag => exact NM.kit_no (by decide) (by k_is) (by k_is) (by k_is))
    (case kit_BadHeap_Nothing => exact NM.kit_no (by decide) (by k_is) (by k_is) (by k_is))
    (case kit_BadHeap_VE => exact NM.kit_VE (by k_is))
    (case kit_BadName_BadHeap => exact NM.kit_no (by decide) (by k_is) (by k_is) (by k_is))
    (case kit_BadName_BadName => exact NM.kit_yes)
    (case kit_BadName_BadPoint => exact NM.kit_no (by decide) (by k_is) (by k_is) (by k_is))
    (case kit_BadName_BadSize => exact NM.kit_no (by decide) (by k_is) (by k_is) (by k_is))
    (case kit_BadName_BadText => exact NM.kit_no (by decide) (by k_is) (by k_is) (by k_is))
    (case kit_BadName_BadTag => exact NM.kit_no (by decide) (by k_is) (by k_is) (by k_is))
    (case kit_BadName_Nothing => exact NM.kit_no (by decide) (by k_is) (by k_is) (by k_is))
    (case kit_BadName_VE => exact NM.kit_VE (by k_is))
    (case kit_BadPoint_BadHeap => exact NM.kit_no (by decide) (by k_is) (by k_is) (by k_is))
    (case kit_BadPoint_BadName => exact NM.kit_no (by decide) (by k_is) (by k_is) (by k_is))
    (case kit_BadPoint_BadPoint => exact NM.kit_yes)
    (case kit_BadPoint_BadSize => exact NM.kit_no (by decide) (by k_is) (by k_is) (by k_is))
    (case kit_BadPoint_BadText => exact NM.kit_no (by decide) (by k_is) (by k_is) (by k_is))
    (case kit_BadPoint_BadTag => exact NM.kit_no (by decide) (by k_is) (by k_is) (by k_is))
    (case kit_BadPoint_Nothing => exact NM.kit_no (by decide) (by k_is) (by k_is) (by k_is))
    (case kit_BadPoint_VE => exact NM.kit_VE (by k_is))
    (case kit_BadSize_BadHeap => exact NM.kit_no (by decide) (by k_is) (by k_is) (by k_is))
    (case kit_BadSize_BadName => exact NM.kit_no (by decide) (by k_is) (by k_is) (by k_is))
    (case kit_BadSize_BadPoint => exact NM.kit_no (by decide) (by k_is) (by k_is) (by k_is))
    (case kit_BadSize_BadSize => exact NM.kit_yes)
    (case kit_BadSize_BadText => exact NM.kit_no (by decide) (by k_is) (by k_is) (by k_is))
    (case kit_BadSize_BadTag => exact NM.kit_no (by decide) (by k_is) (by k_is) (by k_is))
    (case kit_BadSize_Nothing => exact NM.kit_no (by decide) (by k_is) (by k_is) (by k_is))
    (case kit_BadSize_VE => exact NM.kit_VE (by k_is))
    (case kit_BadText_BadHeap => exact NM.kit_no (by decide) (by k_is) (by k_is) (by k_is))
    (case kit_BadText_BadName => exact NM.kit_no (by decide) (by k_is) (by k_is) (by k_is))
    (case kit_BadText_BadPoint => exact NM.kit_no (by decide) (by k_is) (by k_is) (by k_is))
    (case kit_BadText_BadSize => exact NM.kit_no (by decide) (by k_is) (by k_is) (by k_is))
    (case kit_BadText_BadText => exact NM.kit_yes)
    (case kit_BadText_BadTag => exact NM.kit_no (by decide) (by k_is) (by k_is) (by k_is))
    (case kit_BadText_Nothing => exact NM.kit_no (by decide) (by k_is) (by k_is) (by k_is))
    (case kit_BadText_VE => exact NM.kit_VE (by k_is))
    (case kit_BadTag_BadHeap => exact NM.kit_no (by decide) (by k_is) (by k_is) (by k_is))
    (case kit_BadTag_BadName => exact NM.kit_no (by decide) (by k_is) (by k_is) (by k_is))
    (case kit_BadTag_BadPoint => exact NM.kit_no (by decide) (by k_is) (by k_is) (by k_is))
    (case kit_BadTag_BadSize => exact NM.kit_no (by decide) (by k_is) (by k_is) (by k_is))
    (case kit_BadTag_BadText => exact NM.kit_no (by decide) (by k_is) (by k_is) (by k_is))
    (case kit_BadTag_BadTag => exact NM.kit_yes)
    (case kit_BadTag_Nothing => exact NM.kit_no (by decide) (by k_is) (by k_is) (by k_is))
    (case kit_BadTag_VE => exact NM.kit_VE (by k_is))
    (case kit_Nothing_BadHeap => exact NM.kit_no (by decide) (by k_is) (by k_is) (by k_is))
    (case kit_Nothing_BadName => exact NM.kit_no (by decide) (by k_is) (by k_is) (by k_is))
    (case kit_Nothing_BadPoint => exact NM.kit_no (by decide) (by k_is) (by k_is) (by k_is))
    (case kit_Nothing_BadSize => exact NM.kit_no (by decide) (by k_is) (by k_is) (by k_is))
    (case kit_Nothing_BadText => exact NM.kit_no (by decide) (by k_is) (by k_is) (by k_is))
    (case kit_Nothing_BadTag => exact NM.kit_no (by decide) (by k_is) (by k_is) (by k_is))
    (case kit_Nothing_Nothing => exact NM.kit_yes)
    (case kit_Nothing_VE => exact NM.kit_VE (by k_is))
    (case g_SMALL => k_is)
    (case g_MOST_WORD => k_is)
    (case g_MOST_SIDE => k_is)
    (case g_MOST_SIZE => k_is)
    (case g_REACHES => k_is)
    (case l_REACHES => k_is)
    (case g_MOST_MARKS => k_is)
    (case g_MOST_TAGS => k_is)
    (case n_ValueError => k_is)
    (case n_abs => k_is)
    (case n_all => k_is)
    (case n_bool => k_is)
    (case n_dict => k_is)
    (case n_int => k_is)
    (case n_isinstance => k_is)
    (case n_len => k_is)
    (case n_list => k_is)
    (case n_max => k_is)
    (case n_min => k_is)
    (case n_range => k_is)
    (case n_sorted => k_is)
    (case n_str => k_is)
    (case n_sum => k_is)
    (case n_tuple => k_is)
    (case a_is_count => k_is)
    (case l_is_count => k_is)
    (case c_is_count => k_is)
    (case k_is_count => k_is)
    (case a_is_name => k_is)
    (case l_is_name => k_is)
    (case c_is_name => k_is)
    (case k_is_name => k_is)
    (case a_need_name => k_is)
    (case l_need_name => k_is)
    (case c_need_name => k_is)
    (case k_need_name => k_is)
    (case a_need_point => k_is)
    (case l_need_point => k_is)
    (case c_need_point => k_is)
    (case k_need_point => k_is)
    (case a_need_size => k_is)
    (case l_need_size => k_is)
    (case c_need_size => k_is)
    (case k_need_size => k_is)
    (case a_reach => k_is)
    (case l_reach => k_is)
    (case c_reach => k_is)
    (case k_reach => k_is)
    (case a_apart => k_is)
    (case l_apart => k_is)
    (case c_apart => k_is)
    (case k_apart => k_is)
    (case a_heaps_of => k_is)
    (case l_heaps_of => k_is)
    (case c_heaps_of => k_is)
    (case k_heaps_of => k_is)
    (case a_Map___init__ => k_is)
    (case i_Map___init__ => k_is)
    (case l_Map___init__ => k_is)
    (case c_Map___init__ => k_is)
    (case k_Map___init__ => k_is)
    (case a_Map_marks => k_is)
    (case i_Map_marks => k_is)
    (case l_Map_marks => k_is)
    (case c_Map_marks => k_is)
    (case k_Map_marks => k_is)
    (case a_Map_point => k_is)
    (case i_Map_point => k_is)
    (case l_Map_point => k_is)
    (case c_Map_point => k_is)
    (case k_Map_point => k_is)
    (case a_Map_put => k_is)
    (case i_Map_put => k_is)
    (case l_Map_put => k_is)
    (case c_Map_put => k_is)
    (case k_Map_put => k_is)
    (case a_Map_join => k_is)
    (case i_Map_join => k_is)
    (case l_Map_join => k_is)
    (case c_Map_join => k_is)
    (case k_Map_join => k_is)
    (case a_Map_drop => k_is)
    (case i_Map_drop => k_is)
    (case l_Map_drop => k_is)
    (case c_Map_drop => k_is)
    (case k_Map_drop => k_is)
    (case a_Map_move => k_is)
    (case i_Map_move => k_is)
    (case l_Map_move => k_is)
    (case c_Map_move => k_is)
    (case k_Map_move => k_is)
    (case a_Map_names_at => k_is)
    (case i_Map_names_at => k_is)
    (case l_Map_names_at => k_is)
    (case c_Map_names_at => k_is)
    (case k_Map_names_at => k_is)
    (case a_Map_heap_of => k_is)
    (case i_Map_heap_of => k_is)
    (case l_Map_heap_of => k_is)
    (case c_Map_heap_of => k_is)
    (case k_Map_heap_of => k_is)
    (case a_Map_names => k_is)
    (case i_Map_names => k_is)
    (case l_Map_names => k_is)
    (case c_Map_names => k_is)
    (case k_Map_names => k_is)
    (case a_need_box => k_is)
    (case l_need_box => k_is)
    (case c_need_box => k_is)
    (case k_need_box => k_is)
    (case a_is_in => k_is)
    (case l_is_in => k_is)
    (case c_is_in => k_is)
    (case k_is_in => k_is)
    (case a_Desk___init__ => k_is)
    (case i_Desk___init__ => k_is)
    (case l_Desk___init__ => k_is)
    (case c_Desk___init__ => k_is)
    (case k_Desk___init__ => k_is)
    (case a_Desk_stand => k_is)
    (case i_Desk_stand => k_is)
    (case l_Desk_stand => k_is)
    (case c_Desk_stand => k_is)
    (case k_Desk_stand => k_is)
    (case a_Desk_to => k_is)
    (case i_Desk_to => k_is)
    (case l_Desk_to => k_is)
    (case c_Desk_to => k_is)
    (case k_Desk_to => k_is)
    (case a_Desk_keep => k_is)
    (case i_Desk_keep => k_is)
    (case l_Desk_keep => k_is)
    (case c_Desk_keep => k_is)
    (case k_Desk_keep => k_is)
    (case a_Desk_put => k_is)
    (case i_Desk_put => k_is)
    (case l_Desk_put => k_is)
    (case c_Desk_put => k_is)
    (case k_Desk_put => k_is)
    (case a_Desk_drop => k_is)
    (case i_Desk_drop => k_is)
    (case l_Desk_drop => k_is)
    (case c_Desk_drop => k_is)
    (case k_Desk_drop => k_is)
    (case a_Desk_move => k_is)
    (case i_Desk_move => k_is)
    (case l_Desk_move => k_is)
    (case c_Desk_move => k_is)
    (case k_Desk_move => k_is)
    (case a_Desk_tag => k_is)
    (case i_Desk_tag => k_is)
    (case l_Desk_tag => k_is)
    (case c_Desk_tag => k_is)
    (case k_Desk_tag => k_is)
    (case a_Desk_untag => k_is)
    (case i_Desk_untag => k_is)
    (case l_Desk_untag => k_is)
    (case c_Desk_untag => k_is)
    (case k_Desk_untag => k_is)
    (case a_Desk_undo => k_is)
    (case i_Desk_undo => k_is)
    (case l_Desk_undo => k_is)
    (case c_Desk_undo => k_is)
    (case k_Desk_undo => k_is)
    (case a_Desk_redo => k_is)
    (case i_Desk_redo => k_is)
    (case l_Desk_redo => k_is)
    (case c_Desk_redo => k_is)
    (case k_Desk_redo => k_is)
    (case a_Desk_chart => k_is)
    (case i_Desk_chart => k_is)
    (case l_Desk_chart => k_is)
    (case c_Desk_chart => k_is)
    (case k_Desk_chart => k_is)
    (case a_Desk_tags => k_is)
    (case i_Desk_tags => k_is)
    (case l_Desk_tags => k_is)
    (case c_Desk_tags => k_is)
    (case k_Desk_tags => k_is)
    (case a_Desk_tagged => k_is)
    (case i_Desk_tagged => k_is)
    (case l_Desk_tagged => k_is)
    (case c_Desk_tagged => k_is)
    (case k_Desk_tagged => k_is)
    (case a_Desk_sought => k_is)
    (case i_Desk_sought => k_is)
    (case l_Desk_sought => k_is)
    (case c_Desk_sought => k_is)
    (case k_Desk_sought => k_is)
    (case a_Desk_told_of => k_is)
    (case i_Desk_told_of => k_is)
    (case l_Desk_told_of => k_is)
    (case c_Desk_told_of => k_is)
    (case k_Desk_told_of => k_is)
    (case a_law_cell => k_is)
    (case l_law_cell => k_is)
    (case c_law_cell => k_is)
    (case k_law_cell => k_is)
    (case a_law_drawn => k_is)
    (case l_law_drawn => k_is)
    (case c_law_drawn => k_is)
    (case k_law_drawn => k_is)
    (case a_law_word => k_is)
    (case l_law_word => k_is)
    (case c_law_word => k_is)
    (case k_law_word => k_is)
    (case a_law_told => k_is)
    (case l_law_told => k_is)
    (case c_law_told => k_is)
    (case k_law_told => k_is)
    (case a_law_point => k_is)
    (case l_law_point => k_is)
    (case c_law_point => k_is)
    (case k_law_point => k_is)
    (case a_law_name => k_is)
    (case l_law_name => k_is)
    (case c_law_name => k_is)
    (case k_law_name => k_is)
    (case a_law_stand => k_is)
    (case l_law_stand => k_is)
    (case c_law_stand => k_is)
    (case k_law_stand => k_is)
    (case a_law_any => k_is)
    (case l_law_any => k_is)
    (case c_law_any => k_is)
    (case k_law_any => k_is)
    (case a_law_refusals => k_is)
    (case l_law_refusals => k_is)
    (case c_law_refusals => k_is)
    (case k_law_refusals => k_is)
    (case a_law => k_is)
    (case l_law => k_is)
    (case c_law => k_is)
    (case k_law => k_is)
    (case pg_Map => k_is)
    (case hd_Map => k_is)
    (case po_Map => k_is)
    (case sa_Map => k_is)
    (case mk_Map => k_is)
    (case kc_Map => k_is)
    (case nA_Map_points => k_is)
    (case nA_Map_heads => k_is)
    (case pg_Desk => k_is)
    (case hd_Desk => k_is)
    (case po_Desk => k_is)
    (case sa_Desk => k_is)
    (case mk_Desk => k_is)
    (case kc_Desk => k_is)
    (case nA_Desk_here => k_is)
    (case nA_Desk_tags_of => k_is)
    (case nA_Desk_past => k_is)
    (case nA_Desk_ahead => k_is)
    (case lo_law_any => k_is)
    (case lo_law_refusals => k_is)
    (case lo_law => k_is)
    (case tv_law_any => exact rfl)
    (case tv_law_refusals => exact rfl)
    (case tv_law => exact rfl)
    (case th_law_any => exact rfl)
    (case th_law_refusals => exact rfl)
    (case th_law => exact rfl)
    (case tn_law_any => exact rfl)
    (case tn_law_refusals => exact rfl)
    (case tn_law => exact rfl)
    (case te_law_any => exact PySem.W.km_tabs_of Y _ (by simp))
    (case te_law_refusals => exact PySem.W.km_tabs_of Y _ (by simp))
    (case te_law => exact PySem.W.km_tabs_of Y _ (by simp))
    (case tbne_law_any_law_refusals => decide)
    (case tbne_law_any_law => decide)
    (case tbne_law_refusals_law_any => decide)
    (case tbne_law_refusals_law => decide)
    (case tbne_law_law_any => decide)
    (case tbne_law_law_refusals => decide)
