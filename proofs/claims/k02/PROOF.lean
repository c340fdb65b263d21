import PyProof.Rows.All
import HandS.Style
import HandS.HotCalls
import HandS.Comp
import HandS.List
import Wide.All
import OpenK.AllK
import Wide.FinOn
import PyProof.EqAt
import PyProof.EqKinds
import PyProof.TupleCall
import HandS.ForMost
import HandS.ForExc
import HandS.Deep
import HandS.TryMany
import HandS.CallSlots
import HandS.IsInst
import HandS.ExcInit
import HandS.ExcField
import HandS.ExcIs
import HandS.Wide
import HandS.TupAny
import HandS.TupMul
import HandS.RaiseMore
import HandS.More
import HandS.Strs
import HandS.Small
import HandS.Dict
import HandS.Conv
import PyProof.ListStr
import HandS.ExcCtx
import KE.KExcIs
import KE.KeyNested
import KE.KDictKeyed
import KE.KDictCopyH
import KE.KDictPairs
import HandS.DictComp
import HandS.WordsDict
import KE.KRevSl
import KE.KExcSuper
import HandS.Ends
import HandS.Words
import PySem.Challenge.RW_ibidem_k02_books_and_lists
import KE.RegKSuper
set_option Elab.async false
set_option linter.all false
set_option maxRecDepth 100000
set_option maxHeartbeats 8000000
/-! where an exception is handled: a list made turn by turn, all and any of a list -/
namespace MPK
open PySem PySem.Spec PyProof.Rows L2 L2H
theorem keepHot {A : Around} {x : Addr} {h h' : Heap} (hot : HotX.HotAt A x h) (k : ∀ o, h.get? x = some o → h'.get? x = some o) : HotX.HotAt A x h' :=
  ⟨hot.1, let ⟨o, vs, a, b, c⟩ := hot.2; ⟨o, vs, k o a, b, c⟩⟩
section
variable {prog : Program} {w : World} {A : Around} {E : Value → Shared → Prop} {s : Shared}
/-- a list's walk is at its end -/
theorem list_end {it l x : Addr} {i : Nat} {items : Array Value} {Q : Option Value → Shared → Prop} (hot : HotX.HotAt A x s.heap) (hit : s.heap.IsListIter it l i) (hl : s.heap.IsList l items) (hx : items[i]? = none)
    (q : ∀ h', (∀ b o, b ≠ it → s.heap.get? b = some o → h'.get? b = some o) → Q none { s with heap := h' }) : wpAny (model prog w) A (pyNext (.ref it)) Q E s := by
  obtain ⟨o, ho, hc, hd⟩ := id hit
  obtain ⟨ol, hol, _, nl, hdl⟩ := hl
  have hne : x ≠ it := fun e => by
    obtain ⟨o2, vs2, a2, b2, c2⟩ := hot.2
    rw [e, ho] at a2
    cases a2
    rw [hd] at b2
    cases b2
    simp at c2
  unfold pyNext
  refine wpAny_bind (wpAny_attempt (wpAny_callSpecial?_slot (name := Str.ofString "__next__") hit.typeIs slot_listiter_next (wpAny_call_entry slot_listiter_next hit.typeIs entry_listiter_next ?_ (args_listiter_next _))))
  show wpAny _ _ (field (.ref it) 0 >>= _) _ _ s
  refine wpAny_bind (wpAny_field ho hd (x := .ref l) rfl ?_)
  show wpAny _ _ (if (Value.ref l == Value.none) = true then _ else _) _ _ s
  rw [if_neg (show ¬ ((Value.ref l == Value.none) = true) from Bool.false_ne_true)]
  show wpAny _ _ (field (.ref it) 1 >>= _) _ _ s
  refine wpAny_bind (wpAny_field ho hd (x := .int i 0) rfl ?_)
  show wpAny _ _ (seqItems? (.ref l) >>= _) _ _ s
  refine wpAny_bind (wpAny_seqItems hol hdl ?_)
  simp only [Int.toNat_natCast, hx]
  refine wpAny_bind (wpAny_rule (wpAny_bind (wpAny_setField ho hd (by simp) ?_)))
  generalize hs1 : ({ s with heap := s.heap.update it (Obj.mapFields (·.setIfInBounds 0 .none)) } : Shared) = s1
  have k1 : ∀ b u, b ≠ it → s.heap.get? b = some u → s1.heap.get? b = some u := fun b u nb e => by
    rw [← hs1]
    show (s.heap.update it _).get? b = some u
    rw [Heap.get?_update_other _ _ (Ne.symm nb)]
    exact e
  have hot1 : HotX.HotAt A x s1.heap := keepHot hot fun u e => k1 x u hne e
  obtain ⟨hh, o1, vs1, e1, d1, c1⟩ := hot1
  show wpAny _ _ (newExc (.type "StopIteration") [] >>= _) _ _ s1
  refine wpAny_bind ?_
  simp only [newExc, newTuple]
  refine wpAny_bind (wpAny_newObj_type ?_ (by size_fits))
  refine wpAny_bind (m := firstArgMember _ _) (wpAny_of_eq (a := Value.none) (by first | rfl | (simp only [firstArgMember]; rfl)) ?_)
  refine wpAny_newObj_type ?_ (by size_fits)
  have e2 := fun (u v : Obj) => Heap.get?_push_of_some v (Heap.get?_push_of_some u e1)
  refine HotX.raiseNew_hot ⟨hh, o1, vs1, e2 _ _, d1, c1⟩ (Nat.ne_of_lt (Heap.lt_size (Heap.get?_push_of_some _ e1))) (Heap.get?_push_size _ rfl) rfl (by first | (simp; done) | (simp; omega)) ?_
  refine wpAny_bind (wpAny_isInstance (T := "StopIteration") (b := true) ⟨_, Heap.get?_update_self _ (Heap.get?_push_size _ rfl) rfl, rfl⟩ isSubtype_stop (wpAny_pure ?_))
  subst hs1
  refine q _ fun b u nb e => ?_
  have e3 := Heap.get?_push_of_some { cls := Value.type "tuple", data := Data.seq ([] : List Value).toArray } (k1 b u nb e)
  rw [Heap.get?_update_other _ _ (Nat.ne_of_gt (Heap.lt_size e3))]
  exact Heap.get?_push_of_some _ e3
/-- a list, walked where x's exception is handled -/
theorem walksH (x I l : Addr) (hne : l ≠ I) (items : Array Value) : Walks prog w A I [I, l, x] [I] items.size (fun i v => items[i]? = some v) (fun i h => HotX.HotAt A x h ∧ h.IsListIter I l i ∧ h.IsList l items) where
  sub := fun b hb => by rw [List.mem_singleton.mp hb]; exact List.mem_cons_self
  frame := fun _ _ _ st k => ⟨keepHot st.1 (k x (by simp)), st.2.1.at fun o e => k I (by simp) o e, st.2.2.at fun o e => k l (by simp) o e⟩
  item := fun i s Q E hi st q => by
    have nx : x ≠ I := fun e => by
      obtain ⟨o, a, _, c⟩ := st.2.1
      obtain ⟨o2, vs2, a2, b2, c2⟩ := st.1.2
      rw [e, a] at a2; cases a2
      rw [c] at b2; cases b2
      simp at c2
    refine wpAny_pyNext_list_item st.2.1 st.2.2 (x := items[i]) (by simp [hi]) fun h' it' sb => q _ h' s.toks (by simp [hi]) ⟨keepHot st.1 fun o e => sb.extBut x o nx e, it', st.2.2.extBut sb.extBut hne⟩ fun b o hb e => sb.extBut b o (fun z => hb (by simp [z])) e
  done := fun s Q E st q => list_end st.1 st.2.1 st.2.2 (by simp) fun h' k => q h' s.toks fun b o hb e => k b o (fun z => hb (by simp [z])) e
  self := fun _ _ _ _ st q => wpAny_pyIter_listiter st.2.1 q
end
section
variable {X : Cx}
theorem cr_allH (hc : HotC X) : CallR X (.builtin "all") (rAll X.K) := fun pins s σ H vs us Q I r ⟨a, bs, e1, hs, q⟩ => by
  subst e1
  obtain ⟨x, hot⟩ := hc.at I
  obtain ⟨its, rv, hl, _⟩ := I.list hs
  have hb := rv.bls
  rw [Vals.ref1 r]
  refine call_all_walk (iter_any hl.isList fun s2 e st hne => ?_)
  subst e
  have hot2 : HotX.HotAt X.A.in1 x (s.heap.push { cls := .type "list_iterator", data := .fields #[.ref a, .int 0 0] }) := keepHot (A := X.A.in1) hot fun o e => Heap.get?_push_of_some _ e
  refine ⟨_, _, _, _, _, _, _, rfl, walksH (A := X.A.in1) x _ a hne its.toArray, ⟨hot2, st⟩, truth_bools hb, fun h' tk k => ⟨.bl _, H, I.kept fun b o e => k b o (fun z => ?_) (Heap.get?_push_of_some _ e), ?_, q⟩⟩
  · rw [List.mem_singleton.mp z] at e
    exact absurd (Heap.lt_size e) (Nat.lt_irrefl _)
  · show Value.bool _ = Value.bool _
    rw [← L2.all_range, hb, List.size_toArray, List.length_map]
theorem cr_anyH (hc : HotC X) : CallR X (.builtin "any") (rAny X.K) := fun pins s σ H vs us Q I r ⟨a, bs, e1, hs, q⟩ => by
  subst e1
  obtain ⟨x, hot⟩ := hc.at I
  obtain ⟨its, rv, hl, _⟩ := I.list hs
  have hb := rv.bls
  rw [Vals.ref1 r]
  refine call_any_walk (iter_any hl.isList fun s2 e st hne => ?_)
  subst e
  have hot2 : HotX.HotAt X.A.in1 x (s.heap.push { cls := .type "list_iterator", data := .fields #[.ref a, .int 0 0] }) := keepHot (A := X.A.in1) hot fun o e => Heap.get?_push_of_some _ e
  refine ⟨_, _, _, _, _, _, _, rfl, walksH (A := X.A.in1) x _ a hne its.toArray, ⟨hot2, st⟩, truth_bools hb, fun h' tk k => ⟨.bl _, H, I.kept fun b o e => k b o (fun z => ?_) (Heap.get?_push_of_some _ e), ?_, q⟩⟩
  · rw [List.mem_singleton.mp z] at e
    exact absurd (Heap.lt_size e) (Nat.lt_irrefl _)
  · show Value.bool _ = Value.bool _
    rw [← L2.any_range, hb, List.size_toArray, List.length_map]
end
/-! ### a comprehension's block there -/
/-- its context: the exception's pin is borne on -/
abbrev blkP (X : Cx) (p : Addr × Obj) (s : Shared) (H : Hp) (scope : Scope) (env : Env) (fp : List Addr) : Cx := { X.blk s H scope env fp with pn := [p] }
section
variable {X : Cx} {p : Addr × Obj} {s s' : Shared} {H H' : Hp} {scope : Scope} {env : Env} {fp : List Addr} {σ : L2.St}
theorem pin_add (J : Inv (X.blk s H scope env fp) [] σ H' s') (h : s'.heap.get? p.1 = some p.2 ∧ H' p.1 = none ∧ p.1 ≠ env.locals ∧ p.1 ∉ frs X.stack ∧ ∀ v, p.2.data ≠ .cell v) : Inv (blkP X p s H scope env fp) [] σ H' s' := by
  have o := J.ok
  refine ⟨⟨o.mod, o.kind, o.glob, o.blt, o.above, o.inj, o.has, o.cab, o.hd, o.frames, o.stk, o.exf, o.bs, o.bsz, o.noex, o.exfs, o.funs, o.frf⟩, J.os, J.bare, J.base, J.loc, J.cell, J.free, J.freeC, fun q hq => ?_, J.hok, J.len⟩
  have e : q = p := by simpa using (show q ∈ [p] ++ ([] : List (Addr × Obj)) from hq)
  subst e
  exact h
/-- where the walk stands ahead of a turn -/
def At (B : Cx) (σ : L2.St) (fp : List Addr) (tn : Nat → Heap → Prop) (W : Nat → Nat → Hp → Prop) (n : Nat) (s : Shared) : Prop := ∃ i H, Inv B [] σ H s ∧ tn i s.heap ∧ (∀ b ∈ fp, H b = none) ∧ W i n H
/-- the turns -/
theorem turnsP {elt tg iter : Expr} {cs : Scope} {pos : Pos} {g : TG} {te : TE} {J : It} {it D : Addr} {tn : Nat → Heap → Prop} {W : Nat → Nat → Hp → Prop} {vs : List Nat} {Q : VK} {R : Result → Shared → Prop} (hot : Hot1 X.A p)
    (hfp : ∀ b ∈ fp, ∀ (H' : Hp) (σ' : L2.St) (s' : Shared), Inv (blkP X p s H scope env fp) [] σ' H' s' → H' b = none → FpOk (blkP X p s H scope env fp) [] H' b)
    (T : TurnH X.prog X.w X.K tg J fp it tn) (pg : PG (blkP X p s H scope env fp) tg g) (pe : PE (blkP X p s H scope env fp) elt te)
    (turn : ∀ i m H, W i m H → (J.stop i H ∧ Q (.ref D) H) ∨ (J.go i H ∧ ∃ Nx : Hp → Prop, (∀ H', Nx H' → ∃ m', m' < m ∧ W (i + 1) m' H') ∧ ∀ x H', J.yld i H x H' → g x (wipe σ vs) H' fun σ2 H2 => wipe σ2 vs = wipe σ vs ∧ tYes σ2 H2 fun b H3 =>
      if b = true then te σ2 H3 fun y H4 => ∃ acc, H4 D = some (.lst acc) ∧ acc.length < sizeLine ∧ Nx (upd H4 D (.lst (acc ++ [y]))) else Nx H3))
    (fin : ∀ H1 s1, Inv (blkP X p s H scope env fp) [] (wipe σ vs) H1 s1 → Q (.ref D) H1 → R (.ok .next) s1) (n : Nat) (h : At (blkP X p s H scope env fp) (wipe σ vs) fp tn W n s') :
    codeAny (model X.prog X.w) X.A (.compLoop (.ListComp elt [⟨tg, iter, [], 0⟩] cs pos) 0 (.ref it) (.ref D) env) R s' := by
  have hc : HotC (blkP X p s H scope env fp) := ⟨p, hot, List.mem_singleton.mpr rfl⟩
  refine compLoop_any (At (blkP X p s H scope env fp) (wipe σ vs) fp tn W) (fun n s3 ⟨i, H3, I3, t3, f3, w3⟩ => ?_) n h
  have ok3 : ∀ b ∈ fp, FpOk (blkP X p s H scope env fp) [] H3 b := fun b hb => hfp b hb H3 _ _ I3 (f3 b hb)
  rcases turn i n H3 w3 with ⟨stop, q⟩ | ⟨go, Nx, hNx, step⟩
  · exact thnF (T.done (blkP X p s H scope env fp) rfl rfl rfl hc i [] s3 _ H3 (fun _ _ => False) I3 ok3 t3 stop) fun r s4 ⟨e, I4⟩ => by subst e; exact fin H3 s4 I4 q
  refine thnF (T.item (blkP X p s H scope env fp) rfl rfl rfl hc i [] s3 _ H3 (fun _ _ => False) I3 ok3 t3 go) fun r s4 ⟨u, e, h4⟩ => ?_
  subst e
  refine thnF h4 fun _ s5 ⟨x, H5, I5, r5, y5, t5, f5⟩ => ?_
  have I5p := I5.pinned (fun b hb => hfp b hb H5 _ _ I5 (f5 b hb)) (T.obj _ _ t5)
  refine thnF (pg.run _ s5 _ H5 x u _ I5p r5 (step x H5 y5)) fun _ s6 ⟨σ6, H6, I6, e6, q6⟩ => ?_
  refine wpAny_tests_nil ?_
  show wpAny _ _ (eval elt env) _ _ s6
  refine thnF (pe.run _ s6 σ6 H6 _ I6 q6) fun z s7 ⟨yv, H7, I7, r7, acc, e7, l7, nx⟩ => ?_
  refine app_ok (X := blkP X p s H scope env fp) I7 e7 l7 r7 fun s8 I8 => ?_
  obtain ⟨m', lt, w8⟩ := hNx _ nx
  have same : ∀ b ∈ fp, ∀ o, s5.heap.get? b = some o → s8.heap.get? b = some o ∧ upd H7 D (.lst (acc ++ [yv])) b = none := fun b hb o e =>
    let z := I8.pin (b, o) (List.mem_append_right _ (List.mem_append_right _ (mem_pinsAt hb e)))
    ⟨z.1, z.2.1⟩
  refine ⟨m', lt, i + 1, _, (I8.unpinned (pins := [])).weak (by rw [← e6, wipe_length]) (fun j v e => by rw [← e6] at e; exact (wipe_some e).1), T.keep _ _ _ t5 fun b hb o e => (same b hb o e).1, fun b hb => ?_, w8⟩
  obtain ⟨o, e, _⟩ := T.obj _ _ t5 b hb
  exact (same b hb o e).2
/-- the list, as a value -/
theorem pe_lcP {elt tg iter : Expr} {cs : Scope} {own : List (Str × Nat)} {pos : Pos} {wi : TI} {g : TG} {te : TE} (hot : Hot1 X.A p) (hp : p ∈ X.pn) (hN : X.N.Nodup) (hi : PIH X tg iter wi) (ok : BlkOk X.N X.env.scope cs own)
    (hg : ∀ (s : Shared) (H : Hp) (C : Addr) (cl : List (Str × Addr)) (fp : List Addr), PG (blkP X p s H cs (compEnvC cs cl C X.env) fp) tg g)
    (he : ∀ (s : Shared) (H : Hp) (C : Addr) (cl : List (Str × Addr)) (fp : List Addr), PE (blkP X p s H cs (compEnvC cs cl C X.env) fp) elt te) (hs : ∀ x, foldedSetIterable iter X.env x = pure x) :
    PE X (.ListComp elt [⟨tg, iter, [], 0⟩] cs pos) (tLc wi g tYes te (own.map (·.2))) := by
  refine ⟨fun pins s σ H Q I h => ?_⟩
  rw [eval_ListComp]
  refine wpAny_comprehension_free (use := none) rfl hs (closure_ok fun y hy e => (ok.free y hy e).elim (fun k => I.ok.has _ (.inl k)) fun k => I.ok.has _ (.inr k)) ok.kind (fun y hy e => by rw [ok.uniq y hy, e]) (thn (hi.run pins s σ H _ I h) fun xv s1 hx => thn hx fun itv s2 h2 => ?_)
  obtain ⟨it, fp, tn, J, H2, e, I2, T, t2, f2, q⟩ := h2
  subst e
  refine wpAny_newObj_type (newEnv_comp ?_) (by show 0 ≤ sizeLine; decide)
  -- the new list, at the heap's end
  obtain ⟨W, ⟨m0, w0⟩, turn⟩ := q s2.heap.objs.size (I2.hok.fresh (Nat.le_refl _))
  have I3 : Inv X pins σ (upd H2 s2.heap.objs.size (.lst [])) { s2 with heap := s2.heap.push { cls := .type "list", data := .seq ([] : List Value).toArray } } :=
    I2.laid (t' := s2.toks) (fun b o e => Heap.get?_push_of_some _ e) (Nat.le_refl _) ⟨Nat.zero_le _, [], 0, .nil, Heap.get?_push_size _ rfl⟩
  have lt2 : ∀ b ∈ fp, b < s2.heap.objs.size := fun b hb => let ⟨o, e, _⟩ := T.obj _ _ t2 b hb; Heap.lt_size e
  have f3 : ∀ b ∈ fp, FpOk X pins (upd H2 s2.heap.objs.size (.lst [])) b ∧ b < (s2.heap.push { cls := .type "list", data := .seq ([] : List Value).toArray }).objs.size := fun b hb =>
    ⟨⟨by rw [upd_ne (Nat.ne_of_lt (lt2 b hb))]; exact (f2 b hb).1, (f2 b hb).2⟩, by rw [Heap.size_push]; exact Nat.lt_succ_of_lt (lt2 b hb)⟩
  have t3 : tn 0 (s2.heap.push { cls := .type "list", data := .seq ([] : List Value).toArray }) := T.keep _ _ _ t2 fun b _ o e => Heap.get?_push_of_some _ e
  have P := I3.pin p (List.mem_append_left _ hp)
  have nofs : p.1 ∉ frs X.stack := fun z => (List.mem_cons.mp (I3.stkSub p.1 z)).elim P.2.2.1 P.2.2.2.1
  generalize hD : s2.heap.objs.size = D at I3 f3 t3 P turn w0 ⊢
  generalize hs3 : ({ s2 with heap := s2.heap.push { cls := .type "list", data := .seq ([] : List Value).toArray } } : Shared) = s3 at I3
  have B := block_start I3 ok hN (fp := fp) (by rw [← hs3]; exact f3)
  have e3 : s3.heap = s2.heap.push { cls := .type "list", data := .seq ([] : List Value).toArray } := by rw [← hs3]
  rw [← e3] at f3 t3
  show codeAny _ _ (.compStart (.ListComp elt [⟨tg, iter, [], 0⟩] cs pos) 0 (.ref it) (.ref D) (compEnvC cs (cellsFrom (s3.heap.objs.size + 1) cs.names (cloFrom X.env.cells cs.names [])) s3.heap.objs.size X.env)) (compPost (model X.prog X.w) X.A X.xe none _ (.ref D) s3.heap.objs.size) { s3 with heap := pushCells (s3.heap.push { cls := .type "dict", data := .dict #[] }) cs.names }
  have kp : ∀ b o, s3.heap.get? b = some o → (pushCells (s3.heap.push { cls := .type "dict", data := .dict #[] }) cs.names).get? b = some o := fun b o e => pushCells_keeps _ _ _ _ (Heap.get?_push_of_some _ e)
  have B' := pin_add (p := p) B ⟨kp _ _ (by rw [e3]; exact P.1), P.2.1, Nat.ne_of_lt (Heap.lt_size (h := s3.heap) (by rw [e3]; exact P.1)), nofs, P.2.2.2.2⟩
  have run := turnsP (X := X) (p := p) (s := s3) (H := upd H2 D (.lst [])) (scope := cs) (cs := cs) (pos := pos) (iter := iter) (fp := fp) (Q := Q) (R := compPost (model X.prog X.w) X.A X.xe none (EP X pins σ Q) (.ref D) s3.heap.objs.size) hot (fun b hb H' σ' s' I' hn =>
    ⟨hn, (I'.ok.exf b hb).1, I'.ok.exfs b hb, .inl hb, fun x c e => (I'.ok.exf b hb).2 x c e, fun q hq => by
      have e : q = p := by simpa using (show q ∈ [p] ++ ([] : List (Addr × Obj)) from hq)
      rw [e]
      exact (f3 b hb).1.2.2.2.2.2 p (List.mem_append_left _ hp)⟩)
    T (hg s3 _ s3.heap.objs.size _ fp) (he s3 _ s3.heap.objs.size _ fp) turn (fun H1 s1 I1 q1 => ?_) m0 ⟨0, _, B', T.keep _ _ _ t3 fun b _ o e => kp b o e, fun b hb => (f3 b hb).1.1, w0⟩
  · exact codeAny_compStart_list run (T.self X.A 0 _ _ _ (T.keep _ _ _ t3 fun b _ o e => kp b o e) run)
  · have I4 : Inv X pins σ H1 s1 := I3.call' (ch := fp) I1.os I1.base I1.hok I1.bare fun b hb => let z := (f3 b hb).1; ⟨z.2.2.2.1, z.2.1, z.2.2.2.2.1, z.2.2.2.2.2⟩
    have fr : H1 s3.heap.objs.size = none := I1.free
    obtain ⟨_, a1, a2, a3, a4, a5⟩ := I3.fpOk (Nat.le_refl _) fr
    obtain ⟨m, ns, _⟩ := I1.loc
    exact ⟨m, ns, fun h' sb => ⟨.ref D, H1, I4.turned (t' := s1.toks) (fun b o nb e => (sb.2 b nb).trans e) fr a1 a3 a4 a5, rfl, q1⟩⟩
end
end MPK
/-! deep values, the abstract store, and how they stand in the heap -/
namespace MP
open PySem PySem.Spec PyProof.Rows L2

/-- a deep value -/
inductive D where
  | non | bl (b : Bool) | int (i : Int) | str (s : List Nat) | tup (xs : List D) | lst (xs : List D) | ref (a : Addr) | exc (a d : Addr) (c : Nat) (ns : List Str) (fs : List D)
  /-- a list that is read alone -/
  | scr (xs : List D)
  /-- a tuple that is known through and through -/
  | tpx (xs : List D)

def LIM : Nat := 4000000
/-- a text that may stand -/
def okS (s : List Nat) : Prop := s.length ≤ LIM ∧ ∀ c ∈ s, c < 1114112
def mkS (l : List Nat) : Str := ⟨l.toArray⟩
theorem mkS_cps (l : List Nat) : (mkS l).cps.toList = l := by simp [mkS]
theorem mkS_length (l : List Nat) : (mkS l).length = l.length := by simp [mkS, Str.length]
theorem mkS_inj {l m : List Nat} (h : mkS l = mkS m) : l = m := by
  have := congrArg (fun s => s.cps.toList) h
  simpa [mkS] using this
theorem mkS_append (l m : List Nat) : mkS l ++ mkS m = mkS (l ++ m) := by
  show Str.append _ _ = _
  simp [Str.append, mkS]

abbrev Fz := Addr → Prop
mutual
def Rep (F : Fz) (K : PySem.W.Frag) (H : Hp) : D → V → Prop
  | .non, v => v = .non
  | .bl b, v => v = .bl b
  | .int i, v => v = .int i
  | .str s, v => v = .str (mkS s) ∧ okS s
  | .tup ds, v => ∃ a vs, v = .ref a ∧ ((F a ∧ Rd H a (.tup vs)) ∨ SqT K (fun _ => none) a vs) ∧ RepL F K H ds vs
  | .lst ds, v => ∃ a vs, v = .ref a ∧ F a ∧ H a = some (.lst vs) ∧ RepL F K H ds vs
  | .ref a, v => v = .ref a
  | .exc a d _ ns fs, v => v = .ref a ∧ F d ∧ ∃ xfs : List (Str × V), H d = some (.xd xfs) ∧ xfs.map (·.1) = ns ∧ RepL F K H fs (xfs.map (·.2))
  | .scr ds, v => ∃ a vs, v = .ref a ∧ ((F a ∧ Rd H a (.lst vs)) ∨ SqL K (fun _ => none) a vs) ∧ RepL F K H ds vs
  | .tpx ds, v => ∃ a vs o, v = .ref a ∧ F a ∧ H a = some (.frz o (.tup vs)) ∧ o.dict = none ∧ RepL F K H ds vs
def RepL (F : Fz) (K : PySem.W.Frag) (H : Hp) : List D → List V → Prop
  | [], vs => vs = []
  | d :: ds, vs => ∃ v r, vs = v :: r ∧ Rep F K H d v ∧ RepL F K H ds r
end

/-- a dict's key: an int, a text -/
abbrev KD := Int ⊕ List Nat
def keyV : KD → L2.Key
  | .inl i => .inl i
  | .inr s => .inr (mkS s)
/-- what the store knows of an object that may change -/
inductive Ob where
  | lst (ds : List D)
  | ins (c : Nat) (fs : List (Str × D))
  | dct (kvs : List (KD × D))
abbrev Sto := Addr → Option Ob
def supd (S : Sto) (a : Addr) (o : Ob) : Sto := fun b => if b = a then some o else S b
def sdel (S : Sto) (a : Addr) : Sto := fun b => if b = a then none else S b
@[simp] theorem supd_same {S : Sto} {a : Addr} {o : Ob} : supd S a o a = some o := if_pos rfl
theorem supd_ne {S : Sto} {a b : Addr} {o : Ob} (h : b ≠ a) : supd S a o b = S b := if_neg h
theorem sdel_ne {S : Sto} {a b : Addr} (h : b ≠ a) : sdel S a b = S b := if_neg h
@[simp] theorem sdel_same {S : Sto} {a : Addr} : sdel S a a = none := if_pos rfl
@[simp] theorem supd_supd {S : Sto} {a : Addr} {o u : Ob} : supd (supd S a o) a u = supd S a u := by
  funext b; unfold supd; split <;> rfl
/-- a part of a store -/
def Sub (S S' : Sto) : Prop := ∀ a o, S a = some o → S' a = some o
theorem Sub.refl (S : Sto) : Sub S S := fun _ _ h => h
theorem Sub.trans {S S' S'' : Sto} (h : Sub S S') (k : Sub S' S'') : Sub S S'' := fun a o q => k a o (h a o q)
theorem Sub.new {S : Sto} {a : Addr} {o : Ob} (h : S a = none) : Sub S (supd S a o) := fun b u q => by
  rw [supd_ne]; exact q
  intro z; subst z; rw [h] at q; cases q
theorem Sub.new' {S S' : Sto} {a : Addr} {o : Ob} (k : Sub S S') (h : S' a = none) : Sub S (supd S' a o) := k.trans (.new h)

structure Grow (S : Sto) (F : Fz) (H : Hp) (S' : Sto) (F' : Fz) (H' : Hp) : Prop where
  fz : ∀ b, F b → F' b
  keep : ∀ b o, H b = some o → S b = none → H' b = some o ∧ S' b = none
  new : ∀ b, F' b → F b ∨ H b = none ∨ S b ≠ none
theorem Grow.refl {S : Sto} {F : Fz} {H : Hp} : Grow S F H S F H := ⟨fun _ h => h, fun _ _ h k => ⟨h, k⟩, fun _ h => .inl h⟩
theorem Grow.trans {S S1 S2 : Sto} {F F1 F2 : Fz} {H H1 H2 : Hp} (a : Grow S F H S1 F1 H1) (b : Grow S1 F1 H1 S2 F2 H2) : Grow S F H S2 F2 H2 where
  fz := fun c h => b.fz c (a.fz c h)
  keep := fun c o h k => let ⟨h1, k1⟩ := a.keep c o h k; b.keep c o h1 k1
  new := fun c h => by
    rcases b.new c h with q | q | q
    · exact a.new c q
    · cases hc : H c with
      | none => exact .inr (.inl rfl)
      | some o =>
        by_cases hs : S c = none
        · have := (a.keep c o hc hs).1
          rw [q] at this; cases this
        · exact .inr (.inr hs)
    · cases hc : H c with
      | none => exact .inr (.inl rfl)
      | some o =>
        by_cases hs : S c = none
        · exact absurd (a.keep c o hc hs).2 q
        · exact .inr (.inr hs)

def ObR (F : Fz) (K : PySem.W.Frag) (cl : Nat → Option Addr) (H : Hp) (a : Addr) : Ob → Prop
  | .lst ds => ∃ vs, H a = some (.lst vs) ∧ RepL F K H ds vs
  | .ins c fs => ∃ C dx fvs, H a = some (.ins C dx fvs) ∧ cl c = some C ∧ fvs.map (·.1) = fs.map (·.1) ∧ RepL F K H (fs.map (·.2)) (fvs.map (·.2))
  | .dct kvs => ∃ wvs : List (L2.Key × V), H a = some (.dK wvs) ∧ wvs.map (·.1) = kvs.map (fun p => keyV p.1) ∧ RepL F K H (kvs.map (·.2)) (wvs.map (·.2))
structure RelS (F : Fz) (K : PySem.W.Frag) (cl : Nat → Option Addr) (S : Sto) (H : Hp) : Prop where
  ob : ∀ a o, S a = some o → ObR F K cl H a o
  nf : ∀ a, F a → S a = none
  fh : ∀ a, F a → H a ≠ none

section
variable {F F' : Fz} {K : PySem.W.Frag} {H H' : Hp} {cl : Nat → Option Addr} {S S' : Sto}
mutual
theorem Rep.mono (hF : ∀ b, F b → F' b) (hH : ∀ b o, F b → H b = some o → H' b = some o) : ∀ (d : D) (v : V), Rep F K H d v → Rep F' K H' d v
  | .non, v, h => by simpa [Rep] using h
  | .bl b, v, h => by simpa [Rep] using h
  | .int i, v, h => by simpa [Rep] using h
  | .str s, v, h => by simpa [Rep] using h
  | .ref a, v, h => by simpa [Rep] using h
  | .tup ds, v, h => by
    simp only [Rep] at h ⊢
    obtain ⟨a, vs, e, q, r⟩ := h
    refine ⟨a, vs, e, ?_, RepL.mono hF hH ds vs r⟩
    rcases q with ⟨f, q⟩ | q
    · rcases q with q | ⟨o, q⟩
      · exact .inl ⟨hF a f, .inl (hH a _ f q)⟩
      · exact .inl ⟨hF a f, .inr ⟨o, hH a _ f q⟩⟩
    · exact .inr q
  | .lst ds, v, h => by
    simp only [Rep] at h ⊢
    obtain ⟨a, vs, e, f, q, r⟩ := h
    exact ⟨a, vs, e, hF a f, hH a _ f q, RepL.mono hF hH ds vs r⟩
  | .exc a d c ns fs, v, h => by
    simp only [Rep] at h ⊢
    obtain ⟨e, f, xfs, q, n, r⟩ := h
    exact ⟨e, hF d f, xfs, hH d _ f q, n, RepL.mono hF hH fs _ r⟩
  | .scr ds, v, h => by
    simp only [Rep] at h ⊢
    obtain ⟨a, vs, e, q, r⟩ := h
    refine ⟨a, vs, e, ?_, RepL.mono hF hH ds vs r⟩
    rcases q with ⟨f, q⟩ | q
    · rcases q with q | ⟨o, q⟩
      · exact .inl ⟨hF a f, .inl (hH a _ f q)⟩
      · exact .inl ⟨hF a f, .inr ⟨o, hH a _ f q⟩⟩
    · exact .inr q
  | .tpx ds, v, h => by
    simp only [Rep] at h ⊢
    obtain ⟨a, vs, o, e, f, q, hd, r⟩ := h
    exact ⟨a, vs, o, e, hF a f, hH a _ f q, hd, RepL.mono hF hH ds vs r⟩
theorem RepL.mono (hF : ∀ b, F b → F' b) (hH : ∀ b o, F b → H b = some o → H' b = some o) : ∀ (ds : List D) (vs : List V), RepL F K H ds vs → RepL F' K H' ds vs
  | [], vs, h => by simpa [RepL] using h
  | d :: ds, vs, h => by
    simp only [RepL] at h ⊢
    obtain ⟨v, r, e, h1, h2⟩ := h
    exact ⟨v, r, e, Rep.mono hF hH d v h1, RepL.mono hF hH ds r h2⟩
end
theorem RepL.length : ∀ {ds : List D} {vs : List V}, RepL F K H ds vs → ds.length = vs.length
  | [], vs, h => by simp only [RepL] at h; subst h; rfl
  | d :: ds, vs, h => by
    simp only [RepL] at h
    obtain ⟨v, r, e, h1, h2⟩ := h
    subst e
    simp [RepL.length h2]
theorem RepL.get : ∀ {ds : List D} {vs : List V} {i : Nat} {d : D}, RepL F K H ds vs → ds[i]? = some d → ∃ v, vs[i]? = some v ∧ Rep F K H d v
  | [], vs, i, d, h, e => by simp at e
  | d :: ds, vs, 0, x, h, e => by
    simp only [RepL] at h
    obtain ⟨v, r, e', h1, h2⟩ := h
    subst e'
    simp at e; subst e
    exact ⟨v, rfl, h1⟩
  | d :: ds, vs, i + 1, x, h, e => by
    simp only [RepL] at h
    obtain ⟨v, r, e', h1, h2⟩ := h
    subst e'
    obtain ⟨w, q1, q2⟩ := RepL.get (i := i) h2 (by simpa using e)
    exact ⟨w, by simpa using q1, q2⟩
theorem RepL.append : ∀ {ds es : List D} {vs ws : List V}, RepL F K H ds vs → RepL F K H es ws → RepL F K H (ds ++ es) (vs ++ ws)
  | [], es, vs, ws, h, k => by simp only [RepL] at h; subst h; exact k
  | d :: ds, es, vs, ws, h, k => by
    simp only [RepL] at h
    obtain ⟨v, r, e, h1, h2⟩ := h
    subst e
    simp only [List.cons_append, RepL]
    exact ⟨v, _, rfl, h1, RepL.append h2 k⟩
theorem RepL.take : ∀ (n : Nat) {ds : List D} {vs : List V}, RepL F K H ds vs → RepL F K H (ds.take n) (vs.take n)
  | 0, ds, vs, h => by simp [RepL]
  | n + 1, [], vs, h => by simp only [RepL] at h; subst h; simp [RepL]
  | n + 1, d :: ds, vs, h => by
    simp only [RepL] at h
    obtain ⟨v, r, e, h1, h2⟩ := h
    subst e
    simp only [List.take_succ_cons, RepL]
    exact ⟨v, _, rfl, h1, RepL.take n h2⟩
theorem RepL.drop : ∀ (n : Nat) {ds : List D} {vs : List V}, RepL F K H ds vs → RepL F K H (ds.drop n) (vs.drop n)
  | 0, ds, vs, h => by simpa using h
  | n + 1, [], vs, h => by simp only [RepL] at h; subst h; simp [RepL]
  | n + 1, d :: ds, vs, h => by
    simp only [RepL] at h
    obtain ⟨v, r, e, h1, h2⟩ := h
    subst e
    simp only [List.drop_succ_cons]
    exact RepL.drop n h2
theorem RepL.nil : RepL F K H [] [] := by simp [RepL]
theorem RepL.cons {d : D} {v : V} {ds : List D} {vs : List V} (h : Rep F K H d v) (k : RepL F K H ds vs) : RepL F K H (d :: ds) (v :: vs) := by
  simp only [RepL]; exact ⟨v, vs, rfl, h, k⟩
theorem RepL.one {d : D} {v : V} (h : Rep F K H d v) : RepL F K H [d] [v] := .cons h .nil
theorem RepL.set : ∀ (i : Nat) {ds : List D} {vs : List V} {d : D} {v : V}, RepL F K H ds vs → Rep F K H d v → RepL F K H (ds.set i d) (vs.set i v)
  | i, [], vs, d, v, h, k => by simp only [RepL] at h; subst h; simp [RepL]
  | 0, x :: ds, vs, d, v, h, k => by
    simp only [RepL] at h
    obtain ⟨w, r, e, h1, h2⟩ := h
    subst e
    exact .cons k h2
  | i + 1, x :: ds, vs, d, v, h, k => by
    simp only [RepL] at h
    obtain ⟨w, r, e, h1, h2⟩ := h
    subst e
    exact .cons h1 (RepL.set i h2 k)
theorem RepL.reverse {ds : List D} {vs : List V} (h : RepL F K H ds vs) : RepL F K H ds.reverse vs.reverse := by
  induction ds generalizing vs with
  | nil => simp only [RepL] at h; subst h; simp [RepL]
  | cons d ds ih =>
    simp only [RepL] at h
    obtain ⟨v, r, e, h1, h2⟩ := h
    subst e
    rw [List.reverse_cons, List.reverse_cons]
    exact (ih h2).append (.one h1)

theorem Rep.grow {d : D} {v : V} {S S' : Sto} (g : Grow S F H S' F' H') (r : RelS F K cl S H) (h : Rep F K H d v) : Rep F' K H' d v :=
  Rep.mono g.fz (fun b o f q => (g.keep b o q (r.nf b f)).1) d v h
theorem RepL.grow {ds : List D} {vs : List V} {S S' : Sto} (g : Grow S F H S' F' H') (r : RelS F K cl S H) (h : RepL F K H ds vs) : RepL F' K H' ds vs :=
  RepL.mono g.fz (fun b o f q => (g.keep b o q (r.nf b f)).1) ds vs h

/-- what may be read of a deep tuple, a deep list -/
theorem Rep.tup {ds : List D} {v : V} (h : Rep F K H (.tup ds) v) : ∃ a vs, v = .ref a ∧ SqT K H a vs ∧ RepL F K H ds vs := by
  simp only [Rep] at h
  obtain ⟨a, vs, e, q, r⟩ := h
  refine ⟨a, vs, e, ?_, r⟩
  rcases q with ⟨_, q⟩ | q
  · exact .inl q
  · rcases q with (q | ⟨o, q⟩) | q
    · cases q
    · cases q
    · exact .inr q
theorem Rep.tpx {ds : List D} {v : V} (h : Rep F K H (.tpx ds) v) : ∃ a vs o, v = .ref a ∧ F a ∧ H a = some (.frz o (.tup vs)) ∧ o.dict = none ∧ RepL F K H ds vs := by
  simpa only [Rep] using h
theorem Rep.soft {ds : List D} {v : V} (h : Rep F K H (.tpx ds) v) : Rep F K H (.tup ds) v := by
  obtain ⟨a, vs, o, e, f, q, hd, r⟩ := h.tpx
  simp only [Rep]
  exact ⟨a, vs, e, .inl ⟨f, .inr ⟨o, q⟩⟩, r⟩
theorem Rep.lst {ds : List D} {v : V} (h : Rep F K H (.lst ds) v) : ∃ a vs, v = .ref a ∧ F a ∧ H a = some (.lst vs) ∧ RepL F K H ds vs := by
  simpa only [Rep] using h
theorem Rep.scr {ds : List D} {v : V} (h : Rep F K H (.scr ds) v) : ∃ a vs, v = .ref a ∧ SqL K H a vs ∧ RepL F K H ds vs := by
  simp only [Rep] at h
  obtain ⟨a, vs, e, q, r⟩ := h
  refine ⟨a, vs, e, ?_, r⟩
  rcases q with ⟨_, q⟩ | q
  · exact .inl q
  · rcases q with (q | ⟨o, q⟩) | q
    · cases q
    · cases q
    · exact .inr q
end
end MP
/-! the small language and what must hold for it to run (a reckoning of weakest preconditions over deep values) -/
namespace MP
open PySem PySem.Spec PyProof.Rows L2

inductive Bop where | add | sub | mul | fdiv | mod | pow
  deriving DecidableEq
inductive Cop where | lt | le | gt | ge | eq | ne | isin | notin
  deriving DecidableEq
inductive Bl where | lss (m : Bool) | len | int | str | abs | max2 | min2 | all | any | tup | lst (m : Bool) | sum
  deriving DecidableEq
inductive Ty where | int | str | bool | tuple | list
  deriving DecidableEq
inductive Mt where | join | split (m : Bool) | lower | upper | strip | append | extend | insert | pop | popAt | index | tindex | reverse | clear | count
  deriving DecidableEq
inductive Tg where | nm (i : Nat) | tp (ts : List Tg)

mutual
inductive Ex where
  | non | bl (b : Bool) | int (i : Int) | str (s : List Nat) | var (i : Nat) | glb (k : Nat)
  | bin (op : Bop) (m : Bool) (a b : Ex) | neg (a : Ex) | not (a : Ex)
  | cmp (op : Cop) (a b : Ex) | isN (a : Ex) | nsN (a : Ex) | isB (b : Bool) (a : Ex) | nsB (b : Bool) (a : Ex)
  | chain (o1 o2 : Cop) (a b c : Ex)
  | and (es : List Ex) | or (es : List Ex) | ite (c a b : Ex)
  | tup (es : List Ex) | lst (m : Bool) (es : List Ex)
  | call (f : Nat) (es : List Ex) | callk (f : Nat) (es : List Ex) (perm : List Nat)
  | blt (b : Bl) (es : List Ex) | isty (t : Ty) (e : Ex) | meth (m : Mt) (o : Ex) (es : List Ex)
  | idx (a b : Ex) | slc (m : Bool) (a lo hi : Ex) | rev (m : Bool) (a : Ex)
  | lc (m : Bool) (elt : Ex) (tg : Tg) (it : It) (own : List Nat)
  | lcf (m : Bool) (elt : Ex) (tg : Tg) (it : It) (c : Ex) (own : List Nat)
  | exf (i : Nat) (f : Str) | exis (i c : Nat)
  | nd (t : Bool) (i : Nat) (it : It) (own : List Nat) | lc2 (m : Bool) (elt : Ex) (tg : Tg) (it : It) (tg1 : Tg) (it1 : It) (own own1 : List Nat) | dsp (ks : List (List Nat)) (es : List Ex)
  | lrg1 (m : Bool) (b : Ex) | lrg2 (m : Bool) (a b : Ex) | sft (i : Nat) | tix (i : Nat) (e : Ex) | tpn (e : Ex) | frz (i : Nat)
inductive It where
  | ex (e : Ex) | rng1 (b : Ex) | rng2 (a b : Ex) | enum (e : Ex) | zip (a b : Ex)
end

mutual
inductive Sm where
  | expr (e : Ex) | asg (tg : Tg) (e : Ex) | asgI (o i e : Ex) | aug (i : Nat) (op : Bop) (e : Ex)
  | ifs (c : Ex) (a b : List Sm) | for (tg : Tg) (it : It) (body : List Sm) | whl (c : Ex) (body : List Sm)
  | ret (fr : Bool) (e : Ex) | retN | brk | cont | pass
  | raise (c : Nat) (ns : List Str) (es : List Ex) | tr (body : List Sm) (hs : List Hd)
inductive Hd where
  | mk (c : Nat) (i : Option Nat) (b : List Sm)
end

/-- an exception: its class's number, its fields as they lie -/
structure Exn where
  c : Nat
  ns : List Str
  fs : List D
abbrev Post := D → Sto → Prop
abbrev XPost := Exn → Sto → Prop
abbrev SpecD := List D → Sto → Post → XPost → Prop
structure GE where
  sp : Nat → SpecD
  con : Nat → D
  anc : Nat → Nat → Bool
abbrev Rho := List (Option D)

/-! ### values -/
/-- the values of a call with keywords in the parameters' order -/
def permV {α : Type} (perm : List Nat) (xs : List α) : List α := perm.filterMap fun i => xs[i]?
/-- a tuple as any other -/
def soft : D → D
  | .tpx xs => .tup xs
  | d => d
def isNon : D → Bool
  | .non => true
  | _ => false
def listD (S : Sto) : D → Option (List D)
  | .lst xs => some xs
  | .ref a => match S a with
    | some (.lst xs) => some xs
    | _ => none
  | _ => none
/-- what a list may be lengthened by -/
def extD (S : Sto) : D → Option (List D)
  | .tup xs => some xs
  | x => listD S x
def seqD (S : Sto) : D → Option (List D)
  | .tup xs => some xs
  | .lst xs => some xs
  | .ref a => match S a with
    | some (.lst xs) => some xs
    | _ => none
  | .scr xs => some xs
  | _ => none
/-- a value as data: a list that may change as it stands -/
def datD (S : Sto) : D → Option D
  | .ref a => match S a with
    | some (.lst xs) => some (.lst xs)
    | _ => none
  | d => some d
mutual
def plain : D → Bool
  | .ref _ => false
  | .exc .. => false
  | .scr _ => false
  | .tpx _ => false
  | .tup xs => plainL xs
  | .lst xs => plainL xs
  | _ => true
def plainL : List D → Bool
  | [] => true
  | d :: ds => plain d && plainL ds
end
mutual
def dep : D → Nat
  | .tup xs => depL xs + 1
  | .lst xs => depL xs + 1
  | _ => 0
def depL : List D → Nat
  | [] => 0
  | d :: ds => max (dep d) (depL ds)
end
mutual
def eqb : D → D → Bool
  | .non, .non => true
  | .bl a, .bl b => a == b
  | .bl a, .int j => (if a then 1 else 0) == j
  | .int i, .bl b => i == (if b then 1 else 0)
  | .int i, .int j => i == j
  | .str x, .str y => x == y
  | .lst xs, .lst ys => eqbL xs ys
  | .tup xs, .tup ys => eqbL xs ys
  | _, _ => false
def eqbL : List D → List D → Bool
  | [], [] => true
  | x :: xs, y :: ys => eqb x y && eqbL xs ys
  | _, _ => false
end
def ltL : List Nat → List Nat → Bool
  | _, [] => false
  | [], _ :: _ => true
  | x :: xs, y :: ys => if x = y then ltL xs ys else decide (x < y)

def newL (m : Bool) (xs : List D) (S : Sto) (Q : Post) : Prop :=
  if m = true then ∀ p, S p = none → Q (.ref p) (supd S p (.lst xs)) else Q (.lst xs) S

def binR (op : Bop) (m : Bool) (x y : D) (S : Sto) (Q : Post) : Prop :=
  match op with
  | .add => match x, y with
    | .int i, .int j => Q (.int (i + j)) S
    | .str s, .str t => s.length + t.length ≤ LIM ∧ Q (.str (s ++ t)) S
    | .tup xs, .tup ys => xs.length + ys.length ≤ sizeLine ∧ Q (.tup (xs ++ ys)) S
    | x, y => ∃ xs ys, listD S x = some xs ∧ listD S y = some ys ∧ xs.length + ys.length ≤ sizeLine ∧ newL m (xs ++ ys) S Q
  | .sub => match x, y with
    | .int i, .int j => Q (.int (i - j)) S
    | _, _ => False
  | .mul => match x, y with
    | .int i, .int j => CMul i j ∧ Q (.int (i * j)) S
    | .tup xs, .int k => xs ≠ [] ∧ 2 ≤ k ∧ k ≤ 1000 ∧ xs.length ≤ 1000 ∧ Q (.tup (List.replicate k.toNat xs).flatten) S
    | x, .int k => ∃ xs, listD S x = some xs ∧ -(2 ^ 20) < k ∧ k < 2 ^ 20 ∧ xs.length * k.toNat ≤ sizeLine ∧ newL m (List.replicate k.toNat xs).flatten S Q
    | _, _ => False
  | .fdiv => match x, y with
    | .int i, .int j => 0 < j ∧ j < 10000000000000000000000000000000000000000 ∧ Q (.int (i / j)) S
    | _, _ => False
  | .mod => match x, y with
    | .int i, .int j => 0 < j ∧ Q (.int (i % j)) S
    | _, _ => False
  | .pow => match x, y with
    | .int i, .int j => CPow i j ∧ Q (.int (i ^ j.toNat)) S
    | _, _ => False
/-- the comparison's answer -/
def cmpR (op : Cop) (x y : D) (S : Sto) (Q : Post) : Prop :=
  match op with
  | .lt => match x, y with
    | .int i, .int j => Q (.bl (decide (i < j))) S
    | .str s, .str t => Q (.bl (ltL s t)) S
    | _, _ => False
  | .le => match x, y with
    | .int i, .int j => Q (.bl (decide (i ≤ j))) S
    | .str s, .str t => Q (.bl (!ltL t s)) S
    | _, _ => False
  | .gt => match x, y with
    | .int i, .int j => Q (.bl (decide (j < i))) S
    | .str s, .str t => Q (.bl (ltL t s)) S
    | _, _ => False
  | .ge => match x, y with
    | .int i, .int j => Q (.bl (decide (j ≤ i))) S
    | .str s, .str t => Q (.bl (!ltL s t)) S
    | _, _ => False
  | .eq => ∃ x' y', datD S x = some x' ∧ datD S y = some y' ∧ plain x' = true ∧ plain y' = true ∧ (dep x' ≤ 64 ∨ dep y' ≤ 64) ∧ Q (.bl (eqb x' y')) S
  | .ne => ∃ x' y', datD S x = some x' ∧ datD S y = some y' ∧ plain x' = true ∧ plain y' = true ∧ (dep x' ≤ 64 ∨ dep y' ≤ 64) ∧ Q (.bl (!eqb x' y')) S
  | .isin => match y with
    | .str t => ∃ c, x = .str [c] ∧ Q (.bl (decide (c ∈ t))) S
    | y => ∃ ys, seqD S y = some ys ∧ plain x = true ∧ plainL ys = true ∧ (dep x ≤ 64 ∨ depL ys ≤ 64) ∧ Q (.bl (ys.any fun z => eqb z x)) S
  | .notin => match y with
    | .str t => ∃ c, x = .str [c] ∧ Q (.bl (!decide (c ∈ t))) S
    | y => ∃ ys, seqD S y = some ys ∧ plain x = true ∧ plainL ys = true ∧ (dep x ≤ 64 ∨ depL ys ≤ 64) ∧ Q (.bl (!ys.any fun z => eqb z x)) S
def decI (i : Int) : List Nat := if i < 0 then 45 :: TL.numL i.natAbs else TL.numL i.natAbs
def lenD (S : Sto) : D → Option Nat
  | .str s => some s.length
  | d => (seqD S d).map List.length
def bltR (b : Bl) (vs : List D) (S : Sto) (Q : Post) : Prop :=
  match b, vs with
  | .len, [x] => ∃ n, lenD S x = some n ∧ Q (.int n) S
  | .int, [.int i] => Q (.int i) S
  | .int, [.bl k] => Q (.int (if k then 1 else 0)) S
  | .str, [.int i] => i.natAbs < 10000000000000000000000000000000000000000 ∧ Q (.str (decI i)) S
  | .str, [.str s] => Q (.str s) S
  | .abs, [.int i] => Q (.int (if i < 0 then -i else i)) S
  | .max2, [.int i, .int j] => Q (.int (if j > i then j else i)) S
  | .min2, [.int i, .int j] => Q (.int (if j < i then j else i)) S
  | .all, [x] => ∃ bs : List Bool, listD S x = some (bs.map D.bl) ∧ Q (.bl (bs.all id)) S
  | .any, [x] => ∃ bs : List Bool, listD S x = some (bs.map D.bl) ∧ Q (.bl (bs.any id)) S
  | .tup, [x] => ∃ xs, seqD S x = some xs ∧ Q (.tup xs) S
  | .lst m, [x] => ∃ xs, seqD S x = some xs ∧ newL m xs S Q
  | .lss m, [.str s] => newL m (s.map fun c => .str [c]) S Q
  | .sum, [x] => ∃ ns : List Int, listD S x = some (ns.map D.int) ∧ Q (.int ns.sum) S
  | _, _ => False
def isTy (S : Sto) : Ty → D → Option Bool
  | t, .non => some false
  | t, .bl _ => some (t == .int || t == .bool)
  | t, .int _ => some (t == .int)
  | t, .str _ => some (t == .str)
  | t, .tup _ => some (t == .tuple)
  | t, .lst _ => some (t == .list)
  | t, .ref a => match S a with
    | some (.lst _) => some (t == .list)
    | _ => none
  | t, .scr _ => some (t == .list)
  | _, .exc .. => none
  | _, .tpx _ => none
/-- signs upper and lower, of ASCII letters -/
def lowC (c : Nat) : Nat := if 65 ≤ c ∧ c ≤ 90 then c + 32 else c
def upC (c : Nat) : Nat := if 97 ≤ c ∧ c ≤ 122 then c - 32 else c
def methR (m : Mt) (o : D) (vs : List D) (S : Sto) (Q : Post) : Prop :=
  match m, o, vs with
  | .join, .str s, [x] => ∃ parts : List (List Nat), seqD S x = some (parts.map D.str) ∧ (parts.map List.length).sum + parts.length * s.length ≤ LIM ∧ Q (.str (TL.joinL s parts)) S
  | .split m, .str s, [.str t] => ∃ c, t = [c] ∧ c < 256 ∧ newL m ((TL.spl [c] 0 [] s).map D.str) S Q
  | .lower, .str s, [] => s.all (· < 128) = true ∧ Q (.str (s.map lowC)) S
  | .upper, .str s, [] => s.all (· < 128) = true ∧ Q (.str (s.map upC)) S
  | .strip, .str s, [] => ∃ r, Txt.strip (mkS s) = mkS r ∧ r.length ≤ s.length ∧ (∀ c ∈ r, c ∈ s) ∧ Q (.str r) S
  | .append, .ref p, [x] => ∃ xs, S p = some (.lst xs) ∧ xs.length < sizeLine ∧ Q .non (supd S p (.lst (xs ++ [x])))
  | .extend, .ref p, [x] => ∃ xs ys, S p = some (.lst xs) ∧ extD S x = some ys ∧ xs.length + ys.length ≤ sizeLine ∧ Q .non (supd S p (.lst (xs ++ ys)))
  | .pop, .ref p, [] => ∃ xs x, S p = some (.lst (xs ++ [x])) ∧ Q x (supd S p (.lst xs))
  | .reverse, .ref p, [] => ∃ xs, S p = some (.lst xs) ∧ Q .non (supd S p (.lst xs.reverse))
  | .clear, .ref p, [] => ∃ xs, S p = some (.lst xs) ∧ Q .non (supd S p (.lst []))
  | .popAt, .ref p, [.int i] => ∃ xs k x, S p = some (.lst xs) ∧ ixN xs.length i = some k ∧ xs[k]? = some x ∧ Q x (supd S p (.lst (xs.eraseIdx k)))
  | .insert, .ref p, [.int i, x] => ∃ xs, S p = some (.lst xs) ∧ xs.length < sizeLine ∧ 0 ≤ i ∧ i < 2 ^ 40 ∧ Q .non (supd S p (.lst (xs.take i.toNat ++ [x] ++ xs.drop i.toNat)))
  | .index, o, [x] => ∃ (ys : List D) (j : Nat) (z : D), listD S o = some ys ∧ plain x = true ∧ plainL ys = true ∧ dep x ≤ 60 ∧ depL ys ≤ 60 ∧ ys[j]? = some z ∧ eqb z x = true ∧ (∀ (m : Nat) (z' : D), m < j → ys[m]? = some z' → eqb z' x = false) ∧ Q (.int (j : Nat)) S
  | .tindex, .tup ys, [.str x] => ∃ (zs : List (List Nat)) (j : Nat), ys = zs.map D.str ∧ zs[j]? = some x ∧ (∀ m, m < j → zs[m]? ≠ some x) ∧ Q (.int (j : Nat)) S
  | .count, o, [.str x] => ∃ zs : List (List Nat), listD S o = some (zs.map D.str) ∧ Q (.int (zs.count x : Nat)) S
  | _, _, _ => False
/-- what a method's receiver must be -/
def mtOk (m : Mt) (S : Sto) (o : D) : Prop :=
  match m with
  | .join => ∃ s, o = .str s
  | .split _ => ∃ s, o = .str s
  | .lower => ∃ s, o = .str s
  | .upper => ∃ s, o = .str s
  | .strip => ∃ s, o = .str s
  | .tindex => ∃ xs, o = .tup xs
  | _ => ∃ xs, listD S o = some xs
/-- a dict's entry -/
def valD (kvs : List (KD × D)) (k : KD) : Option D := (kvs.find? fun p => decide (p.1 = k)).map (·.2)
def putD (kvs : List (KD × D)) (k : KD) (v : D) : List (KD × D) := if (kvs.any fun p => decide (p.1 = k)) = true then kvs.map (fun p => if p.1 = k then (p.1, v) else p) else kvs ++ [(k, v)]
def setR (a k v : D) (S : Sto) (N : Sto → Prop) : Prop :=
  match k with
  | .int n => ∃ p xs j, a = .ref p ∧ S p = some (.lst xs) ∧ ixN xs.length n = some j ∧ N (supd S p (.lst (xs.set j v)))
  | .str s => ∃ p kvs, a = .ref p ∧ S p = some (.dct kvs) ∧ kvs.length < sizeLine ∧ N (supd S p (.dct (putD kvs (.inr s) v)))
  | _ => False
mutual
/-- what may be a key -/
def hsh : D → Bool
  | .tup xs => hshL xs
  | .lst _ => false
  | .ref _ => false
  | .exc .. => false
  | .scr _ => false
  | .tpx _ => false
  | _ => true
def hshL : List D → Bool
  | [] => true
  | x :: xs => hsh x && hshL xs
end
def keyB (t : Bool) (x : D) : Bool :=
  match t, x with
  | true, .tup xs => hshL xs && decide (dep x ≤ 8)
  | false, .str _ => true
  | false, .int _ => true
  | _, _ => false
/-- all unlike -/
def distD : List D → Bool
  | [] => true
  | x :: xs => !(xs.any fun y => eqb x y) && distD xs
def idxR (x i : D) (S : Sto) (Q : Post) : Prop :=
  match i with
  | .int i => match x with
    | .str s => ∃ c, atI s i = some c ∧ Q (.str [c]) S
    | x => ∃ xs v, seqD S x = some xs ∧ atI xs i = some v ∧ Q v S
  | .str k => ∃ p kvs v, x = .ref p ∧ S p = some (.dct kvs) ∧ valD kvs (.inr k) = some v ∧ Q v S
  | _ => False
def cutL {α : Type} (xs : List α) (lo hi : Option Int) : List α := (xs.drop (HT.sIx xs.length 0 lo)).take (HT.sIx xs.length xs.length hi - HT.sIx xs.length 0 lo)
/-- a part of a slice: none is written, or its value is an int -/
def optE : Ex → D → Option (Option Int)
  | .non, _ => some none
  | _, .int i => some (some i)
  | _, _ => none
def slcR (m : Bool) (x : D) (l h : Option Int) (S : Sto) (Q : Post) : Prop :=
  match x with
  | .str s => Q (.str (cutL s l h)) S
  | .tup xs => Q (.tup (cutL xs l h)) S
  | x => ∃ xs, listD S x = some xs ∧ newL m (cutL xs l h) S Q
def revR (m : Bool) (x : D) (S : Sto) (Q : Post) : Prop :=
  match x with
  | .tup xs => Q (.tup xs.reverse) S
  | x => ∃ xs, listD S x = some xs ∧ newL m xs.reverse S Q
mutual
def setT : Tg → D → Rho → Option Rho
  | .nm i, d, ρ => some (ρ.set i (some d))
  | .tp ts, .tup xs, ρ => setTs ts xs ρ
  | _, _, _ => none
def setTs : List Tg → List D → Rho → Option Rho
  | [], [], ρ => some ρ
  | t :: ts, x :: xs, ρ => match setT t x ρ with
    | some ρ1 => setTs ts xs ρ1
    | none => none
  | _, _, _ => none
end
def wipeD (ρ : Rho) : List Nat → Rho
  | [] => ρ
  | v :: vs => (wipeD ρ vs).set v none
/-- what a walk walks: the list that may change, the items -/
abbrev PIt := Option Addr → List D → Sto → Prop
def iterR (x : D) (S : Sto) (K : PIt) : Prop :=
  match x with
  | .str s => K none (s.map fun c => .str [c]) S
  | .tup xs => K none xs S
  | .lst xs => K none xs S
  | .scr xs => K none xs S
  | .ref a => ∃ xs, S a = some (.lst xs) ∧ K (some a) xs S
  | _ => False
def Stab (src : Option Addr) (xs : List D) (S : Sto) : Prop :=
  match src with
  | none => True
  | some p => S p = some (.lst xs)
/-- the turns of a comprehension with two clauses -/
def lc2W (src : Option Addr) (all : List D) (tg : Tg) (ρ : Rho) (inn : Rho → Sto → List D → (List D → Sto → Prop) → Prop) (K : List D → Sto → Prop) : List D → List D → Sto → Prop
  | [], acc, S => Stab src all S ∧ K acc S
  | x :: xs, acc, S => Stab src all S ∧ ∃ ρ1, setT tg x ρ = some ρ1 ∧ inn ρ1 S acc fun acc' S1 => lc2W src all tg ρ inn K xs acc' S1
/-- the turns of a comprehension -/
def lcW (src : Option Addr) (all : List D) (tg : Tg) (ρ : Rho) (el : Rho → Sto → (Option D → Sto → Prop) → Prop) (K : List D → Sto → Prop) : List D → List D → Sto → Prop
  | [], acc, S => Stab src all S ∧ K acc S
  | x :: xs, acc, S => Stab src all S ∧ acc.length < sizeLine ∧ ∃ ρ1, setT tg x ρ = some ρ1 ∧ el ρ1 S fun y S1 => lcW src all tg ρ el K xs (match y with | some y => acc ++ [y] | none => acc) S1

section
variable (G : GE)
mutual
def wpE : Ex → Rho → Sto → Post → XPost → Prop
  | .non, _, S, Q, _ => Q .non S
  | .bl b, _, S, Q, _ => Q (.bl b) S
  | .int i, _, S, Q, _ => Q (.int i) S
  | .str s, _, S, Q, _ => Q (.str s) S
  | .var i, ρ, S, Q, _ => ∃ d, ρ[i]? = some (some d) ∧ Q d S
  | .glb k, _, S, Q, _ => Q (G.con k) S
  | .bin op m a b, ρ, S, Q, E => wpE a ρ S (fun x S1 => wpE b ρ S1 (fun y S2 => binR op m x y S2 Q) E) E
  | .neg a, ρ, S, Q, E => wpE a ρ S (fun x S1 => ∃ i, x = .int i ∧ Q (.int (-i)) S1) E
  | .not a, ρ, S, Q, E => wpE a ρ S (fun x S1 => ∃ k, x = .bl k ∧ Q (.bl (!k)) S1) E
  | .cmp op a b, ρ, S, Q, E => wpE a ρ S (fun x S1 => wpE b ρ S1 (fun y S2 => cmpR op x y S2 Q) E) E
  | .isN a, ρ, S, Q, E => wpE a ρ S (fun x S1 => Q (.bl (isNon x)) S1) E
  | .nsN a, ρ, S, Q, E => wpE a ρ S (fun x S1 => Q (.bl (!isNon x)) S1) E
  | .isB b a, ρ, S, Q, E => wpE a ρ S (fun x S1 => ∃ k, x = .bl k ∧ Q (.bl (k == b)) S1) E
  | .nsB b a, ρ, S, Q, E => wpE a ρ S (fun x S1 => ∃ k, x = .bl k ∧ Q (.bl (!(k == b))) S1) E
  | .chain o1 o2 a b c, ρ, S, Q, E => wpE a ρ S (fun x S1 => wpE b ρ S1 (fun y S2 => cmpR o1 x y S2 fun z S3 => ∃ k, z = .bl k ∧
      if k = true then wpE c ρ S3 (fun w S4 => cmpR o2 y w S4 Q) E else Q (.bl false) S3) E) E
  | .and es, ρ, S, Q, E => wpAnd es ρ S Q E
  | .or es, ρ, S, Q, E => wpOr es ρ S Q E
  | .ite c a b, ρ, S, Q, E => wpE c ρ S (fun x S1 => ∃ k, x = .bl k ∧ if k = true then wpE a ρ S1 Q E else wpE b ρ S1 Q E) E
  | .tup es, ρ, S, Q, E => wpEs es ρ S (fun xs S1 => xs.length ≤ sizeLine ∧ Q (.tup xs) S1) E
  | .lst m es, ρ, S, Q, E => wpEs es ρ S (fun xs S1 => xs.length ≤ sizeLine ∧ newL m xs S1 Q) E
  | .call f es, ρ, S, Q, E => wpEs es ρ S (fun xs S1 => G.sp f xs S1 Q E) E
  | .callk f es perm, ρ, S, Q, E => wpEs es ρ S (fun xs S1 => G.sp f (permV perm xs) S1 Q E) E
  | .blt b es, ρ, S, Q, E => wpEs es ρ S (fun xs S1 => bltR b xs S1 Q) E
  | .isty t e, ρ, S, Q, E => wpE e ρ S (fun x S1 => ∃ k, isTy S1 t x = some k ∧ Q (.bl k) S1) E
  | .meth m o es, ρ, S, Q, E => wpE o ρ S (fun x S1 => mtOk m S1 x ∧ wpEs es ρ S1 (fun xs S2 => methR m x xs S2 Q) E) E
  | .idx a b, ρ, S, Q, E => wpE a ρ S (fun x S1 => wpE b ρ S1 (fun y S2 => idxR x y S2 Q) E) E
  | .slc m a lo hi, ρ, S, Q, E => wpE a ρ S (fun x S1 => wpE lo ρ S1 (fun y S2 => ∃ l, optE lo y = some l ∧ wpE hi ρ S2 (fun z S3 => ∃ h, optE hi z = some h ∧ slcR m x l h S3 Q) E) E) E
  | .rev m a, ρ, S, Q, E => wpE a ρ S (fun x S1 => revR m x S1 Q) E
  | .lc m elt tg it own, ρ, S, Q, E => wpIt it ρ S (fun src xs S1 => lcW src xs tg (wipeD ρ own) (fun ρ1 S2 K => wpE elt ρ1 S2 (fun y S3 => K (some y) S3) (fun _ _ => False)) (fun ys S4 => newL m ys S4 Q) xs [] S1) E
  | .lcf m elt tg it c own, ρ, S, Q, E => wpIt it ρ S (fun src xs S1 => lcW src xs tg (wipeD ρ own) (fun ρ1 S2 K => wpE c ρ1 S2 (fun b S3 => ∃ k, b = .bl k ∧ if k = true then wpE elt ρ1 S3 (fun y S4 => K (some y) S4) (fun _ _ => False) else K none S3) (fun _ _ => False)) (fun ys S4 => newL m ys S4 Q) xs [] S1) E
  | .nd t i it own, ρ, S, Q, E => wpIt it ρ S (fun src xs S1 => Stab src xs S1 ∧ i < ρ.length ∧ xs.length < sizeLine ∧ (∀ x ∈ xs, keyB t x = true) ∧ ∀ n : Nat, n ≤ xs.length → decide (n = xs.length) = distD xs → Q (.int n) S1) E
  | .lc2 m elt tg it tg1 it1 own own1, ρ, S, Q, E => wpIt it ρ S (fun src xs S1 => lc2W src xs tg (wipeD ρ own) (fun ρ1 S2 acc K => wpIt it1 ρ1 S2 (fun src1 ys S3 => lcW src1 ys tg1 (wipeD ρ1 own1) (fun ρ2 S4 K2 => wpE elt ρ2 S4 (fun y S5 => K2 (some y) S5) (fun _ _ => False)) K ys acc S3) (fun _ _ => False)) (fun ys S4 => newL m ys S4 Q) xs [] S1) E
  | .dsp ks es, ρ, S, Q, E => wpEs es ρ S (fun vs S1 => vs.length = ks.length ∧ ∀ p, S1 p = none → Q (.ref p) (supd S1 p (.dct ((ks.map Sum.inr).zip vs)))) E
  | .exf i f, ρ, S, Q, _ => ∃ a dd c ns fs d, ρ[i]? = some (some (.exc a dd c ns fs)) ∧ (ns.zip fs).lookup f = some d ∧ Q d S
  | .exis i c, ρ, S, Q, _ => ∃ a dd c' ns fs, ρ[i]? = some (some (.exc a dd c' ns fs)) ∧ Q (.bl (G.anc c' c)) S
  | .lrg1 m b, ρ, S, Q, E => wpE b ρ S (fun y S1 => ∃ j : Int, y = .int j ∧ 0 ≤ j ∧ j ≤ 16777216 ∧ newL m ((List.range j.toNat).map fun (k : Nat) => D.int (k : Int)) S1 Q) E
  | .lrg2 m a b, ρ, S, Q, E => wpE a ρ S (fun x S1 => wpE b ρ S1 (fun y S2 => ∃ i j : Int, x = .int i ∧ y = .int j ∧ 0 ≤ i ∧ i ≤ 16777216 ∧ 0 ≤ j ∧ j ≤ 16777216 ∧ newL m ((List.range (j - i).toNat).map fun (k : Nat) => D.int (i + (k : Int))) S2 Q) E) E
  | .sft i, ρ, S, Q, _ => ∃ d, ρ[i]? = some (some d) ∧ Q (soft d) S
  | .frz i, ρ, S, Q, _ => ∃ p xs, ρ[i]? = some (some (.ref p)) ∧ S p = some (.lst xs) ∧ Q (.lst xs) (sdel S p)
  | .tix i e, ρ, S, Q, E => ∃ xs, ρ[i]? = some (some (.tpx xs)) ∧ wpE e ρ S (fun x S1 => methR .tindex (.tup xs) [x] S1 Q) E
  | .tpn e, ρ, S, Q, E => wpE e ρ S (fun x S1 => ∃ xs, listD S1 x = some xs ∧ Q (.tpx xs) S1) E
def wpEs : List Ex → Rho → Sto → (List D → Sto → Prop) → XPost → Prop
  | [], _, S, Q, _ => Q [] S
  | e :: es, ρ, S, Q, E => wpE e ρ S (fun x S1 => wpEs es ρ S1 (fun xs S2 => Q (x :: xs) S2) E) E
def wpAnd : List Ex → Rho → Sto → Post → XPost → Prop
  | [], _, _, _, _ => False
  | [e], ρ, S, Q, E => wpE e ρ S (fun x S1 => ∃ k, x = .bl k ∧ Q (.bl k) S1) E
  | e :: f :: es, ρ, S, Q, E => wpE e ρ S (fun x S1 => ∃ k, x = .bl k ∧ if k = true then wpAnd (f :: es) ρ S1 Q E else Q (.bl false) S1) E
def wpOr : List Ex → Rho → Sto → Post → XPost → Prop
  | [], _, _, _, _ => False
  | [e], ρ, S, Q, E => wpE e ρ S (fun x S1 => ∃ k, x = .bl k ∧ Q (.bl k) S1) E
  | e :: f :: es, ρ, S, Q, E => wpE e ρ S (fun x S1 => ∃ k, x = .bl k ∧ if k = true then Q (.bl true) S1 else wpOr (f :: es) ρ S1 Q E) E
def wpIt : It → Rho → Sto → PIt → XPost → Prop
  | .ex e, ρ, S, K, E => wpE e ρ S (fun x S1 => iterR x S1 K) E
  | .rng1 b, ρ, S, K, E => wpE b ρ S (fun y S1 => ∃ j : Int, y = .int j ∧ j < 2 ^ 40 ∧ -(2 ^ 40) < j ∧ K none ((List.range j.toNat).map fun (k : Nat) => D.int (k : Int)) S1) E
  | .rng2 a b, ρ, S, K, E => wpE a ρ S (fun x S1 => wpE b ρ S1 (fun y S2 => ∃ i j : Int, x = .int i ∧ y = .int j ∧ i < 2 ^ 40 ∧ -(2 ^ 40) < i ∧ j < 2 ^ 40 ∧ -(2 ^ 40) < j ∧ K none ((List.range (j - i).toNat).map fun (k : Nat) => D.int (i + (k : Int))) S2) E) E
  | .enum e, ρ, S, K, E => wpE e ρ S (fun x S1 => iterR x S1 fun src xs S2 => K src (xs.zipIdx.map fun p => .tup [.int p.2, p.1]) S2) E
  | .zip a b, ρ, S, K, E => wpE a ρ S (fun x S1 => wpE b ρ S1 (fun y S2 => ∃ xs ys, seqD S2 x = some xs ∧ seqD S2 y = some ys ∧ K none ((xs.zip ys).map fun p => .tup [p.1, p.2]) S2) E) E
end

/-- what is wanted behind a statement -/
structure Ct where
  nx : Rho → Sto → Prop
  rt : Post
  bk : Rho → Sto → Prop
  ct : Rho → Sto → Prop
  ex : Exn → Rho → Sto → Prop
def forW (src : Option Addr) (all : List D) (tg : Tg) (body : Rho → Sto → Ct → Prop) (C : Ct) : List D → Rho → Sto → Prop
  | [], ρ, S => Stab src all S ∧ C.nx ρ S
  | x :: xs, ρ, S => Stab src all S ∧ ∃ ρ1, setT tg x ρ = some ρ1 ∧ body ρ1 S { nx := forW src all tg body C xs, rt := C.rt, bk := C.nx, ct := forW src all tg body C xs, ex := C.ex }
def augR (op : Bop) (x y : D) (S : Sto) (Q : Post) : Prop :=
  match op, x, y with
  | .add, .int i, .int j => Q (.int (i + j)) S
  | .sub, .int i, .int j => Q (.int (i - j)) S
  | .add, .str s, .str t => s.length + t.length ≤ LIM ∧ Q (.str (s ++ t)) S
  | _, _, _ => False
mutual
def wpS : Sm → Rho → Sto → Ct → Prop
  | .expr e, ρ, S, C => wpE G e ρ S (fun _ S1 => C.nx ρ S1) fun x S1 => C.ex x ρ S1
  | .asg tg e, ρ, S, C => wpE G e ρ S (fun d S1 => ∃ ρ1, setT tg d ρ = some ρ1 ∧ C.nx ρ1 S1) fun x S1 => C.ex x ρ S1
  | .asgI o i e, ρ, S, C => wpE G e ρ S (fun v S1 => wpE G o ρ S1 (fun a S2 => wpE G i ρ S2 (fun k S3 => setR a k v S3 fun S4 => C.nx ρ S4)
      fun x S1 => C.ex x ρ S1) fun x S1 => C.ex x ρ S1) fun x S1 => C.ex x ρ S1
  | .aug i op e, ρ, S, C => ∃ x, ρ[i]? = some (some x) ∧ wpE G e ρ S (fun y S1 => augR op x y S1 fun z S2 => C.nx (ρ.set i (some z)) S2) fun x S1 => C.ex x ρ S1
  | .ifs c a b, ρ, S, C => wpE G c ρ S (fun v S1 => ∃ k, v = .bl k ∧ if k = true then wpB a ρ S1 C else wpB b ρ S1 C) fun x S1 => C.ex x ρ S1
  | .for tg it body, ρ, S, C => wpIt G it ρ S (fun src xs S1 => forW src xs tg (wpB body) C xs ρ S1) fun x S1 => C.ex x ρ S1
  | .whl c body, ρ, S, C => ∃ W : Nat → Rho → Sto → Prop, (∃ m, W m ρ S) ∧ ∀ m ρ S, W m ρ S → wpE G c ρ S (fun v S1 => ∃ k, v = .bl k ∧
      if k = true then wpB body ρ S1 { nx := fun ρ' S' => ∃ m', m' < m ∧ W m' ρ' S', rt := C.rt, bk := C.nx, ct := fun ρ' S' => ∃ m', m' < m ∧ W m' ρ' S', ex := C.ex } else C.nx ρ S1) fun x S1 => C.ex x ρ S1
  | .ret fr e, ρ, S, C => wpE G e ρ S (fun v S1 => if fr = true then ∃ p xs, v = .ref p ∧ S1 p = some (.lst xs) ∧ C.rt (.lst xs) (sdel S1 p) else C.rt v S1) fun x S1 => C.ex x ρ S1
  | .retN, ρ, S, C => C.rt .non S
  | .brk, ρ, S, C => C.bk ρ S
  | .cont, ρ, S, C => C.ct ρ S
  | .pass, ρ, S, C => C.nx ρ S
  | .raise c ns es, ρ, S, C => wpEs G es ρ S (fun vs S1 => C.ex ⟨c, ns.reverse, vs.reverse⟩ ρ S1) fun x S1 => C.ex x ρ S1
  | .tr body hs, ρ, S, C => wpB body ρ S { nx := C.nx, rt := C.rt, bk := C.bk, ct := C.ct, ex := fun x ρ1 S1 => wpHs hs x ρ1 S1 C }
def wpB : List Sm → Rho → Sto → Ct → Prop
  | [], ρ, S, C => C.nx ρ S
  | s :: ss, ρ, S, C => wpS s ρ S { nx := fun ρ1 S1 => wpB ss ρ1 S1 C, rt := C.rt, bk := C.bk, ct := C.ct, ex := C.ex }
def wpHs : List Hd → Exn → Rho → Sto → Ct → Prop
  | [], x, ρ, S, C => C.ex x ρ S
  | h :: hs, x, ρ, S, C => wpH h x ρ S C (wpHs hs x ρ S C)
def wpH : Hd → Exn → Rho → Sto → Ct → Prop → Prop
  | .mk c i b, x, ρ, S, C, els => if G.anc x.c c = true then
      match i with
      | none => wpB b ρ S { nx := C.nx, rt := C.rt, bk := C.bk, ct := C.ct, ex := fun _ _ _ => False }
      | some i => ∀ a d, wpB b (ρ.set i (some (.exc a d x.c x.ns x.fs))) S { nx := fun ρ1 S1 => C.nx (ρ1.set i none) S1, rt := C.rt, bk := fun ρ1 S1 => C.bk (ρ1.set i none) S1, ct := fun ρ1 S1 => C.ct (ρ1.set i none) S1, ex := fun _ _ _ => False }
    else els
end
end
end MP
/-! the operations by deep values -/
namespace MP
open PySem PySem.Spec PyProof.Rows L2

def fadd (F : Fz) (p : Addr) : Fz := fun b => F b ∨ b = p
section
variable {F F' : Fz} {K : PySem.W.Frag} {H H' : Hp} {cl : Nat → Option Addr} {S S' : Sto}

theorem RelS.sp (r : RelS F K cl S H) {a : Addr} {o : Ob} (e : S a = some o) : H a ≠ none := by
  have q := r.ob a o e
  cases o with
  | lst ds => obtain ⟨vs, q, _⟩ := q; rw [q]; exact fun z => by cases z
  | ins c fs => obtain ⟨C, dx, fvs, q, _⟩ := q; rw [q]; exact fun z => by cases z
  | dct kvs => obtain ⟨wvs, q, _⟩ := q; rw [q]; exact fun z => by cases z
theorem RelS.fresh (r : RelS F K cl S H) {p : Addr} (h : H p = none) : S p = none := by
  cases e : S p with
  | none => rfl
  | some o => exact absurd h (r.sp e)
theorem grow_new {p : Addr} (h : H p = none) (o : HO) : Grow S F H S (fadd F p) (upd H p o) where
  fz := fun b f => .inl f
  keep := fun b u e k => ⟨by rw [upd_ne (ne_of_none e h)]; exact e, k⟩
  new := fun b f => by
    rcases f with f | f
    · exact .inl f
    · subst f; exact .inr (.inl h)
theorem grow_newS {p : Addr} (h : H p = none) (o : HO) (u : Ob) : Grow S F H (supd S p u) F (upd H p o) where
  fz := fun b f => f
  keep := fun b u e k => ⟨by rw [upd_ne (ne_of_none e h)]; exact e, by rw [supd_ne (ne_of_none e h)]; exact k⟩
  new := fun b f => .inl f
theorem ObR.mono {a : Addr} {o : Ob} (hF : ∀ b, F b → F' b) (hH : ∀ b o, F b → H b = some o → H' b = some o) (ha : ∀ o, H a = some o → H' a = some o) (h : ObR F K cl H a o) : ObR F' K cl H' a o := by
  cases o with
  | lst ds => obtain ⟨vs, q, r⟩ := h; exact ⟨vs, ha _ q, r.mono hF hH⟩
  | ins c fs => obtain ⟨C, dx, fvs, q, e, n, r⟩ := h; exact ⟨C, dx, fvs, ha _ q, e, n, r.mono hF hH⟩
  | dct kvs => obtain ⟨wvs, q, n, r⟩ := h; exact ⟨wvs, ha _ q, n, r.mono hF hH⟩
theorem RelS.new (r : RelS F K cl S H) {p : Addr} (h : H p = none) (o : HO) : RelS (fadd F p) K cl S (upd H p o) where
  ob := fun a u e => (r.ob a u e).mono (fun b f => .inl f) (fun b u f q => by rw [upd_ne (ne_of_none q h)]; exact q) fun u q => by rw [upd_ne (ne_of_none q h)]; exact q
  nf := fun a f => by
    rcases f with f | f
    · exact r.nf a f
    · subst f; exact r.fresh h
  fh := fun a f => by
    rcases f with f | f
    · have q := r.fh a f
      rw [upd_ne (fun z => by subst z; exact q h)]; exact q
    · subst f; rw [upd_same]; exact fun z => by cases z
theorem RelS.newS (r : RelS F K cl S H) {p : Addr} (h : H p = none) {xs : List D} {vs : List V} (q : RepL F K H xs vs) : RelS F K cl (supd S p (.lst xs)) (upd H p (.lst vs)) where
  ob := fun a u e => by
    have up : ∀ b u, H b = some u → upd H p (.lst vs) b = some u := fun b u q => by rw [upd_ne (ne_of_none q h)]; exact q
    by_cases ha : a = p
    · subst ha
      rw [supd_same] at e; cases e
      exact ⟨vs, upd_same, q.mono (fun b f => f) fun b u _ q => up b u q⟩
    · rw [supd_ne ha] at e
      exact (r.ob a u e).mono (fun b f => f) (fun b u _ q => up b u q) fun u q => up a u q
  nf := fun a f => by
    have q := r.fh a f
    rw [supd_ne (fun z => by subst z; exact q h)]; exact r.nf a f
  fh := fun a f => by
    have q := r.fh a f
    rw [upd_ne (fun z => by subst z; exact q h)]; exact q
theorem RelS.setL (r : RelS F K cl S H) {p : Addr} {o : Ob} (h : S p = some o) {xs : List D} {vs : List V} (q : RepL F K H xs vs) : RelS F K cl (supd S p (.lst xs)) (upd H p (.lst vs)) where
  ob := fun a u e => by
    have up : ∀ b u, F b → H b = some u → upd H p (.lst vs) b = some u := fun b u f q => by
      rw [upd_ne]; exact q
      intro z; subst z; rw [r.nf b f] at h; cases h
    by_cases ha : a = p
    · subst ha
      rw [supd_same] at e; cases e
      exact ⟨vs, upd_same, q.mono (fun b f => f) up⟩
    · rw [supd_ne ha] at e
      exact (r.ob a u e).mono (fun b f => f) up fun u q => by rw [upd_ne ha]; exact q
  nf := fun a f => by
    rw [supd_ne]; exact r.nf a f
    intro z; subst z; rw [r.nf a f] at h; cases h
  fh := fun a f => by
    have q := r.fh a f
    by_cases ha : a = p
    · subst ha; rw [upd_same]; exact fun z => by cases z
    · rw [upd_ne ha]; exact q
theorem RelS.setOb (r : RelS F K cl S H) {p : Addr} {o : Ob} (h : S p = some o) {u : Ob} {w : HO} (q : ObR F K cl (upd H p w) p u) : RelS F K cl (supd S p u) (upd H p w) where
  ob := fun a x e => by
    have up : ∀ b y, F b → H b = some y → upd H p w b = some y := fun b y f q => by
      rw [upd_ne]; exact q
      intro z; subst z; rw [r.nf b f] at h; cases h
    by_cases ha : a = p
    · subst ha
      rw [supd_same] at e; cases e
      exact q
    · rw [supd_ne ha] at e
      exact (r.ob a x e).mono (fun b f => f) up fun y q => by rw [upd_ne ha]; exact q
  nf := fun a f => by
    rw [supd_ne]; exact r.nf a f
    intro z; subst z; rw [r.nf a f] at h; cases h
  fh := fun a f => by
    have q := r.fh a f
    by_cases ha : a = p
    · subst ha; rw [upd_same]; exact fun z => by cases z
    · rw [upd_ne ha]; exact q
theorem grow_set {p : Addr} {u : Ob} (h : S p = some u) (o : HO) (w : Ob) : Grow S F H (supd S p w) F (upd H p o) where
  fz := fun b f => f
  keep := fun b x e k => by
    have ne : b ≠ p := fun z => by subst z; rw [h] at k; cases k
    exact ⟨by rw [upd_ne ne]; exact e, by rw [supd_ne ne]; exact k⟩
  new := fun b f => .inl f

/-- the end of an operation -/
def Fin (K : PySem.W.Frag) (cl : Nat → Option Addr) (S : Sto) (F : Fz) (H : Hp) (Q : Post) (Qh : VK) : Prop :=
  ∀ d S' F' v H', Grow S F H S' F' H' → RelS F' K cl S' H' → Rep F' K H' d v → Q d S' → Qh v H'
theorem Fin.here {Q : Post} {Qh : VK} {d : D} {v : V} (f : Fin K cl S F H Q Qh) (r : RelS F K cl S H) (h : Rep F K H d v) (q : Q d S) : Qh v H := f d S F v H .refl r h q
theorem Fin.grow {Q : Post} {Qh : VK} (f : Fin K cl S F H Q Qh) (g : Grow S F H S' F' H') : Fin K cl S' F' H' Q Qh := fun d S2 F2 v H2 g2 r h q => f d S2 F2 v H2 (g.trans g2) r h q
/-- a new tuple -/
theorem Fin.tup {Q : Post} {Qh : VK} {xs : List D} {vs : List V} {p : Addr} (f : Fin K cl S F H Q Qh) (r : RelS F K cl S H) (h : RepL F K H xs vs) (hp : H p = none) (q : Q (.tup xs) S) : Qh (.ref p) (upd H p (.tup vs)) := by
  refine f _ S (fadd F p) _ _ (grow_new hp _) (r.new hp _) ?_ q
  simp only [Rep]
  exact ⟨p, vs, rfl, .inl ⟨.inr rfl, .inl upd_same⟩, h.mono (fun b f => .inl f) fun b u _ e => by rw [upd_ne (ne_of_none e hp)]; exact e⟩
/-- a new list -/
theorem Fin.lst {Q : Post} {Qh : VK} {m : Bool} {xs : List D} {vs : List V} {p : Addr} (f : Fin K cl S F H Q Qh) (r : RelS F K cl S H) (h : RepL F K H xs vs) (hp : H p = none) (q : newL m xs S Q) : Qh (.ref p) (upd H p (.lst vs)) := by
  unfold newL at q
  cases m with
  | true =>
    rw [if_pos rfl] at q
    exact f _ _ F _ _ (grow_newS hp _ _) (r.newS hp h) (by simp [Rep]) (q p (r.fresh hp))
  | false =>
    rw [if_neg Bool.false_ne_true] at q
    refine f _ S (fadd F p) _ _ (grow_new hp _) (r.new hp _) ?_ q
    simp only [Rep]
    exact ⟨p, vs, rfl, .inr rfl, upd_same, h.mono (fun b f => .inl f) fun b u _ e => by rw [upd_ne (ne_of_none e hp)]; exact e⟩
/-- a list changed -/
theorem Fin.set {Q : Post} {Qh : VK} {d : D} {v : V} {xs : List D} {vs : List V} {p : Addr} {o : Ob} (f : Fin K cl S F H Q Qh) (r : RelS F K cl S H) (e : S p = some o) (h : RepL F K H xs vs) (hd : Rep F K H d v) (q : Q d (supd S p (.lst xs))) :
    Qh v (upd H p (.lst vs)) := by
  refine f d _ F v _ (grow_set e _ _) (r.setL e h) (hd.mono (fun b f => f) fun b u g q => ?_) q
  rw [upd_ne]; exact q
  intro z; subst z; rw [r.nf b g] at e; cases e

theorem listD_at {d : D} {v : V} {xs : List D} (r : RelS F K cl S H) (h : Rep F K H d v) (e : listD S d = some xs) : ∃ a vs, v = .ref a ∧ H a = some (.lst vs) ∧ RepL F K H xs vs := by
  cases d with
  | lst ys =>
    simp only [listD, Option.some.injEq] at e
    subst e
    obtain ⟨a, vs, e, _, q, rp⟩ := h.lst
    exact ⟨a, vs, e, q, rp⟩
  | ref a =>
    simp only [listD] at e
    simp only [Rep] at h
    subst h
    split at e
    · rename_i ys he
      cases e
      obtain ⟨vs, q, rp⟩ := r.ob a _ he
      exact ⟨a, vs, rfl, q, rp⟩
    · cases e
  | _ => simp [listD] at e
theorem seqD_at {d : D} {v : V} {xs : List D} (r : RelS F K cl S H) (h : Rep F K H d v) (e : seqD S d = some xs) : ∃ a vs, v = .ref a ∧ (SqL K H a vs ∨ SqT K H a vs) ∧ RepL F K H xs vs := by
  cases d with
  | tup ys =>
    simp only [seqD, Option.some.injEq] at e
    subst e
    obtain ⟨a, vs, e, q, rp⟩ := h.tup
    exact ⟨a, vs, e, .inr q, rp⟩
  | lst ys =>
    simp only [seqD, Option.some.injEq] at e
    subst e
    obtain ⟨a, vs, e, _, q, rp⟩ := h.lst
    exact ⟨a, vs, e, .inl (SqL.of q), rp⟩
  | scr ys =>
    simp only [seqD, Option.some.injEq] at e
    subst e
    obtain ⟨a, vs, e, q, rp⟩ := h.scr
    exact ⟨a, vs, e, .inl q, rp⟩
  | ref a =>
    simp only [seqD] at e
    simp only [Rep] at h
    subst h
    split at e
    · rename_i ys he
      cases e
      obtain ⟨vs, q, rp⟩ := r.ob a _ he
      exact ⟨a, vs, rfl, .inl (SqL.of q), rp⟩
    · cases e
  | _ => simp [seqD] at e

def r2D (K : PySem.W.Frag) (cl : Nat → Option Addr) (R : D → D → Sto → Post → Prop) : R2 := fun v1 v2 H Qh =>
  ∃ d1 d2 S F Q, Rep F K H d1 v1 ∧ Rep F K H d2 v2 ∧ RelS F K cl S H ∧ R d1 d2 S Q ∧ Fin K cl S F H Q Qh
def toOp : Bop → Operator
  | .add => .Add | .sub => .Sub | .mul => .Mult | .fdiv => .FloorDiv | .mod => .Mod | .pow => .Pow
theorem rep_int {i : Int} : Rep F K H (.int i) (.int i) := by simp [Rep]
theorem rep_bl {i : Bool} : Rep F K H (.bl i) (.bl i) := by simp [Rep]
theorem rep_non : Rep F K H .non .non := by simp [Rep]
theorem rep_str {s : List Nat} (h : okS s) : Rep F K H (.str s) (.str (mkS s)) := by simp [Rep, h]
theorem okS_append {s t : List Nat} (h1 : okS s) (h2 : okS t) (h : s.length + t.length ≤ LIM) : okS (s ++ t) := ⟨by simpa using h, fun c hc => (List.mem_append.mp hc).elim (h1.2 c) (h2.2 c)⟩
theorem lim_line : LIM ≤ sizeLine := by rw [sizeLine_eq]; decide
theorem RepL.rep {xs : List D} {vs : List V} (h : RepL F K H xs vs) : ∀ k : Nat, RepL F K H (List.replicate k xs).flatten (List.replicate k vs).flatten
  | 0 => by simp [RepL]
  | k + 1 => by
    rw [List.replicate_succ, List.replicate_succ, List.flatten_cons, List.flatten_cons]
    exact h.append (RepL.rep h k)
theorem RepL.eq_nil {xs : List D} {vs : List V} (h : RepL F K H xs vs) : vs = [] ↔ xs = [] := by
  have e := h.length
  constructor
  · intro z; subst z; simpa using e
  · intro z; subst z; simpa using e.symm

end
section
variable {X : Cx} {cl : Nat → Option Addr}
theorem opB (op : Bop) (m : Bool) : OpR X (binaryOp (toOp op)) (r2D X.K cl (binR op m)) := by
  intro pins s σ H v1 v2 u1 u2 Qh I r1 r2 h
  obtain ⟨x, y, S, F, Q, h1, h2, rs, q, fin⟩ := h
  cases op with
  | sub =>
    simp only [binR] at q
    split at q
    · simp only [Rep] at h1 h2; subst h1 h2
      exact op_sub pins s σ H _ _ _ _ _ I r1 r2 ⟨_, _, rfl, rfl, fin.here rs rep_int q⟩
    · exact q.elim
  | mod =>
    simp only [binR] at q
    split at q
    · simp only [Rep] at h1 h2; subst h1 h2
      exact op_mod pins s σ H _ _ _ _ _ I r1 r2 ⟨_, _, rfl, rfl, q.1, fin.here rs rep_int q.2⟩
    · exact q.elim
  | pow =>
    simp only [binR] at q
    split at q
    · simp only [Rep] at h1 h2; subst h1 h2
      exact op_pow pins s σ H _ _ _ _ _ I r1 r2 ⟨_, _, rfl, rfl, q.1, fin.here rs rep_int q.2⟩
    · exact q.elim
  | fdiv =>
    simp only [binR] at q
    split at q
    · rename_i i j
      simp only [Rep] at h1 h2; subst h1 h2
      obtain ⟨q1, q2, q3⟩ := q
      have l : j.natAbs < 2 ^ 200 := by
        have e : (2 : Nat) ^ 200 = 1606938044258990275541962092341162602522202993782792835301376 := by decide
        rw [e]; omega
      exact op_fdivW pins s σ H _ _ _ _ _ I r1 r2 ⟨_, _, rfl, rfl, wide_div q1 l (by decide) (by decide), fin.here rs rep_int q3⟩
    · exact q.elim
  | mul =>
    simp only [binR] at q
    split at q
    · simp only [Rep] at h1 h2; subst h1 h2
      exact op_mul pins s σ H _ _ _ _ _ I r1 r2 ⟨_, _, rfl, rfl, q.1, fin.here rs rep_int q.2⟩
    · obtain ⟨a, vs, rfl, ht, hr⟩ := h1.tup
      simp only [Rep] at h2; subst h2
      obtain ⟨q1, q2, q3, q4, q5⟩ := q
      exact op_repT pins s σ H _ _ _ _ _ I r1 r2 ⟨_, _, _, rfl, rfl, ht, fun z => q1 (hr.eq_nil.mp z), q2, q3, by rw [← hr.length]; exact q4, fun p hp => fin.tup rs (hr.rep _) hp q5⟩
    · obtain ⟨xs, q1, q2, q3, q4, q5⟩ := q
      obtain ⟨a, vs, rfl, ha, hr⟩ := listD_at rs h1 q1
      simp only [Rep] at h2; subst h2
      exact op_rep pins s σ H _ _ _ _ _ I r1 r2 ⟨_, _, _, rfl, rfl, ha, by omega, by omega, by rw [← hr.length]; exact q4, fun p hp => fin.lst rs (hr.rep _) hp q5⟩
    · exact q.elim
  | add =>
    simp only [binR] at q
    split at q
    · simp only [Rep] at h1 h2; subst h1 h2
      exact op_add pins s σ H _ _ _ _ _ I r1 r2 ⟨_, _, rfl, rfl, fin.here rs rep_int q⟩
    · rename_i a b
      simp only [Rep] at h1 h2
      obtain ⟨rfl, o1⟩ := h1
      obtain ⟨rfl, o2⟩ := h2
      refine op_add_str pins s σ H _ _ _ _ _ I r1 r2 ⟨_, _, rfl, rfl, ?_, ?_⟩
      · rw [mkS_length, mkS_length]; exact Nat.le_trans q.1 lim_line
      · rw [mkS_append]
        exact fin.here rs (rep_str (okS_append o1 o2 q.1)) q.2
    · obtain ⟨a, vs, rfl, ht, hr⟩ := h1.tup
      obtain ⟨b, ws, rfl, hu, hr2⟩ := h2.tup
      refine op_catA pins s σ H _ _ _ _ _ I r1 r2 ⟨_, _, _, _, rfl, rfl, ht, hu, by rw [← hr.length, ← hr2.length]; exact q.1, fun e => ?_, fun _ e => ?_, fun _ _ p hp => fin.tup rs (hr.append hr2) hp q.2⟩
      · have e' := hr.eq_nil.mp e
        subst e'
        exact fin.here rs h2 (by simpa using q.2)
      · have e' := hr2.eq_nil.mp e
        subst e'
        exact fin.here rs h1 (by simpa using q.2)
    · obtain ⟨xs, ys, q1, q2, q3, q4⟩ := q
      obtain ⟨a, vs, rfl, ha, hr⟩ := listD_at rs h1 q1
      obtain ⟨b, ws, rfl, hb, hr2⟩ := listD_at rs h2 q2
      exact op_cat pins s σ H _ _ _ _ _ I r1 r2 ⟨_, _, _, _, rfl, rfl, ha, hb, by rw [← hr.length, ← hr2.length]; exact q3, fun p hp => fin.lst rs (hr.append hr2) hp q4⟩

/-! ### comparisons -/
mutual
def pyD : D → PyData
  | .non => .none
  | .bl b => .bool b
  | .int i => .int i
  | .str s => .str (mkS s)
  | .tup xs => .tuple (pyL xs)
  | .lst xs => .list (pyL xs)
  | _ => .none
def pyL : List D → List PyData
  | [] => []
  | d :: ds => pyD d :: pyL ds
end
mutual
theorem py_eqv : ∀ (d e : D), plain d = true → plain e = true → PyData.eqv (pyD d) (pyD e) = eqb d e
  | .non, e, _, h => by cases e <;> simp_all [pyD, PyData.eqv, eqb, plain]
  | .bl _, e, _, h => by cases e <;> simp_all [pyD, PyData.eqv, eqb, plain]
  | .int _, e, _, h => by cases e <;> simp_all [pyD, PyData.eqv, eqb, plain]
  | .str s, e, _, h => by
    cases e with
    | str t =>
      simp only [pyD, PyData.eqv, eqb]
      rw [Bool.eq_iff_iff]
      simp only [beq_iff_eq]
      exact ⟨fun z => mkS_inj z, fun z => by rw [z]⟩
    | _ => simp_all [pyD, PyData.eqv, eqb, plain]
  | .tup xs, e, g, h => by
    cases e with
    | tup ys => simp only [pyD, PyData.eqv, eqb]; exact pyL_eqv xs ys (by simpa [plain] using g) (by simpa [plain] using h)
    | _ => simp_all [pyD, PyData.eqv, eqb, plain]
  | .lst xs, e, g, h => by
    cases e with
    | lst ys => simp only [pyD, PyData.eqv, eqb]; exact pyL_eqv xs ys (by simpa [plain] using g) (by simpa [plain] using h)
    | _ => simp_all [pyD, PyData.eqv, eqb, plain]
  | .ref _, _, g, _ => by simp [plain] at g
  | .exc .., _, g, _ => by simp [plain] at g
  | .scr _, _, g, _ => by simp [plain] at g
  | .tpx _, _, g, _ => by simp [plain] at g
theorem pyL_eqv : ∀ (xs ys : List D), plainL xs = true → plainL ys = true → PyData.eqvAll (pyL xs) (pyL ys) = eqbL xs ys
  | [], [], _, _ => by simp [pyL, PyData.eqvAll, eqbL]
  | [], _ :: _, _, _ => by simp [pyL, PyData.eqvAll, eqbL]
  | _ :: _, [], _, _ => by simp [pyL, PyData.eqvAll, eqbL]
  | x :: xs, y :: ys, g, h => by
    simp only [plainL, Bool.and_eq_true] at g h
    simp only [pyL, PyData.eqvAll, eqbL, py_eqv x y g.1 h.1, pyL_eqv xs ys g.2 h.2]
end
mutual
theorem py_dep : ∀ d : D, (pyD d).depth = dep d
  | .tup xs => by simp only [pyD, PyData.depth, dep, pyL_dep xs]
  | .lst xs => by simp only [pyD, PyData.depth, dep, pyL_dep xs]
  | .non => by simp [pyD, PyData.depth, dep]
  | .bl _ => by simp [pyD, PyData.depth, dep]
  | .int _ => by simp [pyD, PyData.depth, dep]
  | .str _ => by simp [pyD, PyData.depth, dep]
  | .ref _ => by simp [pyD, PyData.depth, dep]
  | .exc .. => by simp [pyD, PyData.depth, dep]
  | .scr _ => by simp [pyD, PyData.depth, dep]
  | .tpx _ => by simp [pyD, PyData.depth, dep]
theorem pyL_dep : ∀ xs : List D, PyData.depthAll (pyL xs) = depL xs
  | [] => by simp [pyL, PyData.depthAll, depL]
  | x :: xs => by simp only [pyL, PyData.depthAll, depL, py_dep x, pyL_dep xs]
end
variable {F : Fz} {K : PySem.W.Frag} {H : Hp} {S : Sto}
mutual
theorem py_rep : ∀ (d : D) (v : V), plain d = true → Rep F K H d v → Dp K H v (pyD d) ∧ (pyD d).canLay0 = true
  | .non, v, _, h => by simp only [Rep] at h; subst h; exact ⟨.non, by simp [pyD, PyData.canLay0]⟩
  | .bl b, v, _, h => by simp only [Rep] at h; subst h; exact ⟨.bl b, by simp [pyD, PyData.canLay0]⟩
  | .int i, v, _, h => by simp only [Rep] at h; subst h; exact ⟨.int i, by simp [pyD, PyData.canLay0]⟩
  | .str s, v, _, h => by
    simp only [Rep] at h
    obtain ⟨rfl, h⟩ := h
    refine ⟨.str _, ?_⟩
    simp only [pyD, PyData.canLay0, PyData.strOk, mkS]
    simp
    exact h.2
  | .tup xs, v, g, h => by
    obtain ⟨a, vs, rfl, q, r⟩ := h.tup
    obtain ⟨h1, h2⟩ := pyL_rep xs vs (by simpa [plain] using g) r
    exact ⟨.tup q h1, by simpa [pyD, PyData.canLay0] using h2⟩
  | .lst xs, v, g, h => by
    obtain ⟨a, vs, rfl, _, q, r⟩ := h.lst
    obtain ⟨h1, h2⟩ := pyL_rep xs vs (by simpa [plain] using g) r
    exact ⟨.lst (SqL.of q) h1, by simpa [pyD, PyData.canLay0] using h2⟩
  | .ref _, _, g, _ => by simp [plain] at g
  | .exc .., _, g, _ => by simp [plain] at g
  | .scr _, _, g, _ => by simp [plain] at g
  | .tpx _, _, g, _ => by simp [plain] at g
theorem pyL_rep : ∀ (xs : List D) (vs : List V), plainL xs = true → RepL F K H xs vs → DpAll K H vs (pyL xs) ∧ PyData.canLayAll0 (pyL xs) = true
  | [], vs, _, h => by simp only [RepL] at h; subst h; exact ⟨.nil, by simp [pyL, PyData.canLayAll0]⟩
  | x :: xs, vs, g, h => by
    simp only [plainL, Bool.and_eq_true] at g
    simp only [RepL] at h
    obtain ⟨v, r, rfl, h1, h2⟩ := h
    obtain ⟨p1, p2⟩ := py_rep x v g.1 h1
    obtain ⟨q1, q2⟩ := pyL_rep xs r g.2 h2
    exact ⟨.cons p1 q1, by simp [pyL, PyData.canLayAll0, p2, q2]⟩
end
theorem dat_rep {d d' : D} {v : V} (r : RelS F K cl S H) (h : Rep F K H d v) (e : datD S d = some d') (g : plain d' = true) : Dp K H v (pyD d') ∧ (pyD d').canLay0 = true := by
  cases d with
  | ref a =>
    simp only [datD] at e
    simp only [Rep] at h
    subst h
    split at e
    · rename_i xs he
      cases e
      obtain ⟨vs, q, rp⟩ := r.ob a _ he
      obtain ⟨h1, h2⟩ := pyL_rep xs vs (by simpa [plain] using g) rp
      exact ⟨.lst (SqL.of q) h1, by simpa [pyD, PyData.canLay0] using h2⟩
    · cases e
  | _ => simp only [datD, Option.some.injEq] at e; subst e; exact py_rep _ v g h
theorem ltL_iff : ∀ s t : List Nat, ltL s t = decide (s < t)
  | _, [] => by simp [ltL]
  | [], _ :: _ => by simp [ltL]
  | x :: xs, y :: ys => by
    simp only [ltL, ltL_iff xs ys, List.cons_lt_cons_iff]
    by_cases h : x = y
    · subst h; simp
    · simp [h]
def toCo : Cop → CmpOp
  | .lt => .Lt | .le => .LtE | .gt => .Gt | .ge => .GtE | .eq => .Eq | .ne => .NotEq | .isin => .In | .notin => .NotIn
theorem seq_dat {d : D} {v : V} {xs : List D} {σ : L2.St} {pins : List (Addr × Obj)} {s : Shared} {u : Value} (I : Inv X pins σ H s) (ru : RelV v u) (r : RelS F X.K cl S H) (h : Rep F X.K H d v) (e : seqD S d = some xs) (g : plainL xs = true) :
    PyData.canLayAll0 (pyL xs) = true ∧ ((∃ as, Reads s.heap u (.list (pyL xs)) as) ∨ ∃ as, Reads s.heap u (.tuple (pyL xs)) as) := by
  obtain ⟨a, vs, rfl, q, rp⟩ := seqD_at r h e
  obtain ⟨h1, h2⟩ := pyL_rep xs vs g rp
  refine ⟨h2, ?_⟩
  rcases q with q | q
  · exact .inl (Dp.reads I _ _ _ (.lst q h1) ru)
  · exact .inr (Dp.reads I _ _ _ (.tup q h1) ru)
theorem opC (hu : X.A.units + 70 < cLine) (op : Cop) : OpR X (compareOp (toCo op)) (r2D X.K cl (cmpR op)) := by
  intro pins s σ H v1 v2 u1 u2 Qh I r1 r2 h
  obtain ⟨x, y, S, F, Q, h1, h2, rs, q, fin⟩ := h
  cases op with
  | lt =>
    simp only [cmpR] at q
    split at q
    · simp only [Rep] at h1 h2; subst h1 h2
      exact op_lt pins s σ H _ _ _ _ _ I r1 r2 ⟨_, _, rfl, rfl, fin.here rs rep_bl q⟩
    · simp only [Rep] at h1 h2
      obtain ⟨rfl, o1⟩ := h1
      obtain ⟨rfl, o2⟩ := h2
      refine op_lt_str pins s σ H _ _ _ _ _ I r1 r2 ⟨_, _, rfl, rfl, ?_⟩
      rw [mkS_cps, mkS_cps, ← ltL_iff]
      exact fin.here rs rep_bl q
    · exact q.elim
  | le =>
    simp only [cmpR] at q
    split at q
    · simp only [Rep] at h1 h2; subst h1 h2
      exact op_le pins s σ H _ _ _ _ _ I r1 r2 ⟨_, _, rfl, rfl, fin.here rs rep_bl q⟩
    · simp only [Rep] at h1 h2
      obtain ⟨rfl, o1⟩ := h1
      obtain ⟨rfl, o2⟩ := h2
      refine op_le_str pins s σ H _ _ _ _ _ I r1 r2 ⟨_, _, rfl, rfl, ?_⟩
      rw [mkS_cps, mkS_cps, ← ltL_iff]
      exact fin.here rs rep_bl q
    · exact q.elim
  | gt =>
    simp only [cmpR] at q
    split at q
    · simp only [Rep] at h1 h2; subst h1 h2
      exact op_gt pins s σ H _ _ _ _ _ I r1 r2 ⟨_, _, rfl, rfl, fin.here rs rep_bl q⟩
    · simp only [Rep] at h1 h2
      obtain ⟨rfl, o1⟩ := h1
      obtain ⟨rfl, o2⟩ := h2
      refine op_gt_str pins s σ H _ _ _ _ _ I r1 r2 ⟨_, _, rfl, rfl, ?_⟩
      rw [mkS_cps, mkS_cps, ← ltL_iff]
      exact fin.here rs rep_bl q
    · exact q.elim
  | ge =>
    simp only [cmpR] at q
    split at q
    · simp only [Rep] at h1 h2; subst h1 h2
      exact op_ge pins s σ H _ _ _ _ _ I r1 r2 ⟨_, _, rfl, rfl, fin.here rs rep_bl q⟩
    · simp only [Rep] at h1 h2
      obtain ⟨rfl, o1⟩ := h1
      obtain ⟨rfl, o2⟩ := h2
      refine op_ge_str pins s σ H _ _ _ _ _ I r1 r2 ⟨_, _, rfl, rfl, ?_⟩
      rw [mkS_cps, mkS_cps, ← ltL_iff]
      exact fin.here rs rep_bl q
    · exact q.elim
  | eq =>
    simp only [cmpR] at q
    obtain ⟨x', y', e1, e2, g1, g2, hd, q⟩ := q
    obtain ⟨p1, c1⟩ := dat_rep rs h1 e1 g1
    obtain ⟨p2, c2⟩ := dat_rep rs h2 e2 g2
    obtain ⟨as, t1⟩ := Dp.reads I _ _ _ p1 r1
    obtain ⟨bs, t2⟩ := Dp.reads I _ _ _ p2 r2
    refine SeqAt.compareEq_reads t1 t2 c1 c2 ?_ ⟨.bl _, H, I, rfl, ?_⟩
    · rw [py_dep, py_dep]; omega
    · rw [py_eqv _ _ g1 g2]; exact fin.here rs rep_bl q
  | ne =>
    simp only [cmpR] at q
    obtain ⟨x', y', e1, e2, g1, g2, hd, q⟩ := q
    obtain ⟨p1, c1⟩ := dat_rep rs h1 e1 g1
    obtain ⟨p2, c2⟩ := dat_rep rs h2 e2 g2
    obtain ⟨as, t1⟩ := Dp.reads I _ _ _ p1 r1
    obtain ⟨bs, t2⟩ := Dp.reads I _ _ _ p2 r2
    refine SeqAt.compareNe_reads t1 t2 c1 c2 ?_ ⟨.bl _, H, I, rfl, ?_⟩
    · rw [py_dep, py_dep]; omega
    · rw [py_eqv _ _ g1 g2]; exact fin.here rs rep_bl q
  | isin =>
    simp only [cmpR] at q
    split at q
    · obtain ⟨c, rfl, q⟩ := q
      simp only [Rep] at h1 h2
      obtain ⟨rfl, o1⟩ := h1
      obtain ⟨rfl, o2⟩ := h2
      refine op_in_sign pins s σ H _ _ _ _ _ I r1 r2 ⟨_, _, rfl, rfl, ?_⟩
      rw [mkS_cps]
      exact fin.here rs rep_bl q
    · obtain ⟨ys, e, g1, g2, hd, q⟩ := q
      obtain ⟨p1, c1⟩ := py_rep x v1 g1 h1
      obtain ⟨as, t1⟩ := Dp.reads I _ _ _ p1 r1
      obtain ⟨c2, t2⟩ := seq_dat I r2 rs h2 e g2
      have e2 : ((pyL ys).any fun z => PyData.eqv z (pyD x)) = ys.any fun z => eqb z x := by
        clear e hd q t2 c2
        induction ys with
        | nil => rfl
        | cons z zs ih =>
          simp only [plainL, Bool.and_eq_true] at g2
          simp only [pyL, List.any_cons, py_eqv z x g2.1 g1, ih g2.2]
      have hq : EP X pins σ Qh (.bool ((pyL ys).any fun z => PyData.eqv z (pyD x))) s := ⟨.bl _, H, I, rfl, by rw [e2]; exact fin.here rs rep_bl q⟩
      rcases t2 with ⟨bs, t2⟩ | ⟨bs, t2⟩
      · exact SeqAt.in_list_reads t2 t1 c2 c1 (by rw [pyL_dep, py_dep]; omega) hq
      · exact SeqAt.in_tuple_reads t2 t1 c2 c1 (by rw [pyL_dep, py_dep]; omega) hq
  | notin =>
    simp only [cmpR] at q
    split at q
    · obtain ⟨c, rfl, q⟩ := q
      simp only [Rep] at h1 h2
      obtain ⟨rfl, o1⟩ := h1
      obtain ⟨rfl, o2⟩ := h2
      refine op_notIn_sign pins s σ H _ _ _ _ _ I r1 r2 ⟨_, _, rfl, rfl, ?_⟩
      rw [mkS_cps]
      exact fin.here rs rep_bl q
    · obtain ⟨ys, e, g1, g2, hd, q⟩ := q
      obtain ⟨p1, c1⟩ := py_rep x v1 g1 h1
      obtain ⟨as, t1⟩ := Dp.reads I _ _ _ p1 r1
      obtain ⟨c2, t2⟩ := seq_dat I r2 rs h2 e g2
      have e2 : ((pyL ys).any fun z => PyData.eqv z (pyD x)) = ys.any fun z => eqb z x := by
        clear e hd q t2 c2
        induction ys with
        | nil => rfl
        | cons z zs ih =>
          simp only [plainL, Bool.and_eq_true] at g2
          simp only [pyL, List.any_cons, py_eqv z x g2.1 g1, ih g2.2]
      have hq : EP X pins σ Qh (.bool (!(pyL ys).any fun z => PyData.eqv z (pyD x))) s := ⟨.bl _, H, I, rfl, by rw [e2]; exact fin.here rs rep_bl q⟩
      rcases t2 with ⟨bs, t2⟩ | ⟨bs, t2⟩
      · exact SeqAt.notIn_list_reads t2 t1 c2 c1 (by rw [pyL_dep, py_dep]; omega) hq
      · exact SeqAt.notIn_tuple_reads t2 t1 c2 c1 (by rw [pyL_dep, py_dep]; omega) hq
end
end MP
/-! built-ins, methods, places, slices by deep values -/
namespace MP
open PySem PySem.Spec PyProof.Rows L2
section
variable {F F' : Fz} {K : PySem.W.Frag} {H H' : Hp} {cl : Nat → Option Addr} {S S' : Sto}
def rlD (K : PySem.W.Frag) (cl : Nat → Option Addr) (R : List D → Sto → Post → Prop) : List V → Hp → VK → Prop := fun vs H Qh =>
  ∃ ds S F Q, RepL F K H ds vs ∧ RelS F K cl S H ∧ R ds S Q ∧ Fin K cl S F H Q Qh
def rmD (K : PySem.W.Frag) (cl : Nat → Option Addr) (R : D → List D → Sto → Post → Prop) : V → List V → Hp → VK → Prop := fun v vs H Qh =>
  ∃ d ds S F Q, Rep F K H d v ∧ RepL F K H ds vs ∧ RelS F K cl S H ∧ R d ds S Q ∧ Fin K cl S F H Q Qh
theorem RepL.one_iff {d : D} {vs : List V} (h : RepL F K H [d] vs) : ∃ v, vs = [v] ∧ Rep F K H d v := by
  simp only [RepL] at h
  obtain ⟨v, r, e, h1, h2⟩ := h
  subst h2
  exact ⟨v, e, h1⟩
theorem RepL.two_iff {d e : D} {vs : List V} (h : RepL F K H [d, e] vs) : ∃ v w, vs = [v, w] ∧ Rep F K H d v ∧ Rep F K H e w := by
  simp only [RepL] at h
  obtain ⟨v, r, e, h1, w, r2, e2, h2, h3⟩ := h
  subst h3 e2
  exact ⟨v, w, e, h1, h2⟩
theorem RepL.nil_iff {vs : List V} (h : RepL F K H [] vs) : vs = [] := by simpa only [RepL] using h
theorem repL_bl : ∀ {bs : List Bool} {vs : List V}, RepL F K H (bs.map D.bl) vs → vs = bs.map V.bl
  | [], vs, h => h.nil_iff
  | b :: bs, vs, h => by
    simp only [List.map_cons, RepL, Rep] at h
    obtain ⟨v, r, e, h1, h2⟩ := h
    rw [e, h1, repL_bl h2]; rfl
theorem repL_int : ∀ {bs : List Int} {vs : List V}, RepL F K H (bs.map D.int) vs → vs = bs.map V.int
  | [], vs, h => h.nil_iff
  | b :: bs, vs, h => by
    simp only [List.map_cons, RepL, Rep] at h
    obtain ⟨v, r, e, h1, h2⟩ := h
    rw [e, h1, repL_int h2]; rfl
theorem repL_str : ∀ {bs : List (List Nat)} {vs : List V}, RepL F K H (bs.map D.str) vs → vs = (bs.map mkS).map V.str ∧ ∀ s ∈ bs, okS s
  | [], vs, h => ⟨h.nil_iff, by simp⟩
  | b :: bs, vs, h => by
    simp only [List.map_cons, RepL, Rep] at h
    obtain ⟨v, r, e, ⟨h1, h3⟩, h2⟩ := h
    obtain ⟨k1, k2⟩ := repL_str h2
    rw [e, h1, k1]
    exact ⟨rfl, by simp [h3]; exact k2⟩
theorem repL_strs : ∀ {bs : List (List Nat)}, (∀ s ∈ bs, okS s) → RepL F K H (bs.map D.str) ((bs.map mkS).map V.str)
  | [], _ => .nil
  | b :: bs, h => .cons (rep_str (h b (by simp))) (repL_strs fun s hs => h s (by simp [hs]))
theorem seq_cut {a : Addr} {vs : List V} (h : SqL K H a vs ∨ SqT K H a vs) : LenV K (.ref a) H vs.length := by
  rcases h with h | h
  · exact .inl ⟨vs, h, rfl⟩
  · exact .inr ⟨vs, h, rfl⟩
theorem tl_mkS (s : List Nat) : TL.tl (mkS s) = s := mkS_cps s
theorem mkS_tl (x : Str) : mkS (TL.tl x) = x := TL.mk_tl x
theorem decI_str (i : Int) : Str.ofString (toString i) = mkS (decI i) := by
  refine TL.ext_tl ?_
  rw [tl_mkS]
  cases i with
  | ofNat n =>
    have e : decI (Int.ofNat n) = TL.numL n := by
      unfold decI
      rw [if_neg (by simp)]; rfl
    rw [e]
    exact TL.tl_num n
  | negSucc m =>
    have e : decI (Int.negSucc m) = 45 :: TL.numL (m + 1) := by
      unfold decI
      rw [if_pos (Int.negSucc_lt_zero m)]; rfl
    rw [e, TL.tl_ofString]
    have e2 : (toString (Int.negSucc m)).toList = '-' :: (toString ((m + 1 : Nat) : Int)).toList := by
      show (Int.repr (Int.negSucc m)).toList = '-' :: (Int.repr ((m + 1 : Nat) : Int)).toList
      simp [Int.repr]
    rw [e2, List.map_cons, ← TL.tl_ofString, TL.tl_num]; rfl
theorem decI_ok {i : Int} (h : i.natAbs < 10000000000000000000000000000000000000000) : okS (decI i) := by
  have l : (TL.numL i.natAbs).length ≤ 40 := TL.numL_len (by decide) h
  have d := TL.numL_digits i.natAbs
  have dd : ∀ c ∈ TL.numL i.natAbs, c < 1114112 := fun c hc => by
    have := d c hc
    omega
  unfold decI
  split
  · exact ⟨by simp only [List.length_cons, LIM]; omega, fun c hc => by
      rcases List.mem_cons.mp hc with e | e
      · omega
      · exact dd c e⟩
  · exact ⟨by simp only [LIM]; omega, dd⟩
end
section
variable {X : Cx} {cl : Nat → Option Addr}
theorem b_len : CallR X (.builtin "len") (rlD X.K cl (bltR .len)) := by
  intro pins s σ H vs us Qh I r h
  obtain ⟨ds, S, F, Q, hv, rs, q, fin⟩ := h
  rcases ds with _ | ⟨x, _ | ⟨y, t⟩⟩
  · exact False.elim q
  · obtain ⟨n, e, q⟩ : ∃ n, lenD S x = some n ∧ Q (.int n) S := q
    obtain ⟨v, rfl, hx⟩ := hv.one_iff
    refine call_len pins s σ H _ _ _ I r ⟨v, n, rfl, ?_, fin.here rs rep_int q⟩
    have sq : ∀ xs, seqD S x = some xs → xs.length = n → LenV X.K v H n := fun xs e1 e2 => by
      obtain ⟨a, ws, rfl, h1, h2⟩ := seqD_at rs hx e1
      rw [← e2, h2.length]
      exact seq_cut h1
    cases x with
    | str z =>
      simp only [lenD, Option.some.injEq] at e
      simp only [Rep] at hx
      obtain ⟨rfl, hx⟩ := hx
      subst e
      exact ⟨by rw [mkS_length]; exact Nat.le_trans hx.1 lim_line, (mkS_length z).symm⟩
    | _ =>
      simp only [lenD, Option.map_eq_some_iff] at e
      obtain ⟨xs, e1, e2⟩ := e
      exact sq xs e1 e2
  · exact False.elim q
theorem b_int : CallR X (.type "int") (rlD X.K cl (bltR .int)) := by
  intro pins s σ H vs us Qh I r h
  obtain ⟨ds, S, F, Q, hv, rs, q, fin⟩ := h
  rcases ds with _ | ⟨x, _ | ⟨y, t⟩⟩
  · exact False.elim q
  · obtain ⟨v, rfl, hx⟩ := hv.one_iff
    cases x with
    | int i =>
      simp only [Rep] at hx; subst hx
      exact call_int1 pins s σ H _ _ _ I r (.inl ⟨i, rfl, fin.here rs rep_int q⟩)
    | bl k =>
      simp only [Rep] at hx; subst hx
      exact call_int1 pins s σ H _ _ _ I r (.inr ⟨k, rfl, fin.here rs rep_int q⟩)
    | _ => exact False.elim q
  · cases x <;> exact False.elim q
theorem b_str : CallR X (.type "str") (rlD X.K cl (bltR .str)) := by
  intro pins s σ H vs us Qh I r h
  obtain ⟨ds, S, F, Q, hv, rs, q, fin⟩ := h
  rcases ds with _ | ⟨x, _ | ⟨y, t⟩⟩
  · exact False.elim q
  · obtain ⟨v, rfl, hx⟩ := hv.one_iff
    cases x with
    | int i =>
      simp only [Rep] at hx; subst hx
      obtain ⟨hb, q⟩ := q
      refine call_str_int pins s σ H _ _ _ I r ⟨i, rfl, ?_, ?_⟩
      · by_cases h0 : i.natAbs = 0
        · rw [h0]; decide
        · rw [Nat.log2_lt h0]
          have e : (2 : Nat) ^ 140 = 1393796574908163946345982392040522594123776 := by decide
          exact Nat.lt_of_lt_of_le (show i.natAbs < 2 ^ 140 by rw [e]; omega) (Nat.pow_le_pow_right (by decide) (by decide))
      · have e : (toString i : Str) = mkS (decI i) := decI_str i
        rw [e]
        exact fin.here rs (rep_str (decI_ok hb)) q
    | str z =>
      simp only [Rep] at hx
      obtain ⟨rfl, hx⟩ := hx
      exact SkE.call_str_str pins s σ H _ _ _ I r ⟨_, rfl, fin.here rs (rep_str hx) q⟩
    | _ => exact False.elim q
  · cases x <;> exact False.elim q
theorem b_abs : CallR X (.builtin "abs") (rlD X.K cl (bltR .abs)) := by
  intro pins s σ H vs us Qh I r h
  obtain ⟨ds, S, F, Q, hv, rs, q, fin⟩ := h
  rcases ds with _ | ⟨x, _ | ⟨y, t⟩⟩
  · exact False.elim q
  · obtain ⟨v, rfl, hx⟩ := hv.one_iff
    cases x with
    | int i =>
      simp only [Rep] at hx; subst hx
      exact call_abs pins s σ H _ _ _ I r ⟨i, rfl, fin.here rs rep_int q⟩
    | _ => exact False.elim q
  · cases x <;> exact False.elim q
theorem b_max2 (hc : X.calm = true) : CallR X (.builtin "max") (rlD X.K cl (bltR .max2)) := by
  intro pins s σ H vs us Qh I r h
  obtain ⟨ds, S, F, Q, hv, rs, q, fin⟩ := h
  rcases ds with _ | ⟨x, _ | ⟨y, _ | ⟨z, t⟩⟩⟩
  · exact False.elim q
  · cases x <;> exact False.elim q
  · obtain ⟨v, w, rfl, hx, hy⟩ := hv.two_iff
    cases x with
    | int i =>
      cases y with
      | int j =>
        simp only [Rep] at hx hy; subst hx hy
        exact call_max2 hc pins s σ H _ _ _ I r ⟨i, j, rfl, fin.here rs rep_int q⟩
      | _ => exact False.elim q
    | _ => cases y <;> exact False.elim q
  · cases x <;> cases y <;> exact False.elim q
theorem b_min2 (hc : X.calm = true) : CallR X (.builtin "min") (rlD X.K cl (bltR .min2)) := by
  intro pins s σ H vs us Qh I r h
  obtain ⟨ds, S, F, Q, hv, rs, q, fin⟩ := h
  rcases ds with _ | ⟨x, _ | ⟨y, _ | ⟨z, t⟩⟩⟩
  · exact False.elim q
  · cases x <;> exact False.elim q
  · obtain ⟨v, w, rfl, hx, hy⟩ := hv.two_iff
    cases x with
    | int i =>
      cases y with
      | int j =>
        simp only [Rep] at hx hy; subst hx hy
        exact call_min2 hc pins s σ H _ _ _ I r ⟨i, j, rfl, fin.here rs rep_int q⟩
      | _ => exact False.elim q
    | _ => cases y <;> exact False.elim q
  · cases x <;> cases y <;> exact False.elim q
theorem b_all (hc : X.calm = true) : CallR X (.builtin "all") (rlD X.K cl (bltR .all)) := by
  intro pins s σ H vs us Qh I r h
  obtain ⟨ds, S, F, Q, hv, rs, q, fin⟩ := h
  rcases ds with _ | ⟨x, _ | ⟨y, t⟩⟩
  · exact False.elim q
  · obtain ⟨v, rfl, hx⟩ := hv.one_iff
    obtain ⟨bs, e, q⟩ : ∃ bs : List Bool, listD S x = some (bs.map D.bl) ∧ Q (.bl (bs.all id)) S := q
    obtain ⟨a, ws, rfl, h1, h2⟩ := listD_at rs hx e
    have e2 := repL_bl h2
    subst e2
    exact cr_all hc pins s σ H _ _ _ I r ⟨a, bs, rfl, SqL.of h1, fin.here rs rep_bl q⟩
  · exact False.elim q
theorem b_any (hc : X.calm = true) : CallR X (.builtin "any") (rlD X.K cl (bltR .any)) := by
  intro pins s σ H vs us Qh I r h
  obtain ⟨ds, S, F, Q, hv, rs, q, fin⟩ := h
  rcases ds with _ | ⟨x, _ | ⟨y, t⟩⟩
  · exact False.elim q
  · obtain ⟨v, rfl, hx⟩ := hv.one_iff
    obtain ⟨bs, e, q⟩ : ∃ bs : List Bool, listD S x = some (bs.map D.bl) ∧ Q (.bl (bs.any id)) S := q
    obtain ⟨a, ws, rfl, h1, h2⟩ := listD_at rs hx e
    have e2 := repL_bl h2
    subst e2
    exact cr_any hc pins s σ H _ _ _ I r ⟨a, bs, rfl, SqL.of h1, fin.here rs rep_bl q⟩
  · exact False.elim q
theorem b_sum (hc : X.calm = true) : CallR X (.builtin "sum") (rlD X.K cl (bltR .sum)) := by
  intro pins s σ H vs us Qh I r h
  obtain ⟨ds, S, F, Q, hv, rs, q, fin⟩ := h
  rcases ds with _ | ⟨x, _ | ⟨y, t⟩⟩
  · exact False.elim q
  · obtain ⟨v, rfl, hx⟩ := hv.one_iff
    obtain ⟨bs, e, q⟩ : ∃ ns : List Int, listD S x = some (ns.map D.int) ∧ Q (.int ns.sum) S := q
    obtain ⟨a, ws, rfl, h1, h2⟩ := listD_at rs hx e
    have e2 := repL_int h2
    subst e2
    exact cr_sum hc pins s σ H _ _ _ I r ⟨a, bs, rfl, SqL.of h1, fin.here rs rep_int q⟩
  · exact False.elim q
theorem b_lss (hc : X.calm = true) (m : Bool) : CallR X (.type "list") (rlD X.K cl (bltR (.lss m))) := by
  intro pins s σ H vs us Qh I r h
  obtain ⟨ds, S, F, Q, hv, rs, q, fin⟩ := h
  rcases ds with _ | ⟨x, _ | ⟨y, t⟩⟩
  · exact False.elim q
  · obtain ⟨v, rfl, hx⟩ := hv.one_iff
    cases x with
    | str z =>
      have q : newL m (z.map fun c => .str [c]) S Q := q
      simp only [Rep] at hx
      obtain ⟨rfl, ok⟩ := hx
      obtain ⟨u, rfl, tk, rfl⟩ := vals1 r
      refine call_list_str (I.ok.hd hc) (mkS z) tk (fun h' tk' acc' c' hkeep hS hacc => ?_) (by show (mkS z).length ≤ _; rw [mkS_length]; exact Nat.le_trans ok.1 lim_line)
      have hl : acc'.toList.length = z.length := by rw [Array.length_toList, hacc.1]; exact mkS_length z
      have hvals : Vals (z.map fun c => V.str (mkS [c])) acc'.toList := vals_of_at (by rw [List.length_map, hl]) fun j x w h1 h2 => by
        obtain ⟨c, u, e1, e2⟩ := hacc.2 j w (by rw [← Array.getElem?_toList]; exact h2)
        rw [List.getElem?_map] at h1
        have e3 : z[j]? = some c := by
          have := mkS_cps z
          rw [← this, Array.getElem?_toList]; exact e1
        rw [e3] at h1
        cases h1
        exact ⟨u, e2⟩
      have I2 : Inv X pins σ (upd H s.heap.objs.size (.lst (z.map fun c => V.str (mkS [c])))) { s with heap := h', toks := tk' } :=
        I.laid hkeep (Nat.le_refl _) (show ObjOk X.prog X.w _ _ _ (.lst (z.map fun c => V.str (mkS [c]))) from ⟨by rw [List.length_map]; exact Nat.le_trans ok.1 lim_line, acc'.toList, c', hvals, by rw [Array.toArray_toList]; exact hS⟩)
      have hr : ∀ {F : Fz} {H : Hp} (l : List Nat), (∀ c ∈ l, c < 1114112) → RepL F X.K H (l.map fun c => D.str [c]) (l.map fun c => V.str (mkS [c])) := by
        intro F H l
        induction l with
        | nil => intro _; exact .nil
        | cons c l ih => intro h; exact .cons (rep_str ⟨by simp [LIM], fun x hx => by rw [List.mem_singleton.mp hx]; exact h c (by simp)⟩) (ih fun x hx => h x (List.mem_cons_of_mem _ hx))
      exact ⟨.ref s.heap.objs.size, _, I2, rfl, fin.lst rs (hr z ok.2) (I.hok.fresh (Nat.le_refl _)) q⟩
    | _ => exact False.elim q
  · cases x <;> exact False.elim q
theorem b_tup : CallR X (.type "tuple") (rlD X.K cl (bltR .tup)) := by
  intro pins s σ H vs us Qh I r h
  obtain ⟨ds, S, F, Q, hv, rs, q, fin⟩ := h
  rcases ds with _ | ⟨x, _ | ⟨y, t⟩⟩
  · exact False.elim q
  · obtain ⟨v, rfl, hx⟩ := hv.one_iff
    obtain ⟨xs, e, q⟩ : ∃ xs, seqD S x = some xs ∧ Q (.tup xs) S := q
    by_cases ht : ∃ ys, x = .tup ys
    · obtain ⟨ys, rfl⟩ := ht
      simp only [seqD, Option.some.injEq] at e
      subst e
      obtain ⟨a, ws, rfl, h1, h2⟩ := hx.tup
      exact call_tuple_of pins s σ H _ _ _ I r ⟨a, ws, rfl, .inr ⟨h1, fin.here rs hx q⟩⟩
    · obtain ⟨a, ws, rfl, h1, h2⟩ := seqD_at rs hx e
      have h1' : SqL X.K H a ws := by
        cases x with
        | tup ys => exact absurd ⟨ys, rfl⟩ ht
        | lst ys =>
          obtain ⟨b, zs, e2, _, k1, k2⟩ := hx.lst
          cases e2
          rcases h1 with h1 | h1
          · exact h1
          · exact absurd h1 (by
              intro z
              obtain ⟨its, r1, ⟨o, n, e1, c1, _⟩, _⟩ := I.list (SqL.of k1)
              obtain ⟨its2, r2, ⟨o2, e3, c2, _⟩, _⟩ := I.tuple z
              rw [e1] at e3; cases e3; rw [c1] at c2; injection c2 with c3; exact absurd c3 (by decide))
        | scr ys =>
          obtain ⟨b, zs, e2, k1, k2⟩ := hx.scr
          cases e2
          rcases h1 with h1 | h1
          · exact h1
          · exact absurd h1 (by
              intro z
              obtain ⟨its, r1, ⟨o, n, e1, c1, _⟩, _⟩ := I.list k1
              obtain ⟨its2, r2, ⟨o2, e3, c2, _⟩, _⟩ := I.tuple z
              rw [e1] at e3; cases e3; rw [c1] at c2; injection c2 with c3; exact absurd c3 (by decide))
        | ref b =>
          simp only [Rep] at hx
          cases hx
          rcases h1 with h1 | h1
          · exact h1
          · exact absurd h1 (by
              intro z
              simp only [seqD] at e
              split at e
              · rename_i ys he
                obtain ⟨vs, k1, _⟩ := rs.ob a _ he
                obtain ⟨its, r1, ⟨o, n, e1, c1, _⟩, _⟩ := I.list (SqL.of k1)
                obtain ⟨its2, r2, ⟨o2, e3, c2, _⟩, _⟩ := I.tuple z
                rw [e1] at e3; cases e3; rw [c1] at c2; injection c2 with c3; exact absurd c3 (by decide)
              · cases e)
        | _ => simp [seqD] at e
      exact call_tuple_of pins s σ H _ _ _ I r ⟨a, ws, rfl, .inl ⟨h1', fun l hl => fin.tup rs h2 hl q⟩⟩
  · exact False.elim q
theorem b_lst (m : Bool) : CallR X (.type "list") (rlD X.K cl (bltR (.lst m))) := by
  intro pins s σ H vs us Qh I r h
  obtain ⟨ds, S, F, Q, hv, rs, q, fin⟩ := h
  rcases ds with _ | ⟨x, _ | ⟨y, t⟩⟩
  · exact False.elim q
  · obtain ⟨v, rfl, hx⟩ := hv.one_iff
    obtain ⟨xs, e, q⟩ : ∃ xs, seqD S x = some xs ∧ newL m xs S Q := q
    obtain ⟨a, ws, rfl, h1, h2⟩ := seqD_at rs hx e
    exact call_list_of pins s σ H _ _ _ I r ⟨a, ws, rfl, h1, fun l hl => fin.lst rs h2 hl q⟩
  · exact False.elim q

/-! ### isinstance -/
def tyNm : Ty → String
  | .int => "int" | .str => "str" | .bool => "bool" | .tuple => "tuple" | .list => "list"
theorem kits (t : Ty) : kitB "NoneType" (tyNm t) = some false ∧ kitB "bool" (tyNm t) = some (t == .int || t == .bool) ∧ kitB "int" (tyNm t) = some (t == .int) ∧ kitB "str" (tyNm t) = some (t == .str) ∧
    kitB "tuple" (tyNm t) = some (t == .tuple) ∧ kitB "list" (tyNm t) = some (t == .list) := by
  cases t <;> decide +kernel
theorem b_isty (t : Ty) : CallR X (.builtin "isinstance") (fun vs H Qh => ∃ v d S F Q k, vs = [v, .ty (tyNm t)] ∧ Rep F X.K H d v ∧ RelS F X.K cl S H ∧ isTy S t d = some k ∧ Q (.bl k) S ∧ Fin X.K cl S F H Q Qh) := by
  intro pins s σ H vs us Qh I r h
  obtain ⟨v, d, S, F, Q, k, rfl, hx, rs, e, q, fin⟩ := h
  obtain ⟨k0, k1, k2, k3, k4, k5⟩ := kits t
  have go : ∀ {n : String}, TyX X.K H v (.type n) → kitB n (tyNm t) = some k → wpAny (model X.prog X.w) X.A (call (.builtin "isinstance") us) (EP X pins σ Qh) X.xe s := fun {n} h1 h2 =>
    call_isi pins s σ H _ _ _ I r ⟨v, _, _, _, k, rfl, .ty _, h1, kit_ty h2, fin.here rs rep_bl q⟩
  have gl : ∀ {a : Addr} {xs : List V}, v = .ref a → SqL X.K H a xs → isTy S t d = some (t == .list) → wpAny (model X.prog X.w) X.A (call (.builtin "isinstance") us) (EP X pins σ Qh) X.xe s := fun {a xs} ev hq e2 => by
    subst ev
    rw [e] at e2
    have e3 := Option.some.inj e2
    rw [← e3] at k5
    rcases hq with (hq | ⟨o, hq⟩) | ⟨o, its, n, hk, hc, _⟩
    · exact go (.base (.lst hq)) k5
    · exact go (.base (.frz hq)) k5
    · exact go (.kList hk hc) k5
  cases d with
  | non =>
    simp only [Rep] at hx; subst hx
    simp only [isTy, Option.some.injEq] at e; subst e
    exact go (.base .non) k0
  | bl b =>
    simp only [Rep] at hx; subst hx
    simp only [isTy, Option.some.injEq] at e; subst e
    exact go (.base (.bl b)) k1
  | int b =>
    simp only [Rep] at hx; subst hx
    simp only [isTy, Option.some.injEq] at e; subst e
    exact go (.base (.int b)) k2
  | str b =>
    simp only [Rep] at hx; obtain ⟨rfl, _⟩ := hx
    simp only [isTy, Option.some.injEq] at e; subst e
    exact go (.base (.str _)) k3
  | tup ys =>
    obtain ⟨a, ws, rfl, h1, h2⟩ := hx.tup
    simp only [isTy, Option.some.injEq] at e; subst e
    rcases h1 with (h1 | ⟨o, h1⟩) | ⟨o, its, n, hk, hc, _⟩
    · exact go (.base (.tup h1)) k4
    · exact go (.fTuple h1) k4
    · exact go (.kTuple hk hc) k4
  | lst ys =>
    obtain ⟨a, ws, e1, _, h1, h2⟩ := hx.lst
    exact gl e1 (SqL.of h1) rfl
  | scr ys =>
    obtain ⟨a, ws, e1, h1, h2⟩ := hx.scr
    exact gl e1 h1 rfl
  | ref a =>
    simp only [Rep] at hx
    simp only [isTy] at e
    split at e
    · rename_i ys he
      obtain ⟨vs, k1, _⟩ := rs.ob a _ he
      exact gl hx (SqL.of k1) (by simp [isTy, he])
    · cases e
  | exc c fs => simp [isTy] at e
  | tpx _ => simp [isTy] at e

/-! ### methods -/
theorem join_len : ∀ (s : List Nat) (ps : List (List Nat)), (TL.joinL s ps).length ≤ (ps.map List.length).sum + ps.length * s.length
  | s, [] => by simp [TL.joinL]
  | s, [p] => by simp [TL.joinL]
  | s, p :: q :: r => by
    have h := join_len s (q :: r)
    have e1 : (TL.joinL s (p :: q :: r)).length = p.length + (s.length + (TL.joinL s (q :: r)).length) := by
      simp [TL.joinL]
    have e2 : ((p :: q :: r).map List.length).sum = p.length + ((q :: r).map List.length).sum := by simp
    have e3 : (p :: q :: r).length * s.length = (q :: r).length * s.length + s.length := by
      rw [List.length_cons (a := p), Nat.succ_mul]
    rw [e1, e2, e3]
    omega
theorem join_mem : ∀ (s : List Nat) (ps : List (List Nat)) (c : Nat), c ∈ TL.joinL s ps → c ∈ s ∨ ∃ p ∈ ps, c ∈ p
  | s, [], c, h => by simp [TL.joinL] at h
  | s, [p], c, h => .inr ⟨p, by simp, by simpa [TL.joinL] using h⟩
  | s, p :: q :: r, c, h => by
    simp only [TL.joinL, List.mem_append] at h
    rcases h with h | h | h
    · exact .inr ⟨p, by simp, h⟩
    · exact .inl h
    · rcases join_mem s (q :: r) c h with h | ⟨x, hx, h⟩
      · exact .inl h
      · exact .inr ⟨x, by simp [hx], h⟩
theorem join_mkS (s : List Nat) (ps : List (List Nat)) : Txt.join (mkS s) (ps.map mkS) = mkS (TL.joinL s ps) := by
  refine TL.ext_tl ?_
  rw [TL.join_eq, TL.tl_join, tl_mkS, tl_mkS, List.map_map]
  have e : (TL.tl ∘ mkS) = id := by funext x; exact tl_mkS x
  rw [e, List.map_id]
theorem m_join : MtR X "str.join" (rmD X.K cl (methR .join)) := by
  intro pins s σ H v vs u us Qh I ru rus h
  obtain ⟨d, ds, S, F, Q, hd, hv, rs, q, fin⟩ := h
  cases d with
  | str z =>
    rcases ds with _ | ⟨x, _ | ⟨y, t⟩⟩
    · exact False.elim q
    · obtain ⟨w, rfl, hx⟩ := hv.one_iff
      obtain ⟨parts, e, hl, q⟩ : ∃ parts : List (List Nat), seqD S x = some (parts.map D.str) ∧ (parts.map List.length).sum + parts.length * z.length ≤ LIM ∧ Q (.str (TL.joinL z parts)) S := q
      obtain ⟨a, ws, rfl, h1, h2⟩ := seqD_at rs hx e
      obtain ⟨e2, ok⟩ := repL_str h2
      subst e2
      simp only [Rep] at hd
      obtain ⟨rfl, oz⟩ := hd
      refine mt_join pins s σ H _ _ _ _ _ I ru rus ⟨_, a, parts.map mkS, rfl, rfl, h1, ?_, ?_⟩
      · have e3 : (parts.map mkS).map (fun x => x.length) = parts.map List.length := by
          rw [List.map_map]
          exact List.map_congr_left fun p _ => mkS_length p
        rw [e3, List.length_map, mkS_length]
        exact Nat.le_trans hl (by rw [← sizeLine_eq]; exact lim_line)
      · rw [join_mkS]
        refine fin.here rs (rep_str ⟨Nat.le_trans (join_len _ _) hl, fun c hc => ?_⟩) q
        rcases join_mem _ _ _ hc with h | ⟨p, hp, h⟩
        · exact oz.2 c h
        · exact (ok p hp).2 c h
    · exact False.elim q
  | _ => exact False.elim q
theorem spl_ok {c : Nat} {s : List Nat} (h : okS s) : ∀ p ∈ TL.spl [c] 0 [] s, okS p := by
  have go : ∀ (l acc : List Nat), acc.length + l.length ≤ LIM → (∀ c ∈ acc, c < 1114112) → (∀ c ∈ l, c < 1114112) → ∀ p ∈ TL.spl [c] 0 acc l, okS p := by
    intro l
    induction l with
    | nil =>
      intro acc h1 h2 _ p hp
      rw [TL.spl_nil] at hp
      have e : p = acc := by simpa using hp
      subst e
      exact ⟨by simpa using h1, h2⟩
    | cons x r ih =>
      intro acc h1 h2 h3 p hp
      simp only [List.length_cons] at h1
      by_cases hx : TL.pre [c] (x :: r) = true
      · rw [TL.spl_hit hx] at hp
        rcases List.mem_cons.mp hp with e | hp
        · subst e; exact ⟨by omega, h2⟩
        · exact ih [] (by simp; omega) (by simp) (fun c hc => h3 c (by simp [hc])) p hp
      · rw [TL.spl_miss (by simpa using hx)] at hp
        refine ih (acc ++ [x]) (by simp; omega) (fun d hd => ?_) (fun d hd => h3 d (by simp [hd])) p hp
        rcases List.mem_append.mp hd with hd | hd
        · exact h2 d hd
        · exact h3 d (by simp at hd; simp [hd])
  exact go s [] (by simpa using h.1) (by simp) h.2
theorem m_split (m : Bool) : MtR X "str.split" (rmD X.K cl (methR (.split m))) := by
  intro pins s σ H v vs u us Qh I ru rus h
  obtain ⟨d, ds, S, F, Q, hd, hv, rs, q, fin⟩ := h
  cases d with
  | str z =>
    rcases ds with _ | ⟨x, _ | ⟨y, t⟩⟩
    · exact False.elim q
    · obtain ⟨w, rfl, hx⟩ := hv.one_iff
      cases x with
      | str t =>
        obtain ⟨c, rfl, hc, q⟩ : ∃ c, t = [c] ∧ c < 256 ∧ newL m ((TL.spl [c] 0 [] z).map D.str) S Q := q
        simp only [Rep] at hd hx
        obtain ⟨rfl, oz⟩ := hd
        obtain ⟨rfl, _⟩ := hx
        refine mt_split pins s σ H _ _ _ _ _ I ru rus ⟨_, _, rfl, rfl, by rw [mkS_length]; rfl, ?_, fun p hp => ?_⟩
        · rw [mkS_length]
          have := oz.1
          simp only [LIM] at this
          rw [sizeLine_eq]; omega
        · have e : Txt.split (mkS z) (mkS [c]) = (TL.spl [c] 0 [] z).map mkS := by
            have e1 := TL.split_spl (mkS z) (mkS [c]) (by rw [tl_mkS]; simp) (TL.kind_ok (by simp [mkS, hc]))
            rw [tl_mkS, tl_mkS] at e1
            refine TL.map_tl_inj ?_
            rw [e1, List.map_map]
            have e2 : (TL.tl ∘ mkS) = id := by funext x; exact tl_mkS x
            rw [e2, List.map_id]
          rw [e]
          exact fin.lst rs (repL_strs (spl_ok oz)) hp q
      | _ => exact False.elim q
    · cases x <;> exact False.elim q
  | _ => exact False.elim q
theorem low_eq (s : List Nat) (h : s.all (· < 128) = true) : Txt.lower (mkS s) = mkS (s.map lowC) := by
  have a : ∀ c ∈ (mkS s).cps.toList, c < 128 := fun c hc => by
    rw [mkS_cps] at hc
    exact of_decide_eq_true (List.all_eq_true.mp h c hc)
  rw [lower_ascii a]
  refine TL.ext_tl ?_
  rw [tl_mkS]
  show ((mkS s).cps.map lo1).toList = _
  rw [Array.toList_map, mkS_cps]
  refine List.map_congr_left fun c hc => ?_
  have hc2 := of_decide_eq_true (List.all_eq_true.mp h c hc)
  have all : ∀ c, c < 128 → lo1 c = lowC c := by decide +kernel
  exact all c hc2
theorem up_eq (s : List Nat) (h : s.all (· < 128) = true) : Txt.upper (mkS s) = mkS (s.map upC) := by
  have a : ∀ c ∈ (mkS s).cps.toList, c < 128 := fun c hc => by
    rw [mkS_cps] at hc
    exact of_decide_eq_true (List.all_eq_true.mp h c hc)
  rw [upper_ascii a]
  refine TL.ext_tl ?_
  rw [tl_mkS]
  show ((mkS s).cps.map up1).toList = _
  rw [Array.toList_map, mkS_cps]
  refine List.map_congr_left fun c hc => ?_
  have hc2 := of_decide_eq_true (List.all_eq_true.mp h c hc)
  have all : ∀ c, c < 128 → up1 c = upC c := by decide +kernel
  exact all c hc2
theorem m_lower : MtR X "str.lower" (rmD X.K cl (methR .lower)) := by
  intro pins s σ H v vs u us Qh I ru rus h
  obtain ⟨d, ds, S, F, Q, hd, hv, rs, q, fin⟩ := h
  cases d with
  | str z =>
    rcases ds with _ | ⟨x, t⟩
    · have ev := hv.nil_iff; subst ev
      obtain ⟨ha, q⟩ : z.all (· < 128) = true ∧ Q (.str (z.map lowC)) S := q
      simp only [Rep] at hd
      obtain ⟨rfl, oz⟩ := hd
      refine mt_lower pins s σ H _ _ _ _ _ I ru rus ⟨_, rfl, rfl, ?_, ?_⟩
      · rw [mkS_length]
        have := oz.1
        simp only [LIM] at this
        omega
      · rw [low_eq z ha]
        refine fin.here rs (rep_str ⟨by simpa using oz.1, fun c hc => ?_⟩) q
        obtain ⟨d, hd, rfl⟩ := List.mem_map.mp hc
        have := of_decide_eq_true (List.all_eq_true.mp ha d hd)
        unfold lowC; split <;> omega
    · exact False.elim q
  | _ => exact False.elim q
theorem m_upper : MtR X "str.upper" (rmD X.K cl (methR .upper)) := by
  intro pins s σ H v vs u us Qh I ru rus h
  obtain ⟨d, ds, S, F, Q, hd, hv, rs, q, fin⟩ := h
  cases d with
  | str z =>
    rcases ds with _ | ⟨x, t⟩
    · have ev := hv.nil_iff; subst ev
      obtain ⟨ha, q⟩ : z.all (· < 128) = true ∧ Q (.str (z.map upC)) S := q
      simp only [Rep] at hd
      obtain ⟨rfl, oz⟩ := hd
      refine mt_upper pins s σ H _ _ _ _ _ I ru rus ⟨_, rfl, rfl, ?_, ?_⟩
      · rw [mkS_length]
        have := oz.1
        simp only [LIM] at this
        omega
      · rw [up_eq z ha]
        refine fin.here rs (rep_str ⟨by simpa using oz.1, fun c hc => ?_⟩) q
        obtain ⟨d, hd, rfl⟩ := List.mem_map.mp hc
        have := of_decide_eq_true (List.all_eq_true.mp ha d hd)
        unfold upC; split <;> omega
    · exact False.elim q
  | _ => exact False.elim q
theorem m_strip : MtR X "str.strip" (rmD X.K cl (methR .strip)) := by
  intro pins s σ H v vs u us Qh I ru rus h
  obtain ⟨d, ds, S, F, Q, hd, hv, rs, q, fin⟩ := h
  cases d with
  | str z =>
    rcases ds with _ | ⟨x, t⟩
    · have ev := hv.nil_iff; subst ev
      obtain ⟨r, e, hl, hm, q⟩ : ∃ r, Txt.strip (mkS z) = mkS r ∧ r.length ≤ z.length ∧ (∀ c ∈ r, c ∈ z) ∧ Q (.str r) S := q
      simp only [Rep] at hd
      obtain ⟨rfl, oz⟩ := hd
      refine mt_strip pins s σ H _ _ _ _ _ I ru rus ⟨_, rfl, rfl, ?_, ?_⟩
      · rw [mkS_length]; exact Nat.le_trans oz.1 lim_line
      · rw [e]
        exact fin.here rs (rep_str ⟨Nat.le_trans hl oz.1, fun c hc => oz.2 c (hm c hc)⟩) q
    · exact False.elim q
  | _ => exact False.elim q
section
variable {F : Fz} {H : Hp} {S : Sto}
theorem ref_at {p : Addr} {v : V} {xs : List D} (rs : RelS F X.K cl S H) (hd : Rep F X.K H (.ref p) v) (e : S p = some (.lst xs)) : v = .ref p ∧ ∃ vs, H p = some (.lst vs) ∧ RepL F X.K H xs vs := by
  simp only [Rep] at hd
  obtain ⟨vs, h1, h2⟩ := rs.ob p _ e
  exact ⟨hd, vs, h1, h2⟩
end
theorem m_append : MtR X "list.append" (rmD X.K cl (methR .append)) := by
  intro pins s σ H v vs u us Qh I ru rus h
  obtain ⟨d, ds, S, F, Q, hd, hv, rs, q, fin⟩ := h
  cases d with
  | ref p =>
    rcases ds with _ | ⟨x, _ | ⟨y, t⟩⟩
    · exact False.elim q
    · obtain ⟨w, rfl, hx⟩ := hv.one_iff
      obtain ⟨xs, e, hl, q⟩ : ∃ xs, S p = some (.lst xs) ∧ xs.length < sizeLine ∧ Q .non (supd S p (.lst (xs ++ [x]))) := q
      obtain ⟨rfl, ws, h1, h2⟩ := ref_at rs hd e
      exact mt_append pins s σ H _ _ _ _ _ I ru rus ⟨p, ws, w, rfl, rfl, h1, by rw [← h2.length]; exact hl, fin.set rs e (h2.append (.one hx)) rep_non q⟩
    · exact False.elim q
  | _ => exact False.elim q
section
open PySem.SeqAt
open PySem.AutoSeq1
open PySem.MeetsSeq PySem.MeetsSeq2 PySem.MeetsSeq3
theorem list_extend_tupW (l : Addr) (items : Array Value) (n : Nat) (b : Addr) (items2 : Array Value) (n2 : Nat) (dd2 : Option Addr) (sl2 : Array (Option Value)) (hs0 : ¬(!items.isEmpty && Builtin.List.listTooLong (items.size + items2.size)) = true) (hs1 : items.size ≤ sizeLine) (hs2 : items.size + items2.size ≤ sizeLine + 1) :
    Meets (Builtin.«list.extend» ⟨[.ref l, .ref b], []⟩) (fun _ R s => s.heap.get? l = some { cls := .type "list", dict := none, data := .seq items n, slots := #[] } ∧ s.heap.get? b = some { cls := .type "tuple", dict := dd2, data := .seq items2 n2, slots := sl2 } ∧ R (.ok (.ret Value.none)) { s with heap := s.heap.update l (Obj.mapSeq fun x => x ++ items2), toks := s.toks }) :=
  .of_wp fun prog w A R s h => by
    obtain ⟨hp, g, d, tk, os⟩ := s; obtain ⟨hl, hb, h⟩ := h; have f1 := PySem.AutoSeq1.idx_int; have f2 := AutoSeq1.sub_tuple_tuple; have f3 := AutoSeq1.sub_list_list; have f4 := AutoSeq1.sub_tuple_list; have f5 := AutoSeq1.sub_list_tuple;
    have hz' : (items ++ items2).size ≤ sizeLine + 1 := by rw [Array.size_append]; exact hs2
    wp_walk using (wpAny_updateSeq hl rfl (hz := hs1) (_hz' := hz')), wpAny_loadPart' hl, wpAny_loadPart' hb; exact ⟨_, rfl, h⟩
end
theorem mt_extendT {X : Cx} : MtR X "list.extend" (fun x vs H Q => ∃ l b xs zs, x = .ref l ∧ vs = [.ref b] ∧ H l = some (.lst xs) ∧ SqT X.K H b zs ∧ xs.length + zs.length ≤ sizeLine ∧ Q .non (upd H l (.lst (xs ++ zs)))) := by
  intro pins s σ H x vs v us Q I rx rv h
  obtain ⟨l, b, xs, zs, rfl, rfl, hH, hB, hz, q⟩ := h
  cases rx
  obtain ⟨u, rfl, ru⟩ := rv.one
  cases ru
  obtain ⟨z, its, n, r, hl, e⟩ := I.lstM hH
  obtain ⟨its2, r2, ⟨⟨cls, dd, data, sl⟩, e2, hc, n2, hd⟩, hl2⟩ := I.tuple hB
  simp only at hc hd
  subst hc hd
  have hl3 := r2.length
  have hsz : its.toArray.size + its2.toArray.size ≤ sizeLine := by rw [List.size_toArray, List.size_toArray]; omega
  have hlong : ¬ (!its.toArray.isEmpty && Builtin.List.listTooLong (its.toArray.size + its2.toArray.size)) = true := by
    rw [notLongL hsz, Bool.and_false]
    exact Bool.false_ne_true
  refine call_meets PySem.F.slot_list_extend ⟨_, e, rfl⟩ PySem.F.entry_list_extend (PySem.F.args_list_extend_2 _ _)
    (list_extend_tupW l its.toArray n b its2.toArray n2 dd sl hlong (by rw [List.size_toArray]; omega) (by omega)) ⟨e, e2, ?_⟩
  refine ⟨.non, _, I.lset (its' := its ++ its2) hH e (by simp) (r.append r2) ?_, rfl, q⟩
  rw [List.length_append]
  omega
theorem m_extend : MtR X "list.extend" (rmD X.K cl (methR .extend)) := by
  intro pins s σ H v vs u us Qh I ru rus h
  obtain ⟨d, ds, S, F, Q, hd, hv, rs, q, fin⟩ := h
  cases d with
  | ref p =>
    rcases ds with _ | ⟨x, _ | ⟨y, t⟩⟩
    · exact False.elim q
    · obtain ⟨w, rfl, hx⟩ := hv.one_iff
      obtain ⟨xs, ys, e, e2, hl, q⟩ : ∃ xs ys, S p = some (.lst xs) ∧ extD S x = some ys ∧ xs.length + ys.length ≤ sizeLine ∧ Q .non (supd S p (.lst (xs ++ ys))) := q
      obtain ⟨rfl, ws, h1, h2⟩ := ref_at rs hd e
      by_cases ht : x = .tup ys
      · subst ht
        obtain ⟨a, zs, rfl, h3, h4⟩ := hx.tup
        exact mt_extendT pins s σ H _ _ _ _ _ I ru rus ⟨p, a, ws, zs, rfl, rfl, h1, h3, by rw [← h2.length, ← h4.length]; exact hl, fin.set rs e (h2.append h4) rep_non q⟩
      have e2 : listD S x = some ys := by
        cases x with
        | tup zs => exact absurd (by rw [Option.some.inj (show some zs = some ys from e2)]) ht
        | _ => exact e2
      obtain ⟨a, zs, rfl, h3, h4⟩ := listD_at rs hx e2
      exact mt_extend pins s σ H _ _ _ _ _ I ru rus ⟨p, a, ws, zs, rfl, rfl, h1, h3, by rw [← h2.length, ← h4.length]; exact hl, fin.set rs e (h2.append h4) rep_non q⟩
    · exact False.elim q
  | _ => exact False.elim q
theorem m_insert : MtR X "list.insert" (rmD X.K cl (methR .insert)) := by
  intro pins s σ H v vs u us Qh I ru rus h
  obtain ⟨d, ds, S, F, Q, hd, hv, rs, q, fin⟩ := h
  cases d with
  | ref p =>
    rcases ds with _ | ⟨x, _ | ⟨y, _ | ⟨z, t⟩⟩⟩
    · exact False.elim q
    · cases x <;> exact False.elim q
    · cases x with
      | int i =>
        obtain ⟨w, w2, rfl, hx, hy⟩ := hv.two_iff
        obtain ⟨xs, e, hl, h0, hi, q⟩ : ∃ xs, S p = some (.lst xs) ∧ xs.length < sizeLine ∧ 0 ≤ i ∧ i < 2 ^ 40 ∧ Q .non (supd S p (.lst (xs.take i.toNat ++ [y] ++ xs.drop i.toNat))) := q
        obtain ⟨rfl, ws, h1, h2⟩ := ref_at rs hd e
        simp only [Rep] at hx; subst hx
        exact mt_insert pins s σ H _ _ _ _ _ I ru rus ⟨p, ws, i, w2, rfl, rfl, h1, by rw [← h2.length]; exact hl, h0, by omega, fin.set rs e (((h2.take _).append (.one hy)).append (h2.drop _)) rep_non q⟩
      | _ => exact False.elim q
    · cases x <;> exact False.elim q
  | _ => exact False.elim q
theorem m_pop : MtR X "list.pop" (rmD X.K cl (methR .pop)) := by
  intro pins s σ H v vs u us Qh I ru rus h
  obtain ⟨d, ds, S, F, Q, hd, hv, rs, q, fin⟩ := h
  cases d with
  | ref p =>
    rcases ds with _ | ⟨x, t⟩
    · have ev := hv.nil_iff; subst ev
      obtain ⟨xs, x, e, q⟩ : ∃ xs x, S p = some (.lst (xs ++ [x])) ∧ Q x (supd S p (.lst xs)) := q
      obtain ⟨rfl, ws, h1, h2⟩ := ref_at rs hd e
      have hl := h2.length
      rw [List.length_append, List.length_singleton] at hl
      obtain ⟨w, hw, hr⟩ := h2.get (i := xs.length) (d := x) (by simp)
      refine mt_pop pins s σ H _ _ _ _ _ I ru rus ⟨p, ws, w, rfl, rfl, h1, by rw [← hl]; exact hw, ?_⟩
      have e2 : ws.dropLast = ws.take xs.length := by rw [List.dropLast_eq_take, ← hl]; rfl
      have h3 := h2.take xs.length
      rw [List.take_left] at h3
      rw [e2]
      exact fin.set rs e h3 hr q
    · exact False.elim q
  | _ => exact False.elim q
theorem RepL.eraseIdx {F : Fz} {K : PySem.W.Frag} {H : Hp} : ∀ (i : Nat) {ds : List D} {vs : List V}, RepL F K H ds vs → RepL F K H (ds.eraseIdx i) (vs.eraseIdx i)
  | i, [], vs, h => by have e := h.nil_iff; subst e; simp [RepL]
  | 0, d :: ds, vs, h => by
    simp only [RepL] at h
    obtain ⟨v, r, e, h1, h2⟩ := h
    subst e
    exact h2
  | i + 1, d :: ds, vs, h => by
    simp only [RepL] at h
    obtain ⟨v, r, e, h1, h2⟩ := h
    subst e
    exact .cons h1 (RepL.eraseIdx i h2)
theorem m_popAt : MtR X "list.pop" (rmD X.K cl (methR .popAt)) := by
  intro pins s σ H v vs u us Qh I ru rus h
  obtain ⟨d, ds, S, F, Q, hd, hv, rs, q, fin⟩ := h
  cases d with
  | ref p =>
    rcases ds with _ | ⟨x, _ | ⟨y, t⟩⟩
    · exact False.elim q
    · cases x with
      | int i =>
        obtain ⟨w, rfl, hx⟩ := hv.one_iff
        obtain ⟨xs, k, x, e, hk, hxk, q⟩ : ∃ xs k x, S p = some (.lst xs) ∧ ixN xs.length i = some k ∧ xs[k]? = some x ∧ Q x (supd S p (.lst (xs.eraseIdx k))) := q
        obtain ⟨rfl, ws, h1, h2⟩ := ref_at rs hd e
        simp only [Rep] at hx; subst hx
        obtain ⟨k1, k2, k3, k4⟩ := ixN_seq hk
        obtain ⟨z, hz, hr⟩ := h2.get hxk
        have hs := (I.hok p _ h1).1
        have hl := h2.length
        have hl2 := line63
        refine mt_popAt pins s σ H _ _ _ _ _ I ru rus ⟨p, ws, i, k, z, rfl, rfl, h1, by omega, by omega, by rw [← hl]; exact k1, hz, fin.set rs e (h2.eraseIdx k) hr q⟩
      | _ => exact False.elim q
    · cases x <;> exact False.elim q
  | _ => exact False.elim q
theorem m_reverse : MtR X "list.reverse" (rmD X.K cl (methR .reverse)) := by
  intro pins s σ H v vs u us Qh I ru rus h
  obtain ⟨d, ds, S, F, Q, hd, hv, rs, q, fin⟩ := h
  cases d with
  | ref p =>
    rcases ds with _ | ⟨x, t⟩
    · have ev := hv.nil_iff; subst ev
      obtain ⟨xs, e, q⟩ : ∃ xs, S p = some (.lst xs) ∧ Q .non (supd S p (.lst xs.reverse)) := q
      obtain ⟨rfl, ws, h1, h2⟩ := ref_at rs hd e
      exact mt_reverse pins s σ H _ _ _ _ _ I ru rus ⟨p, ws, rfl, rfl, h1, fin.set rs e h2.reverse rep_non q⟩
    · exact False.elim q
  | _ => exact False.elim q
theorem m_clear : MtR X "list.clear" (rmD X.K cl (methR .clear)) := by
  intro pins s σ H v vs u us Qh I ru rus h
  obtain ⟨d, ds, S, F, Q, hd, hv, rs, q, fin⟩ := h
  cases d with
  | ref p =>
    rcases ds with _ | ⟨x, t⟩
    · have ev := hv.nil_iff; subst ev
      obtain ⟨xs, e, q⟩ : ∃ xs, S p = some (.lst xs) ∧ Q .non (supd S p (.lst [])) := q
      obtain ⟨rfl, ws, h1, h2⟩ := ref_at rs hd e
      exact mt_clear pins s σ H _ _ _ _ _ I ru rus ⟨p, ws, rfl, rfl, h1, fin.set rs e .nil rep_non q⟩
    · exact False.elim q
  | _ => exact False.elim q
theorem pyL_get : ∀ (ds : List D) (j : Nat), (pyL ds)[j]? = ds[j]?.map pyD
  | [], j => by simp [pyL]
  | d :: ds, 0 => by simp [pyL]
  | d :: ds, j + 1 => by simp [pyL, pyL_get ds j]
theorem plainL_get : ∀ {ds : List D} {j : Nat} {d : D}, plainL ds = true → ds[j]? = some d → plain d = true
  | [], j, d, _, e => by simp at e
  | x :: ds, 0, d, h, e => by
    simp only [plainL, Bool.and_eq_true] at h
    simp at e; subst e; exact h.1
  | x :: ds, j + 1, d, h, e => by
    simp only [plainL, Bool.and_eq_true] at h
    exact plainL_get h.2 (by simpa using e)
theorem m_index (hu : X.A.units + 70 < cLine) : MtR X "list.index" (rmD X.K cl (methR .index)) := by
  intro pins s σ H v vs u us Qh I ru rus h
  obtain ⟨d, ds, S, F, Q, hd, hv, rs, q, fin⟩ := h
  rcases ds with _ | ⟨x, _ | ⟨y, t⟩⟩
  · cases d <;> exact False.elim q
  · obtain ⟨w, rfl, hx⟩ := hv.one_iff
    obtain ⟨ys, j, z, e, g1, g2, d1, d2, hz, hzx, hno, q⟩ : ∃ (ys : List D) (j : Nat) (z : D), listD S d = some ys ∧ plain x = true ∧ plainL ys = true ∧ dep x ≤ 60 ∧ depL ys ≤ 60 ∧ ys[j]? = some z ∧ eqb z x = true ∧ (∀ (m : Nat) (z' : D), m < j → ys[m]? = some z' → eqb z' x = false) ∧ Q (.int (j : Nat)) S := by
      cases d <;> exact q
    obtain ⟨a, ws, rfl, h1, h2⟩ := listD_at rs hd e
    obtain ⟨p1, c1⟩ := py_rep x w g1 hx
    obtain ⟨p2, c2⟩ := pyL_rep ys ws g2 h2
    refine mt_indexD (by omega) pins s σ H _ _ _ _ _ I ru rus ⟨a, w, pyD x, pyL ys, j, pyD z, rfl, rfl, .lst (SqL.of h1) p2, p1, ?_, ?_, by rw [pyL_get, hz]; rfl, by rw [py_eqv _ _ (plainL_get g2 hz) g1]; exact hzx, fun m z' hm he => ?_, fin.here rs rep_int q⟩
    · show (PyData.canLay0 (.list (pyL ys)) && decide (PyData.depth (.list (pyL ys)) ≤ 64)) = true
      rw [Bool.and_eq_true]
      refine ⟨by simp only [PyData.canLay0]; exact c2, decide_eq_true ?_⟩
      simp only [PyData.depth, pyL_dep]; omega
    · show ((pyD x).canLay0 && decide ((pyD x).depth ≤ 64)) = true
      rw [Bool.and_eq_true]
      exact ⟨c1, decide_eq_true (by rw [py_dep]; omega)⟩
    · rw [pyL_get] at he
      obtain ⟨z'', e1, e2⟩ := Option.map_eq_some_iff.mp he
      subst e2
      rw [py_eqv _ _ (plainL_get g2 e1) g1]
      exact hno m z'' hm e1
  · cases d <;> exact False.elim q
theorem m_tindex : MtR X "tuple.index" (rmD X.K cl (methR .tindex)) := by
  intro pins s σ H v vs u us Qh I ru rus h
  obtain ⟨d, ds, S, F, Q, hd, hv, rs, q, fin⟩ := h
  cases d with
  | tup ys =>
    rcases ds with _ | ⟨x, _ | ⟨y, t⟩⟩
    · exact False.elim q
    · cases x with
      | str z =>
        obtain ⟨w, rfl, hx⟩ := hv.one_iff
        obtain ⟨zs, j, e, hj, hno, q⟩ : ∃ (zs : List (List Nat)) (j : Nat), ys = zs.map D.str ∧ zs[j]? = some z ∧ (∀ m, m < j → zs[m]? ≠ some z) ∧ Q (.int (j : Nat)) S := q
        subst e
        obtain ⟨a, ws, rfl, h1, h2⟩ := hd.tup
        obtain ⟨e2, ok⟩ := repL_str h2
        subst e2
        simp only [Rep] at hx
        obtain ⟨rfl, _⟩ := hx
        refine mt_tup_index pins s σ H _ _ _ _ _ I ru rus ⟨a, zs.map mkS, mkS z, j, rfl, rfl, h1, by rw [List.getElem?_map, hj]; rfl, fun m hm e => ?_, fin.here rs rep_int q⟩
        rw [List.getElem?_map] at e
        obtain ⟨z', e1, e2⟩ := Option.map_eq_some_iff.mp e
        exact hno m hm (by rw [e1, mkS_inj e2])
      | _ => exact False.elim q
    · cases x <;> exact False.elim q
  | _ => exact False.elim q

/-! ### places, slices -/
theorem atI_map {α β : Type} {xs : List α} {ys : List β} (hl : xs.length = ys.length) {i : Int} {v : α} (h : atI xs i = some v) (R : α → β → Prop) (g : ∀ (j : Nat) (x : α), xs[j]? = some x → ∃ y, ys[j]? = some y ∧ R x y) : ∃ w, atI ys i = some w ∧ R v w := by
  unfold atI at h ⊢
  rw [← hl]
  cases e : ixN xs.length i with
  | none => rw [e] at h; cases h
  | some j =>
    rw [e] at h
    exact g j v h
theorem keyV_inj {a b : KD} (h : keyV a = keyV b) : a = b := by
  cases a <;> cases b <;> simp only [keyV, Sum.inl.injEq, Sum.inr.injEq, reduceCtorEq] at h
  · rw [h]
  · rw [mkS_inj h]
theorem valD_at {F : Fz} {K : PySem.W.Frag} {H : Hp} {k : KD} : ∀ {kvs : List (KD × D)} {wvs : List (L2.Key × V)} {d : D}, wvs.map (·.1) = kvs.map (fun p => keyV p.1) → RepL F K H (kvs.map (·.2)) (wvs.map (·.2)) → valD kvs k = some d → ∃ w, valV wvs (keyV k) = some w ∧ Rep F K H d w
  | [], _, _, _, _, h => by simp [valD] at h
  | _ :: _, [], _, h, _, _ => by simp at h
  | (k1, d1) :: kvs, (k2, w2) :: wvs, d, h1, h2, h3 => by
    simp only [List.map_cons, List.cons.injEq] at h1
    simp only [List.map_cons, RepL, List.cons.injEq] at h2
    obtain ⟨v, r, ⟨rfl, rfl⟩, h4, h5⟩ := h2
    by_cases hk : k1 = k
    · subst hk
      simp [valD] at h3
      subst h3
      exact ⟨_, by rw [← h1.1]; simp [valV], h4⟩
    · have h3 : valD kvs k = some d := by simpa [valD, hk] using h3
      obtain ⟨w, e, hr⟩ := valD_at h1.2 h5 h3
      refine ⟨w, ?_, hr⟩
      have hne : ¬ k2 = keyV k := fun z => hk (keyV_inj (by rw [← h1.1]; exact z))
      rw [valV_neg (p := (k2, w2)) hne]; exact e
theorem putD_at {F : Fz} {K : PySem.W.Frag} {H : Hp} {k : KD} {d : D} {w : V} (hd : Rep F K H d w) {kvs : List (KD × D)} {wvs : List (L2.Key × V)} (h1 : wvs.map (·.1) = kvs.map (fun p => keyV p.1)) (h2 : RepL F K H (kvs.map (·.2)) (wvs.map (·.2))) :
    (putK wvs (keyV k) w).map (·.1) = (putD kvs k d).map (fun p => keyV p.1) ∧ RepL F K H ((putD kvs k d).map (·.2)) ((putK wvs (keyV k) w).map (·.2)) := by
  have ha : ∀ {kvs : List (KD × D)} {wvs : List (L2.Key × V)}, wvs.map (·.1) = kvs.map (fun p => keyV p.1) → (wvs.any fun p => decide (p.1 = keyV k)) = (kvs.any fun p => decide (p.1 = k)) := by
    intro kvs
    induction kvs with
    | nil => intro wvs h; simp at h; subst h; rfl
    | cons p kvs ih =>
      intro wvs h
      cases wvs with
      | nil => simp at h
      | cons q wvs =>
        simp only [List.map_cons, List.cons.injEq] at h
        rw [List.any_cons, List.any_cons, ih h.2]
        congr 1
        rw [h.1]
        by_cases e : p.1 = k
        · rw [e]; simp
        · have : ¬ keyV p.1 = keyV k := fun z => e (keyV_inj z)
          simp [e, this]
  have hm : ∀ {kvs : List (KD × D)} {wvs : List (L2.Key × V)}, wvs.map (·.1) = kvs.map (fun p => keyV p.1) → RepL F K H (kvs.map (·.2)) (wvs.map (·.2)) →
      (wvs.map fun p => if p.1 = keyV k then (p.1, w) else p).map (·.1) = (kvs.map fun p => if p.1 = k then (p.1, d) else p).map (fun p => keyV p.1) ∧ RepL F K H ((kvs.map fun p => if p.1 = k then (p.1, d) else p).map (·.2)) ((wvs.map fun p => if p.1 = keyV k then (p.1, w) else p).map (·.2)) := by
    intro kvs
    induction kvs with
    | nil => intro wvs h _; simp at h; subst h; exact ⟨rfl, .nil⟩
    | cons p kvs ih =>
      intro wvs h h2
      cases wvs with
      | nil => simp at h
      | cons q wvs =>
        simp only [List.map_cons, List.cons.injEq] at h
        simp only [List.map_cons, RepL, List.cons.injEq] at h2
        obtain ⟨v, r, ⟨rfl, rfl⟩, h4, h5⟩ := h2
        obtain ⟨i1, i2⟩ := ih h.2 h5
        simp only [List.map_cons, List.cons.injEq]
        by_cases e : p.1 = k
        · have e2 : q.1 = keyV k := by rw [h.1, e]
          rw [if_pos e, if_pos e2]
          exact ⟨⟨h.1, i1⟩, .cons hd i2⟩
        · have e2 : ¬ q.1 = keyV k := fun z => e (keyV_inj (by rw [← h.1]; exact z))
          rw [if_neg e, if_neg e2]
          exact ⟨⟨h.1, i1⟩, .cons h4 i2⟩
  unfold putK putD
  rw [ha h1]
  split
  · exact hm h1 h2
  · rw [List.map_append, List.map_append, List.map_append, List.map_append, h1]
    exact ⟨rfl, h2.append (.one hd)⟩
theorem put_len {kvs : List (KD × D)} {k : KD} {d : D} : (putD kvs k d).length ≤ kvs.length + 1 := by
  unfold putD; split <;> simp
theorem set_both (hu : X.A.units + 1 < cLine) : PSet X (fun o i v H Q => rSetL o i v H Q ∨ rSetD o i v H Q) := fun pins s σ H o i v ov iv u Q I ro ri rv h =>
  h.elim (fun h => set_list pins s σ H o i v ov iv u Q I ro ri rv h) (fun h => set_dict hu pins s σ H o i v ov iv u Q I ro ri rv h)
theorem count_of : ∀ {vs : List Value} {ys : List Str} (k : Str), StrsAre vs ys → vs.countP (isStrOf k) = ys.count k
  | _, _, k, .nil => rfl
  | _, _, k, .cons y t h => by
    rw [List.countP_cons, List.count_cons, count_of k h]
    rfl
theorem mkS_count (x : List Nat) : ∀ zs : List (List Nat), (zs.map mkS).count (mkS x) = zs.count x
  | [] => rfl
  | z :: zs => by
    rw [List.map_cons, List.count_cons, List.count_cons, mkS_count x zs]
    by_cases e : z = x
    · rw [e]; simp
    · have : ¬ mkS z = mkS x := fun h => e (mkS_inj h)
      simp [e, this]
theorem m_count : MtR X "list.count" (rmD X.K cl (methR .count)) := by
  intro pins s σ H v vs u us Qh I ru rus h
  obtain ⟨d, ds, S, F, Q, hd, hv, rs, q, fin⟩ := h
  have q : methR .count d ds S Q := q
  obtain ⟨x, eds⟩ : ∃ x, ds = [.str x] := by
    unfold methR at q
    split at q <;> first | exact ⟨_, rfl⟩ | exact False.elim q | (rename_i h _ _; cases h) | skip
    all_goals contradiction
  subst eds
  obtain ⟨zs, e, q⟩ : ∃ zs : List (List Nat), listD S d = some (zs.map D.str) ∧ Q (.int (zs.count x : Nat)) S := q
  obtain ⟨w, rfl, hx⟩ := hv.one_iff
  obtain ⟨a, ws, rfl, h1, h2⟩ := listD_at rs hd e
  obtain ⟨e2, ok⟩ := repL_str h2
  subst e2
  simp only [Rep] at hx
  obtain ⟨rfl, _⟩ := hx
  cases ru
  obtain ⟨u, rfl, ru⟩ := rus.one
  obtain ⟨t, rfl⟩ := ru
  obtain ⟨its, rv, ⟨⟨cls, dd, data, sl⟩, n, ho, hc, hdn, hdt⟩, hlen⟩ := I.list (SqL.of h1)
  simp only at hc hdt
  subst hc hdt
  have hi := Vals.strs rv
  refine call_meets PySem.F.slot_list_count ⟨_, ho, rfl⟩ PySem.F.entry_list_count (PySem.F.args_list_count_2 _ _)
    (SeqAt.list_countAt a its.toArray n dd sl (.str (mkS x) t) (isStrOf (mkS x))) ⟨ho, fun y hy => (eq_isStrOf (mkS x) t hi y (by simpa using hy)).at _ _, ?_⟩
  have ec : its.toArray.toList.countP (isStrOf (mkS x)) = zs.count x := by
    rw [show its.toArray.toList = its from rfl, count_of _ hi, mkS_count]
  refine ⟨.int (zs.count x : Nat), H, I.tok _, ⟨s.toks, ?_⟩, fin.here rs rep_int q⟩
  show Value.int ((its.toArray.toList.countP (isStrOf (mkS x)) : Nat) : Int) s.toks = Value.int ((zs.count x : Nat) : Int) s.toks
  rw [ec]
theorem x_idx (hu : X.A.units + 1 < cLine) : IxR X (r2D X.K cl idxR) := by
  intro value slice pins s σ H v1 v2 u1 u2 Qh I r1 r2 h hs
  obtain ⟨x, y, S, F, Q, h1, h2, rs, q, fin⟩ := h
  cases y with
  | int i =>
    simp only [Rep] at h2; subst h2
    by_cases hstr : ∃ z, x = .str z
    · obtain ⟨z, rfl⟩ := hstr
      obtain ⟨c, e, q⟩ : ∃ c, atI z i = some c ∧ Q (.str [c]) S := q
      simp only [Rep] at h1
      obtain ⟨rfl, oz⟩ := h1
      refine ix_str value slice pins s σ H _ _ _ _ _ I r1 r2 ⟨mkS z, i, c, rfl, rfl, by rw [mkS_length]; exact Nat.le_trans oz.1 lim_line, by rw [mkS_cps]; exact e, ?_⟩ hs
      have hm : c ∈ z := by
        obtain ⟨j, _, hj, _⟩ := atI_get e
        exact List.mem_of_getElem? hj
      exact fin.here rs (rep_str ⟨by simp [LIM], fun d hd => by simp at hd; subst hd; exact oz.2 _ hm⟩) q
    · obtain ⟨xs, d, e, ed, q⟩ : ∃ xs v, seqD S x = some xs ∧ atI xs i = some v ∧ Q v S := by
        cases x with
        | str z => exact absurd ⟨z, rfl⟩ hstr
        | _ => exact q
      obtain ⟨a, ws, rfl, h3, h4⟩ := seqD_at rs h1 e
      obtain ⟨w, hw, rw'⟩ := atI_map h4.length ed (Rep F X.K H) fun j x hx => h4.get hx
      refine ix_seq value slice pins s σ H _ _ _ _ _ I r1 r2 ?_ hs
      rcases h3 with h3 | h3
      · exact .inl ⟨a, ws, i, w, rfl, rfl, h3, hw, fin.here rs rw' q⟩
      · exact .inr (.inl ⟨a, ws, i, w, rfl, rfl, h3, hw, fin.here rs rw' q⟩)
  | str k =>
    obtain ⟨p, kvs, d, rfl, hS, hv, q⟩ : ∃ p kvs v, x = .ref p ∧ S p = some (.dct kvs) ∧ valD kvs (.inr k) = some v ∧ Q v S := q
    simp only [Rep] at h1 h2
    subst h1
    obtain ⟨rfl, _⟩ := h2
    obtain ⟨wvs, hH, hk, hr⟩ := rs.ob p _ hS
    obtain ⟨w, e, hw⟩ := valD_at hk hr hv
    have g : DGet H p (kV (keyV (.inr k))) (some w) := .inl ⟨wvs, keyV (.inr k), .inl hH, rfl, e.symm⟩
    cases r1
    exact tail_any (dict_typeIs I g) PySem.F.slot_dict_getitem.lookup (d_getItem hu I g r2 fun w' s3 I3 rw' => ⟨w, H, I3, rw', fin.here rs hw q⟩) hs
  | _ => exact False.elim q
def rsD (K : PySem.W.Frag) (cl : Nat → Option Addr) (m : Bool) : V → Option Int → Option Int → Hp → VK → Prop := fun v lo hi H Qh =>
  ∃ d S F Q, Rep F K H d v ∧ RelS F K cl S H ∧ slcR m d lo hi S Q ∧ Fin K cl S F H Q Qh
theorem x_slc (m : Bool) : SlR X (rsD X.K cl m) := by
  intro pins s σ H v u vl vu lo hi sl Qh I ru hs pl pu h
  obtain ⟨d, S, F, Q, hd, rs, q, fin⟩ := h
  by_cases hstr : ∃ z, d = .str z
  · obtain ⟨z, rfl⟩ := hstr
    simp only [Rep] at hd
    obtain ⟨rfl, oz⟩ := hd
    refine sl_str pins s σ H _ _ _ _ _ _ _ _ I ru hs pl pu ⟨mkS z, rfl, by rw [mkS_length]; exact Nat.le_trans oz.1 lim_line, ?_⟩
    have e : cutS (mkS z) lo hi = mkS (cutL z lo hi) := by
      refine TL.ext_tl ?_
      rw [tl_mkS]
      show ((mkS z).cps.toList.drop _).take _ = _
      rw [mkS_cps, mkS_length]; rfl
    rw [e]
    refine fin.here rs (rep_str ⟨?_, fun c hc => oz.2 c (List.mem_of_mem_drop (List.mem_of_mem_take hc))⟩) q
    have : (cutL z lo hi).length ≤ z.length := by
      unfold cutL; rw [List.length_take, List.length_drop]; omega
    exact Nat.le_trans this oz.1
  · by_cases ht : ∃ ys, d = .tup ys
    · obtain ⟨ys, rfl⟩ := ht
      obtain ⟨a, ws, rfl, h1, h2⟩ := hd.tup
      have hl := h2.length
      have e : ∀ {α : Type} (xs : List α), xs.length = ys.length → cutL xs lo hi = (xs.drop (HT.sIx ys.length 0 lo)).take (HT.sIx ys.length ys.length hi - HT.sIx ys.length 0 lo) := fun xs h => by unfold cutL; rw [h]
      refine sl_tupA pins s σ H _ _ _ _ _ _ _ _ I ru hs pl pu ⟨a, ws, rfl, h1, fun hw => ?_, fun _ p hp => ?_⟩
      · have e3 : cutL ys lo hi = ys := by
          rw [e ys rfl, hl, hw.1, hw.2, Nat.sub_zero, List.drop_zero]
          rw [← hl]; exact List.take_length
        have q : Q (.tup (cutL ys lo hi)) S := q
        rw [e3] at q
        exact fin.here rs hd q
      · have e4 : cutV ws lo hi = (ws.drop (HT.sIx ys.length 0 lo)).take (HT.sIx ys.length ys.length hi - HT.sIx ys.length 0 lo) := by
          unfold cutV; rw [← hl]
        rw [e4]
        exact fin.tup rs ((h2.drop _).take _) hp (by rw [← e ys rfl]; exact q)
    · obtain ⟨xs, e, q⟩ : ∃ xs, listD S d = some xs ∧ newL m (cutL xs lo hi) S Q := by
        cases d with
        | str z => exact absurd ⟨z, rfl⟩ hstr
        | tup ys => exact absurd ⟨ys, rfl⟩ ht
        | _ => exact q
      obtain ⟨a, ws, rfl, h1, h2⟩ := listD_at rs hd e
      refine sl_list pins s σ H _ _ _ _ _ _ _ _ I ru hs pl pu ⟨a, ws, rfl, SqL.of h1, fun p hp => ?_⟩
      have hl := h2.length
      have e4 : cutV ws lo hi = (ws.drop (HT.sIx xs.length 0 lo)).take (HT.sIx xs.length xs.length hi - HT.sIx xs.length 0 lo) := by
        unfold cutV; rw [← hl]
      rw [e4]
      exact fin.lst rs ((h2.drop _).take _) hp (by unfold cutL at q; exact q)
end
end MP
/-! the text that the small language speaks of: a look that answers, and what it is worth -/
namespace MP
open PySem PySem.Spec PyProof.Rows L2

/-- names: defs with their parameters, constants, exception classes -/
structure NT where
  fns : List (Str × List Str × List (List Str × List Nat))
  cons : List Str
  excs : List (Str × List Str)
  hot : Option Nat
  /-- defs that may be called where an exception is handled; whether this is such a def's body -/
  hots : List Nat
  hb : Bool
  /-- whether this is a comprehension's block there -/
  bl : Bool := false
/-- a block there -/
def blT (T : NT) : NT := { T with bl := true }
def isR1 : It → Bool
  | .rng1 _ => true
  | _ => false
/-- where things stand: instances' classes, exceptions' classes, exceptions' fields -/
structure JE where
  cl : Nat → Option Addr
  xa : Nat → Option Addr
  hx : Nat → D → Prop

def visB (sc : Scope) (x : Str) : Bool := match sc.names.lookup x with
  | some .local => true | some .cell => true | some .free => true | _ => false
def glB (sc : Scope) (x : Str) : Bool := (match sc.names.lookup x with | some .globalImplicit => true | _ => false) && !(x == ("__debug__" : Str))
def plainName (x : Str) : Bool := !(x == ("__debug__" : Str)) && !(x == ("__classdict__" : Str))
def isOp : Bop → Operator → Bool
  | .add, .Add => true | .sub, .Sub => true | .mul, .Mult => true | .fdiv, .FloorDiv => true | .mod, .Mod => true | .pow, .Pow => true | _, _ => false
def isCo : Cop → CmpOp → Bool
  | .lt, .Lt => true | .le, .LtE => true | .gt, .Gt => true | .ge, .GtE => true | .eq, .Eq => true | .ne, .NotEq => true | .isin, .In => true | .notin, .NotIn => true | _, _ => false
theorem isOp_eq {a : Bop} {o : Operator} (h : isOp a o = true) : o = toOp a := by cases a <;> cases o <;> first | rfl | cases h
theorem isCo_eq {a : Cop} {o : CmpOp} (h : isCo a o = true) : o = toCo a := by cases a <;> cases o <;> first | rfl | cases h
def okSB (s : List Nat) : Bool := decide (s.length ≤ LIM) && s.all (fun c => decide (c < 1114112))
def noStar : Expr → Bool
  | .Starred .. => false
  | _ => true
def noSet : Expr → Bool
  | .Set .. => false
  | _ => true
def noSlice : Expr → Bool
  | .Slice .. => false
  | _ => true
def noSuper : Expr → Bool
  | .Call (.Name _ _) [] [] _ => false
  | _ => true
def bltNm : Bl → String
  | .len => "len" | .int => "int" | .str => "str" | .abs => "abs" | .max2 => "max" | .min2 => "min" | .all => "all" | .any => "any" | .tup => "tuple" | .lst _ => "list" | .lss _ => "list" | .sum => "sum"
def mtNm : Mt → String
  | .join => "join" | .split _ => "split" | .lower => "lower" | .upper => "upper" | .strip => "strip" | .append => "append" | .extend => "extend" | .insert => "insert" | .pop => "pop" | .popAt => "pop" | .index => "index"
  | .tindex => "index" | .reverse => "reverse" | .clear => "clear" | .count => "count"
/-- how many arguments a method takes here -/
def mtAr : Mt → Nat
  | .join => 1 | .split _ => 1 | .lower => 0 | .upper => 0 | .strip => 0 | .append => 1 | .extend => 1 | .insert => 2 | .pop => 0 | .popAt => 1 | .index => 1 | .tindex => 1 | .reverse => 0 | .clear => 0 | .count => 1
def ownOf (N : List Str) (own : List Nat) : List (Str × Nat) := own.map fun i => ((N[i]?).getD ("" : Str), i)
def kwNames : List Keyword → Option (List Str)
  | [] => some []
  | ⟨some n, _, _⟩ :: r => (kwNames r).map (n :: ·)
  | ⟨none, _, _⟩ :: _ => none
def bltHot : Bl → Bool
  | .lss _ => false
  | .max2 => false | .min2 => false | .sum => false | _ => true

def chkDk : List (List Nat) → List (Option Expr) → Bool
  | [], [] => true
  | k :: ks, some (.Constant (.str x) _ _) :: r => decide (mkS k = x) && okSB k && chkDk ks r
  | _, _ => false
def isNonE : Ex → Bool
  | .non => true
  | _ => false
mutual
def chkTg (ht : Option Nat) (N : List Str) (sc : Scope) (fb : Str → Bool) : Tg → Expr → Bool
  | .nm i, .Name x _ => !(ht == some i) && decide (N[i]? = some x) && (match sc.names.lookup x with | some .local => true | some .cell => fb x | _ => false)
  | .tp ts, .Tuple es _ _ => ht.isNone && chkTgs ht N sc fb ts es
  | _, _ => false
def chkTgs (ht : Option Nat) (N : List Str) (sc : Scope) (fb : Str → Bool) : List Tg → List Expr → Bool
  | [], [] => true
  | t :: ts, e :: es => noStar e && chkTg ht N sc fb t e && chkTgs ht N sc fb ts es
  | _, _ => false
end
set_option maxHeartbeats 4000000 in
mutual
def chkE (T : NT) (N : List Str) (sc : Scope) (fb : Str → Bool) : Ex → Expr → Bool
  | .non, e0 => match e0 with
    | .Constant .none _ _ => true
    | _ => false
  | .bl b, e0 => match e0 with
    | .Constant (.bool c) _ _ => b == c
    | _ => false
  | .int i, e0 => match e0 with
    | .Constant (.int j) _ _ => i == j
    | _ => false
  | .str s, e0 => match e0 with
    | .Constant (.str x) _ _ => decide (mkS s = x) && okSB s
    | _ => false
  | .var i, e0 => match e0 with
    | .Name x _ => decide (N[i]? = some x) && visB sc x && plainName x
    | _ => false
  | .glb k, e0 => match e0 with
    | .Name x _ => decide (T.cons[k]? = some x) && glB sc x
    | _ => false
  | .bin op _ a b, e0 => match e0 with
    | .BinOp l o r _ => isOp op o && chkE T N sc fb a l && chkE T N sc fb b r
    | _ => false
  | .neg a, e0 => match e0 with
    | .UnaryOp .USub e _ => chkE T N sc fb a e
    | _ => false
  | .not a, e0 => match e0 with
    | .UnaryOp .Not e _ => chkE T N sc fb a e
    | _ => false
  | .cmp op a b, e0 => match e0 with
    | .Compare l [o] [r] _ => isCo op o && noSet r && chkE T N sc fb a l && chkE T N sc fb b r
    | _ => false
  | .isN a, e0 => match e0 with
    | .Compare l [.Is] [.Constant .none _ _] _ => chkE T N sc fb a l
    | _ => false
  | .nsN a, e0 => match e0 with
    | .Compare l [.IsNot] [.Constant .none _ _] _ => chkE T N sc fb a l
    | _ => false
  | .isB b a, e0 => match e0 with
    | .Compare l [.Is] [.Constant (.bool c) _ _] _ => b == c && chkE T N sc fb a l
    | _ => false
  | .nsB b a, e0 => match e0 with
    | .Compare l [.IsNot] [.Constant (.bool c) _ _] _ => b == c && chkE T N sc fb a l
    | _ => false
  | .chain o1 o2 a b c, e0 => match e0 with
    | .Compare l [p1, p2] [m, r] _ => isCo o1 p1 && isCo o2 p2 && noSet m && noSet r && chkE T N sc fb a l && chkE T N sc fb b m && chkE T N sc fb c r
    | _ => false
  | .and es, e0 => match e0 with
    | .BoolOp .And xs _ => decide (1 < es.length) && chkEs T N sc fb es xs
    | _ => false
  | .or es, e0 => match e0 with
    | .BoolOp .Or xs _ => decide (1 < es.length) && chkEs T N sc fb es xs
    | _ => false
  | .ite c a b, e0 => match e0 with
    | .IfExp t x y _ => chkE T N sc fb c t && chkE T N sc fb a x && chkE T N sc fb b y
    | _ => false
  | .tup es, e0 => match e0 with
    | .Tuple xs _ _ => chkEs T N sc fb es xs
    | _ => false
  | .lst _ es, e0 => match e0 with
    | .List xs _ => chkEs T N sc fb es xs
    | _ => false
  | .call f es, e0 => match e0 with
    | .Call (.Name x _) xs [] _ => (match T.fns[f]? with | some (y, ps, _) => decide (y = x) && decide (ps.length = es.length) | none => false) && (T.hot.isNone || (decide (f ∈ T.hots) && decide (0 < es.length))) && glB sc x && chkEs T N sc fb es xs
    | _ => false
  | .blt b es, e0 => match e0 with
    | .Call (.Name x _) xs [] _ => decide (x = Str.ofString (bltNm b)) && glB sc x && decide (0 < es.length) && (T.hot.isNone || bltHot b) && chkEs T N sc fb es xs
    | _ => false
  | .isty t e, e0 => match e0 with
    | .Call (.Name x _) [y, .Name z _] [] _ => decide (x = ("isinstance" : Str)) && decide (z = Str.ofString (tyNm t)) && glB sc x && glB sc z && noStar y && chkE T N sc fb e y
    | _ => false
  | .meth m o es, e0 => match e0 with
    | .Call (.Attribute y nm apos) xs [] pos => decide (nm = Str.ofString (mtNm m)) && !(decide (m = .tindex)) && noSuper y && (apos.endLine == pos.line) && decide (es.length = mtAr m) && chkE T N sc fb o y && chkEs T N sc fb es xs
    | _ => false
  | .idx a b, e0 => match e0 with
    | .Subscript l r _ => noSlice r && chkE T N sc fb a l && chkE T N sc fb b r
    | _ => false
  | .slc _ a lo hi, e0 => match e0 with
    | .Subscript l (.Slice x y none _) _ => chkE T N sc fb a l && (match x with | none => isNonE lo | some x => !isNonE lo && chkE T N sc fb lo x) && (match y with | none => isNonE hi | some y => !isNonE hi && chkE T N sc fb hi y)
    | _ => false
  | .lc _ elt tg it own, e0 => match e0 with
    | .ListComp e [⟨t, i, [], 0⟩] scope _ => (T.hot.isNone || isR1 it) && noSet i && chkIt T N sc fb it i && blkC N sc scope (ownOf N own) && decide (own.Nodup) && chkTg T.hot N (relS scope sc) (fun x => scope.names.lookup x == some .cell) tg t &&
      tgIn own tg && (if T.hot.isNone then chkE T N (relS scope sc) (fun x => scope.names.lookup x == some .cell) elt e else chkE (blT T) N (relS scope sc) (fun x => scope.names.lookup x == some .cell) elt e)
    | _ => false
  | .lcf _ elt tg it c own, e0 => match e0 with
    | .ListComp e [⟨t, i, [f], 0⟩] scope _ => T.hot.isNone && noSet i && chkIt T N sc fb it i && blkC N sc scope (ownOf N own) && decide (own.Nodup) && chkTg none N (relS scope sc) (fun x => scope.names.lookup x == some .cell) tg t &&
      tgIn own tg && chkE T N (relS scope sc) (fun x => scope.names.lookup x == some .cell) elt e && chkE T N (relS scope sc) (fun x => scope.names.lookup x == some .cell) c f
    | _ => false
  | .callk f es perm, e0 => match e0 with
    | .Call (.Name x _) [] kws _ => (match T.fns[f]? with | some (y, _, kw) => decide (y = x) && (match kwNames kws with | some ks => decide ((ks, perm) ∈ kw) | none => false) | none => false) && T.hot.isNone && glB sc x && chkKs T N sc fb es kws
    | _ => false
  | .rev _ a, e0 => match e0 with
    | .Subscript l (.Slice none none (some (.UnaryOp .USub (.Constant (.int 1) _ _) _)) _) _ => chkE T N sc fb a l
    | _ => false
  | .nd _ j it own, e0 => match e0 with
    | .Call (.Name f _) [.DictComp kx (.Constant (.bool true) _ _) [⟨t, i, [], 0⟩] scope _] [] _ => decide (f = ("len" : Str)) && glB sc f && T.hot.isNone && noSet i && chkIt T N sc fb it i && blkC N sc scope (ownOf N own) && decide (own.Nodup) &&
      chkTg none N (relS scope sc) (fun x => scope.names.lookup x == some .cell) (.nm j) t && tgIn own (.nm j) && (match kx with | .Name x _ => decide (N[j]? = some x) && visB (relS scope sc) x && plainName x | _ => false)
    | _ => false
  | .lc2 _ elt tg it tg1 it1 own own1, e0 => match e0 with
    | .ListComp e [⟨t, i, [], 0⟩, ⟨t1, i1, [], 0⟩] scope _ => T.hot.isNone && noSet i && noSet i1 && chkIt T N sc fb it i && blkC N sc scope (ownOf N own) && decide (own.Nodup) && chkTg none N (relS scope sc) (fun x => scope.names.lookup x == some .cell) tg t &&
      tgIn own tg && (own1.all fun k => decide (k ∈ own)) && chkIt T N (relS scope sc) (fun x => scope.names.lookup x == some .cell) it1 i1 && chkTg none N (relS scope sc) (fun x => scope.names.lookup x == some .cell) tg1 t1 &&
      tgIn own1 tg1 && chkE T N (relS scope sc) (fun x => scope.names.lookup x == some .cell) elt e
    | _ => false
  | .dsp ks es, e0 => match e0 with
    | .Dict keys vals _ => decide (ks.Nodup) && decide (0 < ks.length) && decide (ks.length ≤ 15) && decide (ks.length = es.length) && chkDk ks keys && chkEs T N sc fb es vals
    | _ => false
  | .exf i f, e0 => match e0 with
    | .Attribute (.Name x _) n _ => !T.bl && T.hot == some i && decide (N[i]? = some x) && visB sc x && plainName x && decide (n = f)
    | _ => false
  | .exis i k, e0 => match e0 with
    | .Call (.Name y _) [.Name x _, .Name z _] [] _ => !T.bl && T.hot == some i && decide (y = ("isinstance" : Str)) && glB sc y && decide (N[i]? = some x) && visB sc x && plainName x && decide ((T.excs[k]?.map (·.1)) = some z) && glB sc z
    | _ => false
  | .lrg1 _ b, e0 => match e0 with
    | .Call (.Name x _) [.Call (.Name z _) [y] [] _] [] _ => T.hot.isNone && decide (x = ("list" : Str)) && glB sc x && decide (z = ("range" : Str)) && glB sc z && noStar y && chkE T N sc fb b y
    | _ => false
  | .lrg2 _ a b, e0 => match e0 with
    | .Call (.Name x _) [.Call (.Name z _) [y, u] [] _] [] _ => T.hot.isNone && decide (x = ("list" : Str)) && glB sc x && decide (z = ("range" : Str)) && glB sc z && noStar y && noStar u && chkE T N sc fb a y && chkE T N sc fb b u
    | _ => false
  | .sft i, e0 => match e0 with
    | .Name x _ => decide (N[i]? = some x) && visB sc x && plainName x
    | _ => false
  | .frz i, e0 => match e0 with
    | .Name x _ => decide (N[i]? = some x) && visB sc x && plainName x
    | _ => false
  | .tix i a, e0 => match e0 with
    | .Call (.Attribute (.Name x _) nm apos) [y] [] pos => decide (nm = ("index" : Str)) && decide (N[i]? = some x) && visB sc x && plainName x && (apos.endLine == pos.line) && noStar y && chkE T N sc fb a y
    | _ => false
  | .tpn a, e0 => match e0 with
    | .Call (.Name x _) [y] [] _ => decide (x = ("tuple" : Str)) && glB sc x && noStar y && chkE T N sc fb a y
    | _ => false
def chkEs (T : NT) (N : List Str) (sc : Scope) (fb : Str → Bool) : List Ex → List Expr → Bool
  | [], [] => true
  | e :: es, x :: xs => noStar x && chkE T N sc fb e x && chkEs T N sc fb es xs
  | _, _ => false
def chkKs (T : NT) (N : List Str) (sc : Scope) (fb : Str → Bool) : List Ex → List Keyword → Bool
  | [], [] => true
  | e :: es, ⟨_, x, _⟩ :: xs => chkE T N sc fb e x && chkKs T N sc fb es xs
  | _, _ => false
def chkIt (T : NT) (N : List Str) (sc : Scope) (fb : Str → Bool) : It → Expr → Bool
  | .ex e, x => chkE T N sc fb e x
  | .rng1 b, e0 => match e0 with
    | .Call (.Name x _) [y] [] _ => decide (x = ("range" : Str)) && glB sc x && noStar y && chkE T N sc fb b y
    | _ => false
  | .rng2 a b, e0 => match e0 with
    | .Call (.Name x _) [y, z] [] _ => decide (x = ("range" : Str)) && glB sc x && noStar y && noStar z && chkE T N sc fb a y && chkE T N sc fb b z
    | _ => false
  | .enum _, _ => false
  | .zip _ _, _ => false
def tgIn (own : List Nat) : Tg → Bool
  | .nm i => decide (i ∈ own)
  | .tp ts => tgsIn own ts
def tgsIn (own : List Nat) : List Tg → Bool
  | [] => true
  | t :: ts => tgIn own t && tgsIn own ts
end
end MP
/-! what the look is worth: expressions -/
namespace MP
open PySem PySem.Spec PyProof.Rows L2

def RelR (hx : Nat → D → Prop) (F : Fz) (K : PySem.W.Frag) (H : Hp) (ρ : Rho) (σ : L2.St) : Prop := σ.length = ρ.length ∧ ∀ (i : Nat) (d : D), ρ[i]? = some (some d) → ∃ v, σ[i]? = some (some v) ∧ Rep F K H d v ∧ hx i d
def FinX (J : JE) (K : PySem.W.Frag) (S : Sto) (F : Fz) (H : Hp) (E : XPost) (Wh : Value → Option Addr → Hp → Prop) : Prop :=
  ∀ x S' F' H' C d fs, Grow S F H S' F' H' → RelS F' K J.cl S' H' → J.xa x.c = some C → (∀ n ∈ x.ns, PySem.W.findIn K (.ref C) n = some none) → F' d → H' d = some (.xd fs) → fs.map (·.1) = x.ns → RepL F' K H' x.fs (fs.map (·.2)) → E x S' → Wh (.ref C) (some d) H'
def spD (K : PySem.W.Frag) (J : JE) (sp : SpecD) : Sp := fun vs H Qh Eh => ∃ ds S F Q E, RepL F K H ds vs ∧ RelS F K J.cl S H ∧ sp ds S Q E ∧ Fin K J.cl S F H Q Qh ∧ FinX J K S F H E Eh
structure FnHas (X : Cx) (J : JE) (L : Nat) (nm : Str) (ps : List Str) (kw : List (List Str × List Nat)) (sp : SpecD) : Prop where
  ex : ∃ f fd, X.mg nm = some (.ref f) ∧ PySem.W.keepIn X.K (.ref f) = true ∧ Binds X.K fd ps [] ∧ FnOk X.prog X.w X.K X.mg X.base (L2N.CX X.prog X.w) L f fd ps (spD X.K J sp) ∧
    ∀ q ∈ kw, ∀ (s : Shared) (ws : List Value), ws.length = q.1.length → (permV q.2 ws).length = ps.length → BindsTo s fd ⟨[], q.1.zip ws⟩ (ps.zip (permV q.2 ws))
def bltNames : List Str := ["len", "int", "str", "abs", "max", "min", "all", "any", "tuple", "list", "sum", "isinstance", "range", "bool", "enumerate", "zip", "sorted", "dict"]
structure FnHasH (X : Cx) (J : JE) (L : Nat) (nm : Str) (ps : List Str) (sp : SpecD) : Prop where
  ex : ∃ f fd, X.mg nm = some (.ref f) ∧ PySem.W.keepIn X.K (.ref f) = true ∧ Binds X.K fd ps [] ∧ L2H.FnH X.prog X.w X.K X.mg X.base (L2N.CX X.prog X.w) L f fd ps (spD X.K J sp)
/-- an except suite whose exception is in slot i -/
structure HotX (J : JE) (X : Cx) (i : Nat) : Prop where
  ex : ∃ (X' : Cx) (a d0 C : Addr) (oe : Obj) (pn : List (Addr × Obj)), X = X'.suite a ((a, oe) :: pn) ∧ L2N.Zn (.ref C) (some d0) oe ∧ (∃ vs, oe.data = .fields vs) ∧
    ∀ d, J.hx i d → ∃ c ns fs, d = .exc a d0 c ns fs ∧ J.xa c = some C ∧ ∀ n ∈ ns, PySem.W.findIn X'.K (.ref C) n = some none
structure Cok (G : GE) (J : JE) (T : NT) (L : Nat) (X : Cx) : Prop where
  nd : X.N.Nodup
  calm : T.hot = none → X.calm = true
  room : T.hot = none → Room L X.A
  un : X.A.units + 70 < cLine
  fn : ∀ i nm ps kw, T.fns[i]? = some (nm, ps, kw) → FnHas X J L nm ps kw (G.sp i)
  con : ∀ i x, T.cons[i]? = some x → ∃ u v, X.mg x = some u ∧ RelV v u ∧ Rep (fun _ => False) X.K (fun _ => none) (G.con i) v
  blt : ∀ x ∈ bltNames, X.mg x = none
  hx : ∀ i d, T.hot ≠ some i → J.hx i d
  ht : T.bl = false → ∀ i, T.hot = some i → i < X.N.length → HotX J X i
  xcs : ∀ k x ns, T.excs[k]? = some (x, ns) → ∃ (v : V) (cv : Value), RelV v cv ∧ (∀ u, RelV v u → u = cv) ∧ (X.mg x = some cv ∨ (X.mg x = none ∧ bootBuiltins x = some cv ∧ x ≠ "__name__")) ∧ ∀ c C, J.xa c = some C → PySem.W.exmOne X.K (.ref C) cv = some (G.anc c k) ∧ PySem.W.kitOne X.K (.ref C) cv = some (G.anc c k)
  xok : ∀ c C, J.xa c = some C → XfC X.K C ∧ ExcC X.K C
  hotc : T.hot ≠ none → L2H.HotC X
  roomh : L2H.RoomH L X.A
  fnh : ∀ i nm ps kw, i ∈ T.hots → T.fns[i]? = some (nm, ps, kw) → FnHasH X J L nm ps (G.sp i)

section
variable {G : GE} {J : JE} {T : NT} {L : Nat} {X : Cx} {W : WX}
section
variable {F F' : Fz} {K : PySem.W.Frag} {H H' : Hp} {S S' : Sto} {ρ : Rho} {σ : L2.St} {E : XPost} {Wh : Value → Option Addr → Hp → Prop} {cl : Nat → Option Addr}
theorem RelR.grow {hx : Nat → D → Prop} (g : Grow S F H S' F' H') (r : RelS F K cl S H) (h : RelR hx F K H ρ σ) : RelR hx F' K H' ρ σ := ⟨h.1, fun i d e => let ⟨v, e1, e2, e3⟩ := h.2 i d e; ⟨v, e1, e2.grow g r, e3⟩⟩
theorem FinX.grow (f : FinX J K S F H E Wh) (g : Grow S F H S' F' H') : FinX J K S' F' H' E Wh := fun x S2 F2 H2 C d fs g2 => f x S2 F2 H2 C d fs (g.trans g2)
end
variable (G J X W)
def tE (m : Ex) : TE := fun σ H Qh => ∃ ρ S F Q E, RelR J.hx F X.K H ρ σ ∧ RelS F X.K J.cl S H ∧ wpE G m ρ S Q E ∧ Fin X.K J.cl S F H Q Qh ∧ FinX J X.K S F H E fun c d H' => W c d σ H'
def FinB (S : Sto) (F : Fz) (H : Hp) (Q : Bool → Sto → Prop) (Qh : Bool → Hp → Prop) : Prop := ∀ k S' F' H', Grow S F H S' F' H' → RelS F' X.K J.cl S' H' → Q k S' → Qh k H'
def tT (m : Ex) : TT := fun σ H Qh => ∃ ρ S F Q E, RelR J.hx F X.K H ρ σ ∧ RelS F X.K J.cl S H ∧ wpE G m ρ S (fun v S' => ∃ k, v = .bl k ∧ Q k S') E ∧ FinB J X S F H Q Qh ∧ FinX J X.K S F H E fun c d H' => W c d σ H'
def FinL (S : Sto) (F : Fz) (H : Hp) (Q : List D → Sto → Prop) (Qh : List V → Hp → Prop) : Prop := ∀ ds S' F' vs H', Grow S F H S' F' H' → RelS F' X.K J.cl S' H' → RepL F' X.K H' ds vs → Q ds S' → Qh vs H'
def tL (ms : List Ex) : TA := fun σ H Qh => ∃ ρ S F Q E, RelR J.hx F X.K H ρ σ ∧ RelS F X.K J.cl S H ∧ wpEs G ms ρ S Q E ∧ FinL J X S F H Q Qh ∧ FinX J X.K S F H E fun c d H' => W c d σ H'
structure Ok (m : Ex) (e : Expr) : Prop where
  pe : PE X e (tE G J X W m)
  pt : PT X e (tT G J X W m)
inductive OkL : List Ex → List Expr → Prop
  | nil : OkL [] []
  | cons {m : Ex} {e : Expr} {ms : List Ex} {es : List Expr} : noStar e = true → Ok G J X W m e → OkL ms es → OkL (m :: ms) (e :: es)
variable {G J X W}

theorem _root_.L2.PE.imp {e : Expr} {t t' : TE} (h : PE X e t) (i : ∀ σ H Q, t' σ H Q → t σ H Q) : PE X e t' := ⟨fun pins s σ H Q I q => h.run pins s σ H Q I (i σ H Q q)⟩
theorem _root_.L2.PT.imp {e : Expr} {t t' : TT} (h : PT X e t) (i : ∀ σ H Q, t' σ H Q → t σ H Q) : PT X e t' := ⟨fun pins s σ H Q I q => h.run pins s σ H Q I (i σ H Q q)⟩
theorem _root_.L2.PA.imp {e : List Expr} {t t' : TA} (h : PA X e t) (i : ∀ σ H Q, t' σ H Q → t σ H Q) : PA X e t' := ⟨fun pos pins s σ H Q I q => h.run pos pins s σ H Q I (i σ H Q q)⟩
theorem tT_tB {m : Ex} {σ : L2.St} {H : Hp} {Qh : Bool → Hp → Prop} (h : tT G J X W m σ H Qh) : tE G J X W m σ H fun x H1 => ∃ c, x = .bl c ∧ Qh c H1 := by
  obtain ⟨ρ, S, F, Q, E, hρ, hS, hw, fin, hx⟩ := h
  refine ⟨ρ, S, F, _, E, hρ, hS, hw, fun d S' F' v H' g rs rp q => ?_, hx⟩
  obtain ⟨k, rfl, q⟩ := q
  simp only [Rep] at rp
  exact ⟨k, rp, fin k S' F' H' g rs q⟩
theorem Ok.val {m : Ex} {e : Expr} (h : PE X e (tE G J X W m)) (he : ∀ whole, isTrue e X.env whole = (do let v ← whole; standAt e.pos; holding [v] (truthy v))) : Ok G J X W m e := ⟨h, (pt_val h he).imp fun σ H Q q => tT_tB q⟩

/-- a value that is known -/
theorem tE_con {m : Ex} {d : D} {v : V} (hw : ∀ ρ S Q E, wpE G m ρ S Q E → Q d S) (hr : ∀ (F : Fz) (H : Hp), Rep F X.K H d v) : ∀ σ H Q, tE G J X W m σ H Q → tC v σ H Q := fun σ H Qh h => by
  obtain ⟨ρ, S, F, Q, E, hρ, hS, q, fin, hx⟩ := h
  exact fin.here hS (hr F H) (hw ρ S Q E q)
theorem ok_non {j pos} : Ok G J X W .non (.Constant .none j pos) := Ok.val (pe_non.imp (tE_con (fun _ _ _ _ h => h) fun _ _ => rep_non)) fun _ => rfl
theorem ok_bl {b j pos} : Ok G J X W (.bl b) (.Constant (.bool b) j pos) := Ok.val (pe_bl.imp (tE_con (fun _ _ _ _ h => h) fun _ _ => rep_bl)) fun _ => rfl
theorem ok_int {i j pos} : Ok G J X W (.int i) (.Constant (.int i) j pos) := Ok.val (pe_int.imp (tE_con (fun _ _ _ _ h => h) fun _ _ => rep_int)) fun _ => rfl
theorem okSB_ok {s : List Nat} (h : okSB s = true) : okS s := by
  unfold okSB at h
  rw [Bool.and_eq_true] at h
  exact ⟨of_decide_eq_true h.1, fun c hc => of_decide_eq_true (List.all_eq_true.mp h.2 c hc)⟩
theorem ok_str {s : List Nat} {x : Str} {j pos} (e : mkS s = x) (h : okSB s = true) : Ok G J X W (.str s) (.Constant (.str x) j pos) := by
  subst e
  exact Ok.val (pe_str.imp (tE_con (fun _ _ _ _ h => h) fun _ _ => rep_str (okSB_ok h))) fun _ => rfl
theorem vis_of {sc : Scope} {x : Str} (h : visB sc x = true) : Vis sc x := by
  unfold visB at h
  split at h <;> first | exact .inl (by assumption) | exact .inr (.inl (by assumption)) | exact .inr (.inr (by assumption)) | cases h
theorem gl_of {x : Str} (h : glB X.env.scope x = true) : Gl X x ∧ (x == ("__debug__" : Str)) = false := by
  unfold glB at h
  rw [Bool.and_eq_true] at h
  refine ⟨?_, by simpa using h.2⟩
  have h1 := h.1
  split at h1
  · rename_i e; exact e
  · cases h1
theorem ok_var {i : Nat} {x : Str} {pos : Pos} (e : X.N[i]? = some x) (hv : visB X.env.scope x = true) (hp : plainName x = true) : Ok G J X W (.var i) (.Name x pos) := by
  unfold plainName at hp
  rw [Bool.and_eq_true] at hp
  refine Ok.val ((pe_var e (vis_of hv) (by simpa using hp.1) (by simpa using hp.2)).imp fun σ H Qh h => ?_) fun _ => rfl
  obtain ⟨ρ, S, F, Q, E, hρ, hS, ⟨d, hd, q⟩, fin, hx⟩ := h
  obtain ⟨v, e1, e2, _⟩ := hρ.2 i d hd
  exact ⟨v, e1, fin.here hS e2 q⟩
theorem rep_soft {F : Fz} {K : PySem.W.Frag} {H : Hp} {d : D} {v : V} (h : Rep F K H d v) : Rep F K H (soft d) v := by
  cases d with
  | tpx xs => exact h.soft
  | _ => exact h
theorem ok_sft {i : Nat} {x : Str} {pos : Pos} (e : X.N[i]? = some x) (hv : visB X.env.scope x = true) (hp : plainName x = true) : Ok G J X W (.sft i) (.Name x pos) := by
  unfold plainName at hp
  rw [Bool.and_eq_true] at hp
  refine Ok.val ((pe_var e (vis_of hv) (by simpa using hp.1) (by simpa using hp.2)).imp fun σ H Qh h => ?_) fun _ => rfl
  obtain ⟨ρ, S, F, Q, E, hρ, hS, ⟨d, hd, q⟩, fin, hx⟩ := h
  obtain ⟨v, e1, e2, _⟩ := hρ.2 i d hd
  exact ⟨v, e1, fin.here hS (rep_soft e2) q⟩
theorem ok_glb (c : Cok G J T L X) {k : Nat} {x : Str} {pos : Pos} (e : T.cons[k]? = some x) (hg : glB X.env.scope x = true) : Ok G J X W (.glb k) (.Name x pos) := by
  obtain ⟨u, v, h1, h2, h3⟩ := c.con k x e
  obtain ⟨g1, g2⟩ := gl_of hg
  exact Ok.val ((pe_glob g1 h1 h2 g2).imp (tE_con (fun _ _ _ _ h => h) fun F H => Rep.mono (fun _ f => f.elim) (fun _ _ f => f.elim) _ _ h3)) fun _ => rfl

/-- two values and an operation -/
theorem tE_two {m ma mb : Ex} {R : D → D → Sto → Post → Prop} (hw : ∀ ρ S Q E, wpE G m ρ S Q E → wpE G ma ρ S (fun x S1 => wpE G mb ρ S1 (fun y S2 => R x y S2 Q) E) E) :
    ∀ σ H Q, tE G J X W m σ H Q → tOp (r2D X.K J.cl R) (tE G J X W ma) (tE G J X W mb) σ H Q := fun σ H Qh h => by
  obtain ⟨ρ, S, F, Q, E, hρ, hS, q, fin, hx⟩ := h
  refine ⟨ρ, S, F, _, E, hρ, hS, hw ρ S Q E q, fun d1 S1 F1 v1 H1 g1 r1 p1 q1 => ?_, hx⟩
  refine ⟨ρ, S1, F1, _, E, hρ.grow g1 hS, r1, q1, fun d2 S2 F2 v2 H2 g2 r2 p2 q2 => ?_, hx.grow g1⟩
  exact ⟨d1, d2, S2, F2, Q, p1.grow g2 r1, p2, r2, q2, fin.grow (g1.trans g2)⟩
/-- one value and an operation -/
theorem tE_one {m ma : Ex} {R : D → Sto → Post → Prop} (hw : ∀ ρ S Q E, wpE G m ρ S Q E → wpE G ma ρ S (fun x S1 => R x S1 Q) E) :
    ∀ σ H Q, tE G J X W m σ H Q → tE G J X W ma σ H fun v H1 => ∃ d S F Qd, Rep F X.K H1 d v ∧ RelS F X.K J.cl S H1 ∧ R d S Qd ∧ Fin X.K J.cl S F H1 Qd Q := fun σ H Qh h => by
  obtain ⟨ρ, S, F, Q, E, hρ, hS, q, fin, hx⟩ := h
  exact ⟨ρ, S, F, _, E, hρ, hS, hw ρ S Q E q, fun d1 S1 F1 v1 H1 g1 r1 p1 q1 => ⟨d1, S1, F1, Q, p1, r1, q1, fin.grow g1⟩, hx⟩
theorem ok_bin {op : Bop} {m : Bool} {a b : Ex} {l r : Expr} {pos : Pos} (ha : Ok G J X W a l) (hb : Ok G J X W b r) : Ok G J X W (.bin op m a b) (.BinOp l (toOp op) r pos) :=
  Ok.val ((pe_op (opB (cl := J.cl) op m) ha.pe hb.pe).imp (tE_two fun _ _ _ _ h => h)) fun _ => rfl
theorem ok_neg {a : Ex} {l : Expr} {pos : Pos} (ha : Ok G J X W a l) : Ok G J X W (.neg a) (.UnaryOp .USub l pos) := by
  refine Ok.val ((pe_un un_neg ha.pe).imp fun σ H Qh h => ?_) fun _ => rfl
  obtain ⟨ρ, S, F, Q, E, hρ, hS, q, fin, hx⟩ := h
  refine ⟨ρ, S, F, _, E, hρ, hS, q, fun d1 S1 F1 v1 H1 g1 r1 p1 q1 => ?_, hx⟩
  obtain ⟨i, rfl, q1⟩ := q1
  simp only [Rep] at p1
  exact ⟨i, p1, (fin.grow g1).here r1 rep_int q1⟩
theorem ok_not {a : Ex} {l : Expr} {pos : Pos} (ha : Ok G J X W a l) : Ok G J X W (.not a) (.UnaryOp .Not l pos) := by
  refine ⟨(pe_not ha.pe).imp fun σ H Qh h => ?_, (pt_not ha.pt).imp fun σ H Qh h => ?_⟩
  · obtain ⟨ρ, S, F, Q, E, hρ, hS, q, fin, hx⟩ := h
    refine ⟨ρ, S, F, _, E, hρ, hS, q, fun d1 S1 F1 v1 H1 g1 r1 p1 q1 => ?_, hx⟩
    obtain ⟨i, rfl, q1⟩ := q1
    simp only [Rep] at p1
    exact ⟨i, p1, (fin.grow g1).here r1 rep_bl q1⟩
  · obtain ⟨ρ, S, F, Q, E, hρ, hS, q, fin, hx⟩ := h
    refine ⟨ρ, S, F, fun k S1 => Q (!k) S1, E, hρ, hS, ?_, fun k S1 F1 H1 g1 r1 q1 => fin _ S1 F1 H1 g1 r1 q1, hx⟩
    have q' : wpE G a ρ S (fun x S1 => ∃ k, x = .bl k ∧ ∃ k', D.bl (!k) = .bl k' ∧ Q k' S1) E := q
    have e : (fun (x : D) (S1 : Sto) => ∃ k, x = .bl k ∧ ∃ k', D.bl (!k) = .bl k' ∧ Q k' S1) = fun x S1 => ∃ k, x = .bl k ∧ Q (!k) S1 := by
      funext x S1
      refine propext ⟨fun ⟨k, e1, k', e2, q⟩ => ?_, fun ⟨k, e1, q⟩ => ⟨k, e1, _, rfl, q⟩⟩
      cases e2
      exact ⟨k, e1, q⟩
    rw [e] at q'
    exact q'
theorem nomark' {r : Expr} (h : noSet r = true) (op : CmpOp) : behindInMarks op r = false := by
  cases r <;> first | rfl | cases h
theorem hu70 (c : Cok G J T L X) : X.A.units + 70 < cLine := c.un
theorem ok_cmp (c : Cok G J T L X) {op : Cop} {a b : Ex} {l r : Expr} {pos : Pos} (hn : noSet r = true) (ha : Ok G J X W a l) (hb : Ok G J X W b r) : Ok G J X W (.cmp op a b) (.Compare l [toCo op] [r] pos) := by
  refine ⟨(pe_cmpR (opC (cl := J.cl) (hu70 c) op) ha.pe hb.pe (nomark' hn _)).imp (tE_two fun _ _ _ _ h => h), (pt_cmpR (opC (cl := J.cl) (hu70 c) op) ha.pe hb.pe (nomark' hn _)).imp fun σ H Q h => ?_⟩
  exact tE_two (m := .cmp op a b) (fun _ _ _ _ h => h) σ H _ (tT_tB h)
theorem isN_rep {F : Fz} {H : Hp} {d : D} {v : V} (h : Rep F X.K H d v) : isNon d = decide (v = .non) := by
  cases d with
  | non => simp only [Rep] at h; subst h; rfl
  | bl _ => simp only [Rep] at h; subst h; rfl
  | int _ => simp only [Rep] at h; subst h; rfl
  | str _ => simp only [Rep] at h; rw [h.1]; rfl
  | ref _ => simp only [Rep] at h; subst h; rfl
  | tup _ => obtain ⟨a, vs, e, _⟩ := h.tup; subst e; rfl
  | lst _ => obtain ⟨a, vs, e, _⟩ := h.lst; subst e; rfl
  | scr _ => obtain ⟨a, vs, e, _⟩ := h.scr; subst e; rfl
  | exc a d c ns fs => simp only [Rep] at h; rw [h.1]; rfl
  | tpx _ => obtain ⟨a, vs, o, e, _⟩ := h.tpx; subst e; rfl
theorem isN_imp {a : Ex} : ∀ σ H Q, tE G J X W (.isN a) σ H Q → tOp (fun x y H Q => y = .non ∧ Q (.bl (decide (x = .non))) H) (tE G J X W a) (tC .non) σ H Q := fun σ H Qh h => by
  obtain ⟨ρ, S, F, Q, E, hρ, hS, q, fin, hx⟩ := h
  refine ⟨ρ, S, F, _, E, hρ, hS, q, fun d1 S1 F1 v1 H1 g1 r1 p1 q1 => ⟨rfl, ?_⟩, hx⟩
  rw [← isN_rep p1]
  exact (fin.grow g1).here r1 rep_bl q1
theorem nsN_imp {a : Ex} : ∀ σ H Q, tE G J X W (.nsN a) σ H Q → tOp (fun x y H Q => y = .non ∧ Q (.bl (!decide (x = .non))) H) (tE G J X W a) (tC .non) σ H Q := fun σ H Qh h => by
  obtain ⟨ρ, S, F, Q, E, hρ, hS, q, fin, hx⟩ := h
  refine ⟨ρ, S, F, _, E, hρ, hS, q, fun d1 S1 F1 v1 H1 g1 r1 p1 q1 => ⟨rfl, ?_⟩, hx⟩
  rw [← isN_rep p1]
  exact (fin.grow g1).here r1 rep_bl q1
theorem ok_isN {a : Ex} {l : Expr} {j pos' pos} (ha : Ok G J X W a l) : Ok G J X W (.isN a) (.Compare l [.Is] [.Constant .none j pos'] pos) :=
  ⟨(pe_cmpR op_isN ha.pe pe_non rfl).imp isN_imp, (pt_cmpR op_isN ha.pe pe_non rfl).imp fun σ H Q h => isN_imp σ H _ (tT_tB h)⟩
theorem ok_nsN {a : Ex} {l : Expr} {j pos' pos} (ha : Ok G J X W a l) : Ok G J X W (.nsN a) (.Compare l [.IsNot] [.Constant .none j pos'] pos) :=
  ⟨(pe_cmpR op_notN ha.pe pe_non rfl).imp nsN_imp, (pt_cmpR op_notN ha.pe pe_non rfl).imp fun σ H Q h => nsN_imp σ H _ (tT_tB h)⟩
theorem isB_imp {a : Ex} {b : Bool} : ∀ σ H Q, tE G J X W (.isB b a) σ H Q → tOp rIsB (tE G J X W a) (tC (.bl b)) σ H Q := fun σ H Qh h => by
  obtain ⟨ρ, S, F, Q, E, hρ, hS, q, fin, hx⟩ := h
  refine ⟨ρ, S, F, _, E, hρ, hS, q, fun d1 S1 F1 v1 H1 g1 r1 p1 q1 => ?_, hx⟩
  obtain ⟨k, rfl, q1⟩ := q1
  simp only [Rep] at p1
  refine ⟨k, b, p1, rfl, ?_⟩
  have e : decide (k = b) = (k == b) := by cases k <;> cases b <;> rfl
  rw [e]
  exact (fin.grow g1).here r1 rep_bl q1
theorem nsB_imp {a : Ex} {b : Bool} : ∀ σ H Q, tE G J X W (.nsB b a) σ H Q → tOp rNotB (tE G J X W a) (tC (.bl b)) σ H Q := fun σ H Qh h => by
  obtain ⟨ρ, S, F, Q, E, hρ, hS, q, fin, hx⟩ := h
  refine ⟨ρ, S, F, _, E, hρ, hS, q, fun d1 S1 F1 v1 H1 g1 r1 p1 q1 => ?_, hx⟩
  obtain ⟨k, rfl, q1⟩ := q1
  simp only [Rep] at p1
  refine ⟨k, b, p1, rfl, ?_⟩
  have e : decide (k = b) = (k == b) := by cases k <;> cases b <;> rfl
  rw [e]
  exact (fin.grow g1).here r1 rep_bl q1
theorem ok_isB {a : Ex} {b : Bool} {l : Expr} {j pos' pos} (ha : Ok G J X W a l) : Ok G J X W (.isB b a) (.Compare l [.Is] [.Constant (.bool b) j pos'] pos) :=
  ⟨(pe_cmpR op_isBl ha.pe pe_bl rfl).imp isB_imp, (pt_cmpR op_isBl ha.pe pe_bl rfl).imp fun σ H Q h => isB_imp σ H _ (tT_tB h)⟩
theorem ok_nsB {a : Ex} {b : Bool} {l : Expr} {j pos' pos} (ha : Ok G J X W a l) : Ok G J X W (.nsB b a) (.Compare l [.IsNot] [.Constant (.bool b) j pos'] pos) :=
  ⟨(pe_cmpR op_notBl ha.pe pe_bl rfl).imp nsB_imp, (pt_cmpR op_notBl ha.pe pe_bl rfl).imp fun σ H Q h => nsB_imp σ H _ (tT_tB h)⟩
theorem chain_imp {o1 o2 : Cop} {a b c : Ex} : ∀ σ H Q, tE G J X W (.chain o1 o2 a b c) σ H Q → tChain (r2D X.K J.cl (cmpR o1)) (r2D X.K J.cl (cmpR o2)) (tE G J X W a) (tE G J X W b) (tE G J X W c) σ H Q := fun σ H Qh h => by
  obtain ⟨ρ, S, F, Q, E, hρ, hS, q, fin, hx⟩ := h
  refine ⟨ρ, S, F, _, E, hρ, hS, q, fun d1 S1 F1 v1 H1 g1 r1 p1 q1 => ?_, hx⟩
  refine ⟨ρ, S1, F1, _, E, hρ.grow g1 hS, r1, q1, fun d2 S2 F2 v2 H2 g2 r2 p2 q2 => ?_, hx.grow g1⟩
  refine ⟨d1, d2, S2, F2, _, p1.grow g2 r1, p2, r2, q2, fun d3 S3 F3 v3 H3 g3 r3 p3 q3 => ?_⟩
  obtain ⟨k, rfl, q3⟩ := q3
  simp only [Rep] at p3
  refine ⟨k, p3, ?_⟩
  have g123 := (g1.trans g2).trans g3
  cases k with
  | true =>
    rw [if_pos rfl] at q3 ⊢
    refine ⟨ρ, S3, F3, _, E, hρ.grow g123 hS, r3, q3, fun d4 S4 F4 v4 H4 g4 r4 p4 q4 => ?_, hx.grow g123⟩
    exact ⟨d2, d4, S4, F4, Q, p2.grow (g3.trans g4) r2, p4, r4, q4, fin.grow (g123.trans g4)⟩
  | false =>
    rw [if_neg Bool.false_ne_true] at q3 ⊢
    exact (fin.grow g123).here r3 rep_bl q3
theorem marks2 {m r : Expr} {o1 o2 : CmpOp} (h : noSet r = true) : lastMarks [o1, o2] [m, r] = false := by
  show behindInMarks o2 r = false
  exact nomark' h _
theorem ok_chain (cc : Cok G J T L X) {o1 o2 : Cop} {a b c : Ex} {l m r : Expr} {pos : Pos} (h1 : noSet m = true) (h2 : noSet r = true) (ha : Ok G J X W a l) (hb : Ok G J X W b m) (hc : Ok G J X W c r) :
    Ok G J X W (.chain o1 o2 a b c) (.Compare l [toCo o1, toCo o2] [m, r] pos) :=
  ⟨(pe_chain (opC (cl := J.cl) (hu70 cc) o1) (opC (cl := J.cl) (hu70 cc) o2) ha.pe hb.pe hc.pe (marks2 h2)).imp chain_imp, (pt_chain (opC (cl := J.cl) (hu70 cc) o1) (opC (cl := J.cl) (hu70 cc) o2) ha.pe hb.pe hc.pe (marks2 h2)).imp fun σ H Q h => chain_imp σ H _ (tT_tB h)⟩
end
end MP
/-! what the look is worth: expressions, further -/
namespace MP
open PySem PySem.Spec PyProof.Rows L2
section
variable {G : GE} {J : JE} {T : NT} {L : Nat} {X : Cx} {W : WX}

/-! ### argument lists -/
theorem star_cons {e : Expr} {es : List Expr} (h : noStar e = true) (env : Env) : starEach (e :: es) env = (false, eval e env) :: starEach es env := by
  cases e <;> first | rfl | cases h
theorem OkL.star {ms : List Ex} {es : List Expr} (h : OkL G J X W ms es) : ∀ (pos : Pos) (env : Env), (backTo pos (starEach es env)).any (·.1) = false ∧ (backTo pos (starEach es env)).all (fun x => !x.1) = true := by
  induction h with
  | nil => intro pos env; exact ⟨rfl, rfl⟩
  | cons hn _ _ ih =>
    intro pos env
    rw [star_cons hn]
    obtain ⟨h1, h2⟩ := ih pos env
    unfold backTo at h1 h2 ⊢
    simp only [List.map_cons, List.any_cons, List.all_cons, Bool.false_or, Bool.not_false, Bool.true_and]
    exact ⟨h1, h2⟩
theorem OkL.len {ms : List Ex} {es : List Expr} (h : OkL G J X W ms es) : ms.length = es.length := by
  induction h with
  | nil => rfl
  | cons _ _ _ ih => simp [ih]
theorem OkL.pa {ms : List Ex} {es : List Expr} (h : OkL G J X W ms es) : PA X es (tL G J X W ms) := by
  induction h with
  | nil =>
    refine pa_nil.imp fun σ H Qh h => ?_
    obtain ⟨ρ, S, F, Q, E, hρ, hS, q, fin, hx⟩ := h
    exact fin [] S F [] H .refl hS .nil q
  | cons hn h1 h2 ih =>
    refine (pa_cons h1.pe ih (star_cons hn _)).imp fun σ H Qh h => ?_
    obtain ⟨ρ, S, F, Q, E, hρ, hS, q, fin, hx⟩ := h
    refine ⟨ρ, S, F, _, E, hρ, hS, q, fun d1 S1 F1 v1 H1 g1 r1 p1 q1 => ?_, hx⟩
    refine ⟨ρ, S1, F1, _, E, hρ.grow g1 hS, r1, q1, fun ds S2 F2 vs H2 g2 r2 p2 q2 => ?_, hx.grow g1⟩
    exact fin _ S2 F2 _ H2 (g1.trans g2) r2 (.cons (p1.grow g2 r1) p2) q2

/-! ### and, or, if -/
theorem okAnd_pe {pos : Pos} : ∀ {ms : List Ex} {es : List Expr}, OkL G J X W ms es → ms ≠ [] → PE X (.BoolOp .And es pos) (fun σ H Qh => ∃ ρ S F Q E, RelR J.hx F X.K H ρ σ ∧ RelS F X.K J.cl S H ∧ wpAnd G ms ρ S Q E ∧ Fin X.K J.cl S F H Q Qh ∧ FinX J X.K S F H E fun c d H' => W c d σ H')
  | _, _, .nil, h => absurd rfl h
  | _, _, .cons (m := m) hn h1 .nil, _ => by
    refine (pe_one h1.pe).imp fun σ H Qh h => ?_
    obtain ⟨ρ, S, F, Q, E, hρ, hS, q, fin, hx⟩ := h
    refine ⟨ρ, S, F, _, E, hρ, hS, q, fun d1 S1 F1 v1 H1 g1 r1 p1 q1 => ?_, hx⟩
    obtain ⟨k, rfl, q1⟩ := q1
    simp only [Rep] at p1; subst p1
    exact (fin.grow g1).here r1 rep_bl q1
  | _, _, .cons (m := m) hn h1 (.cons hn2 h2 h3), _ => by
    refine (pe_and h1.pe (okAnd_pe (.cons hn2 h2 h3) (by simp))).imp fun σ H Qh h => ?_
    obtain ⟨ρ, S, F, Q, E, hρ, hS, q, fin, hx⟩ := h
    refine ⟨ρ, S, F, _, E, hρ, hS, q, fun d1 S1 F1 v1 H1 g1 r1 p1 q1 => ?_, hx⟩
    obtain ⟨k, rfl, q1⟩ := q1
    simp only [Rep] at p1
    refine ⟨k, p1, ?_⟩
    cases k with
    | true =>
      rw [if_pos rfl] at q1 ⊢
      exact ⟨ρ, S1, F1, Q, E, hρ.grow g1 hS, r1, q1, fin.grow g1, hx.grow g1⟩
    | false =>
      rw [if_neg Bool.false_ne_true] at q1 ⊢
      exact (fin.grow g1).here r1 rep_bl q1
theorem okOr_pe {pos : Pos} : ∀ {ms : List Ex} {es : List Expr}, OkL G J X W ms es → ms ≠ [] → PE X (.BoolOp .Or es pos) (fun σ H Qh => ∃ ρ S F Q E, RelR J.hx F X.K H ρ σ ∧ RelS F X.K J.cl S H ∧ wpOr G ms ρ S Q E ∧ Fin X.K J.cl S F H Q Qh ∧ FinX J X.K S F H E fun c d H' => W c d σ H')
  | _, _, .nil, h => absurd rfl h
  | _, _, .cons (m := m) hn h1 .nil, _ => by
    refine (pe_one h1.pe).imp fun σ H Qh h => ?_
    obtain ⟨ρ, S, F, Q, E, hρ, hS, q, fin, hx⟩ := h
    refine ⟨ρ, S, F, _, E, hρ, hS, q, fun d1 S1 F1 v1 H1 g1 r1 p1 q1 => ?_, hx⟩
    obtain ⟨k, rfl, q1⟩ := q1
    simp only [Rep] at p1; subst p1
    exact (fin.grow g1).here r1 rep_bl q1
  | _, _, .cons (m := m) hn h1 (.cons hn2 h2 h3), _ => by
    refine (pe_or h1.pe (okOr_pe (.cons hn2 h2 h3) (by simp))).imp fun σ H Qh h => ?_
    obtain ⟨ρ, S, F, Q, E, hρ, hS, q, fin, hx⟩ := h
    refine ⟨ρ, S, F, _, E, hρ, hS, q, fun d1 S1 F1 v1 H1 g1 r1 p1 q1 => ?_, hx⟩
    obtain ⟨k, rfl, q1⟩ := q1
    simp only [Rep] at p1
    refine ⟨k, p1, ?_⟩
    cases k with
    | true =>
      rw [if_pos rfl] at q1 ⊢
      exact (fin.grow g1).here r1 rep_bl q1
    | false =>
      rw [if_neg Bool.false_ne_true] at q1 ⊢
      exact ⟨ρ, S1, F1, Q, E, hρ.grow g1 hS, r1, q1, fin.grow g1, hx.grow g1⟩
theorem okAnd_pw {pos : Pos} : ∀ {ms : List Ex} {es : List Expr}, OkL G J X W ms es → ms ≠ [] → PW X (.BoolOp .And es pos) (fun σ H Qh => ∃ ρ S F Q E, RelR J.hx F X.K H ρ σ ∧ RelS F X.K J.cl S H ∧ wpAnd G ms ρ S (fun v S' => ∃ k, v = .bl k ∧ Q k S') E ∧ FinB J X S F H Q Qh ∧ FinX J X.K S F H E fun c d H' => W c d σ H')
  | _, _, .nil, h => absurd rfl h
  | _, _, .cons (m := m) hn h1 .nil, _ => by
    refine ⟨fun wh pins s σ H Qh I h => (pw_and1 (pos := pos) h1.pt).run wh pins s σ H Qh I ?_⟩
    obtain ⟨ρ, S, F, Q, E, hρ, hS, q, fin, hx⟩ := h
    refine ⟨ρ, S, F, Q, E, hρ, hS, ?_, fin, hx⟩
    have q' : wpE G m ρ S (fun x S1 => ∃ k, x = .bl k ∧ ∃ k', D.bl k = .bl k' ∧ Q k' S1) E := q
    have e : (fun (x : D) (S1 : Sto) => ∃ k, x = .bl k ∧ ∃ k', D.bl k = .bl k' ∧ Q k' S1) = fun x S1 => ∃ k, x = .bl k ∧ Q k S1 := by
      funext x S1
      refine propext ⟨fun ⟨k, e1, k', e2, q⟩ => ?_, fun ⟨k, e1, q⟩ => ⟨k, e1, _, rfl, q⟩⟩
      cases e2
      exact ⟨k, e1, q⟩
    rw [e] at q'
    exact q'
  | _, _, .cons (m := m) hn h1 (.cons hn2 h2 h3), _ => by
    refine ⟨fun wh pins s σ H Qh I h => (pw_and h1.pt (okAnd_pw (.cons hn2 h2 h3) (by simp))).run wh pins s σ H Qh I ?_⟩
    obtain ⟨ρ, S, F, Q, E, hρ, hS, q, fin, hx⟩ := h
    refine ⟨ρ, S, F, _, E, hρ, hS, q, fun k S1 F1 H1 g1 r1 q1 => ?_, hx⟩
    cases k with
    | true =>
      rw [if_pos rfl] at q1 ⊢
      exact ⟨ρ, S1, F1, Q, E, hρ.grow g1 hS, r1, q1, fun k S2 F2 H2 g2 => fin k S2 F2 H2 (g1.trans g2), hx.grow g1⟩
    | false =>
      rw [if_neg Bool.false_ne_true] at q1 ⊢
      obtain ⟨k, e, q1⟩ := q1
      cases e
      exact fin _ S1 F1 H1 g1 r1 q1
theorem okOr_pw {pos : Pos} : ∀ {ms : List Ex} {es : List Expr}, OkL G J X W ms es → ms ≠ [] → PW X (.BoolOp .Or es pos) (fun σ H Qh => ∃ ρ S F Q E, RelR J.hx F X.K H ρ σ ∧ RelS F X.K J.cl S H ∧ wpOr G ms ρ S (fun v S' => ∃ k, v = .bl k ∧ Q k S') E ∧ FinB J X S F H Q Qh ∧ FinX J X.K S F H E fun c d H' => W c d σ H')
  | _, _, .nil, h => absurd rfl h
  | _, _, .cons (m := m) hn h1 .nil, _ => by
    refine ⟨fun wh pins s σ H Qh I h => (pw_or1 (pos := pos) h1.pt).run wh pins s σ H Qh I ?_⟩
    obtain ⟨ρ, S, F, Q, E, hρ, hS, q, fin, hx⟩ := h
    refine ⟨ρ, S, F, Q, E, hρ, hS, ?_, fin, hx⟩
    have q' : wpE G m ρ S (fun x S1 => ∃ k, x = .bl k ∧ ∃ k', D.bl k = .bl k' ∧ Q k' S1) E := q
    have e : (fun (x : D) (S1 : Sto) => ∃ k, x = .bl k ∧ ∃ k', D.bl k = .bl k' ∧ Q k' S1) = fun x S1 => ∃ k, x = .bl k ∧ Q k S1 := by
      funext x S1
      refine propext ⟨fun ⟨k, e1, k', e2, q⟩ => ?_, fun ⟨k, e1, q⟩ => ⟨k, e1, _, rfl, q⟩⟩
      cases e2
      exact ⟨k, e1, q⟩
    rw [e] at q'
    exact q'
  | _, _, .cons (m := m) hn h1 (.cons hn2 h2 h3), _ => by
    refine ⟨fun wh pins s σ H Qh I h => (pw_or h1.pt (okOr_pw (.cons hn2 h2 h3) (by simp))).run wh pins s σ H Qh I ?_⟩
    obtain ⟨ρ, S, F, Q, E, hρ, hS, q, fin, hx⟩ := h
    refine ⟨ρ, S, F, _, E, hρ, hS, q, fun k S1 F1 H1 g1 r1 q1 => ?_, hx⟩
    cases k with
    | true =>
      rw [if_pos rfl] at q1 ⊢
      obtain ⟨k, e, q1⟩ := q1
      cases e
      exact fin _ S1 F1 H1 g1 r1 q1
    | false =>
      rw [if_neg Bool.false_ne_true] at q1 ⊢
      exact ⟨ρ, S1, F1, Q, E, hρ.grow g1 hS, r1, q1, fun k S2 F2 H2 g2 => fin k S2 F2 H2 (g1.trans g2), hx.grow g1⟩
theorem ok_and {ms : List Ex} {es : List Expr} {pos : Pos} (h : OkL G J X W ms es) (hl : 1 < ms.length) : Ok G J X W (.and ms) (.BoolOp .And es pos) := by
  have ne : ms ≠ [] := fun e => by subst e; simp at hl
  exact ⟨(okAnd_pe h ne).imp fun σ H Qh h => h, ((okAnd_pw h ne).pt).imp fun σ H Qh h => h⟩
theorem ok_or {ms : List Ex} {es : List Expr} {pos : Pos} (h : OkL G J X W ms es) (hl : 1 < ms.length) : Ok G J X W (.or ms) (.BoolOp .Or es pos) := by
  have ne : ms ≠ [] := fun e => by subst e; simp at hl
  exact ⟨(okOr_pe h ne).imp fun σ H Qh h => h, ((okOr_pw h ne).pt).imp fun σ H Qh h => h⟩
theorem isTrue_IfExp {t x y : Expr} {pos : Pos} {env : Env} {whole : Sem Value} : isTrue (.IfExp t x y pos) env whole = (do if ← isTrue t env (eval t env) then isTrue x env (eval x env) else isTrue y env (eval y env)) := rfl
theorem ite_imp {c a b : Ex} : ∀ σ H Q, tE G J X W (.ite c a b) σ H Q → tIf (tT G J X W c) (tE G J X W a) (tE G J X W b) σ H Q := fun σ H Qh h => by
  obtain ⟨ρ, S, F, Q, E, hρ, hS, q, fin, hx⟩ := h
  refine ⟨ρ, S, F, _, E, hρ, hS, q, fun k S1 F1 H1 g1 r1 q1 => ?_, hx⟩
  cases k with
  | true =>
    rw [if_pos rfl] at q1 ⊢
    exact ⟨ρ, S1, F1, Q, E, hρ.grow g1 hS, r1, q1, fin.grow g1, hx.grow g1⟩
  | false =>
    rw [if_neg Bool.false_ne_true] at q1 ⊢
    exact ⟨ρ, S1, F1, Q, E, hρ.grow g1 hS, r1, q1, fin.grow g1, hx.grow g1⟩
theorem ok_ite {c a b : Ex} {t x y : Expr} {pos : Pos} (hc : Ok G J X W c t) (ha : Ok G J X W a x) (hb : Ok G J X W b y) : Ok G J X W (.ite c a b) (.IfExp t x y pos) := by
  refine ⟨(pe_ifExp hc.pt ha.pe hb.pe).imp ite_imp, ⟨fun pins s σ H Qh I h => ?_⟩⟩
  rw [isTrue_IfExp]
  obtain ⟨ρ, S, F, Q, E, hρ, hS, q, fin, hx⟩ := h
  refine wpAny_bind (thn (hc.pt.run pins s σ H (fun k H1 => if k = true then tT G J X W a σ H1 Qh else tT G J X W b σ H1 Qh) I ⟨ρ, S, F, _, E, hρ, hS, q, fun k S1 F1 H1 g1 r1 q1 => ?_, hx⟩) fun k s1 ⟨H1, I1, q1⟩ => ?_)
  · cases k with
    | true =>
      rw [if_pos rfl] at q1 ⊢
      exact ⟨ρ, S1, F1, Q, E, hρ.grow g1 hS, r1, q1, fun k S2 F2 H2 g2 => fin k S2 F2 H2 (g1.trans g2), hx.grow g1⟩
    | false =>
      rw [if_neg Bool.false_ne_true] at q1 ⊢
      exact ⟨ρ, S1, F1, Q, E, hρ.grow g1 hS, r1, q1, fun k S2 F2 H2 g2 => fin k S2 F2 H2 (g1.trans g2), hx.grow g1⟩
  · cases k with
    | true => exact ha.pt.run pins s1 σ H1 Qh I1 q1
    | false => exact hb.pt.run pins s1 σ H1 Qh I1 q1

/-! ### displays -/
theorem ok_tup {ms : List Ex} {es : List Expr} {k : Nat} {pos : Pos} (h : OkL G J X W ms es) : Ok G J X W (.tup ms) (.Tuple es k pos) := by
  refine Ok.val ((pe_tup h.pa).imp fun σ H Qh h => ?_) fun _ => rfl
  obtain ⟨ρ, S, F, Q, E, hρ, hS, q, fin, hx⟩ := h
  exact ⟨ρ, S, F, _, E, hρ, hS, q, fun ds S1 F1 vs H1 g1 r1 p1 q1 => ⟨by rw [← p1.length]; exact q1.1, fun p hp => (fin.grow g1).tup r1 p1 hp q1.2⟩, hx⟩
theorem ok_lst {m : Bool} {ms : List Ex} {es : List Expr} {pos : Pos} (h : OkL G J X W ms es) : Ok G J X W (.lst m ms) (.List es pos) := by
  refine Ok.val ((pe_lst h.pa).imp fun σ H Qh h => ?_) fun _ => rfl
  obtain ⟨ρ, S, F, Q, E, hρ, hS, q, fin, hx⟩ := h
  exact ⟨ρ, S, F, _, E, hρ, hS, q, fun ds S1 F1 vs H1 g1 r1 p1 q1 => ⟨by rw [← p1.length]; exact q1.1, fun p hp => (fin.grow g1).lst r1 p1 hp q1.2⟩, hx⟩

/-! ### calls -/
theorem call_imp {f : Nat} {ms : List Ex} : ∀ σ H Q, tE G J X W (.call f ms) σ H Q → tCallSD (spD X.K J (G.sp f)) [] (WE W) (tL G J X W ms) σ H Q := fun σ H Qh h => by
  obtain ⟨ρ, S, F, Q, E, hρ, hS, q, fin, hx⟩ := h
  refine ⟨ρ, S, F, _, E, hρ, hS, q, fun ds S1 F1 vs H1 g1 r1 p1 q1 => ?_, hx⟩
  show spD X.K J (G.sp f) (vs ++ []) H1 Qh (WE W σ)
  rw [List.append_nil]
  exact ⟨ds, S1, F1, Q, E, p1, r1, q1, fin.grow g1, hx.grow g1⟩
theorem pe_callSD0 {CX : CXT} {k : Nat} {f : Addr} {fd : FuncData} {ps : List Str} {sp : Sp} {E : L2.St → XK} {x : Str} {p pos : Pos} (F : FnOk X.prog X.w X.K X.mg X.base CX k f fd ps sp) (hr : Room k X.A) (hg : Gl X x) (hm : X.mg x = some (.ref f)) (hk : PySem.W.keepIn X.K (.ref f) = true)
    (hb : Binds X.K fd ps []) (hx : ∀ σ, PassesAt CX X σ (E σ)) (hdb : (x == ("__debug__" : Str)) = false) : PE X (.Call (.Name x p) [] [] pos) (tCallSD sp [] E tNil) := by
  refine ⟨fun pins s σ H Q I h => ?_⟩
  refine wpAny_Call_Name_kw (ld_glob I hg hm ?_ hdb)
  exact PySem.W.callWith_K0 I.kIn hk (run_fnSD (us := []) (vs := []) (ds := []) (dvs := []) F hr hb .nil (hx σ) I .nil h)
theorem ok_call (c : Cok G J T L X) (tk : L2N.Takes X W) {f : Nat} {ms : List Ex} {es : List Expr} {x : Str} {ps : List Str} {kw : List (List Str × List Nat)} {p pos : Pos} (ht : T.hot = none) (hf : T.fns[f]? = some (x, ps, kw)) (hg : glB X.env.scope x = true) (h : OkL G J X W ms es) :
    Ok G J X W (.call f ms) (.Call (.Name x p) es [] pos) := by
  obtain ⟨a, fd, h1, h2, h3, h4, _⟩ := (c.fn f x ps kw hf).ex
  obtain ⟨g1, g2⟩ := gl_of hg
  refine Ok.val ?_ fun _ => rfl
  cases h with
  | nil =>
    refine (pe_callSD0 h4 (c.room ht) g1 h1 h2 h3 (fun σ => L2N.passAt tk σ) g2 (E := WE W)).imp fun σ H Qh h => ?_
    obtain ⟨ρ, S, F, Q, E, hρ, hS, q, fin, hx⟩ := h
    exact ⟨[], S, F, Q, E, .nil, hS, q, fin, hx⟩
  | cons hn k1 k2 =>
    have hh : OkL G J X W _ _ := .cons hn k1 k2
    exact (pe_callSD h4 (c.room ht) g1 h1 h2 h3 .nil (fun σ => L2N.passAt tk σ) hh.pa g2 (star_cons hn _) (k2.star _ _).1 (E := WE W)).imp call_imp

theorem ok_callH (c : Cok G J T L X) (tk : L2N.Takes X W) {f : Nat} {ms : List Ex} {es : List Expr} {x : Str} {ps : List Str} {kw : List (List Str × List Nat)} {p pos : Pos} (ht : T.hot ≠ none) (hm : f ∈ T.hots) (h0 : 0 < ms.length) (hf : T.fns[f]? = some (x, ps, kw)) (hg : glB X.env.scope x = true) (h : OkL G J X W ms es) :
    Ok G J X W (.call f ms) (.Call (.Name x p) es [] pos) := by
  obtain ⟨a, fd, h1, h2, h3, h4⟩ := (c.fnh f x ps kw hm hf).ex
  obtain ⟨g1, g2⟩ := gl_of hg
  refine Ok.val ?_ fun _ => rfl
  cases h with
  | nil => simp at h0
  | cons hn k1 k2 =>
    have hh : OkL G J X W _ _ := .cons hn k1 k2
    refine (L2H.pe_callH h4 c.roomh (c.hotc ht) g1 h1 h2 h3 (fun σ => L2N.passAt tk σ) hh.pa g2 (star_cons hn _) (k2.star _ _).1 (E := WE W)).imp fun σ H Qh h => ?_
    obtain ⟨ρ, S, F, Q, E, hρ, hS, q, fin, hx⟩ := h
    refine ⟨ρ, S, F, _, E, hρ, hS, q, fun ds S1 F1 vs H1 g1 r1 p1 q1 => ?_, hx⟩
    exact ⟨ds, S1, F1, Q, E, p1, r1, q1, fin.grow g1, hx.grow g1⟩

/-! ### built-ins -/
theorem blt_imp {b : Bl} {ms : List Ex} : ∀ σ H Q, tE G J X W (.blt b ms) σ H Q → tCB (rlD X.K J.cl (bltR b)) (tL G J X W ms) σ H Q := fun σ H Qh h => by
  obtain ⟨ρ, S, F, Q, E, hρ, hS, q, fin, hx⟩ := h
  exact ⟨ρ, S, F, _, E, hρ, hS, q, fun ds S1 F1 vs H1 g1 r1 p1 q1 => ⟨ds, S1, F1, Q, p1, r1, q1, fin.grow g1⟩, hx⟩
theorem b_allH {cl : Nat → Option Addr} (hc : L2H.HotC X) : CallR X (.builtin "all") (rlD X.K cl (bltR .all)) := by
  intro pins s σ H vs us Qh I r h
  obtain ⟨ds, S, F, Q, hv, rs, q, fin⟩ := h
  rcases ds with _ | ⟨x, _ | ⟨y, t⟩⟩
  · exact False.elim q
  · obtain ⟨v, rfl, hx⟩ := hv.one_iff
    obtain ⟨bs, e, q⟩ : ∃ bs : List Bool, listD S x = some (bs.map D.bl) ∧ Q (.bl (bs.all id)) S := q
    obtain ⟨a, ws, rfl, h1, h2⟩ := listD_at rs hx e
    have e2 := repL_bl h2
    subst e2
    exact MPK.cr_allH hc pins s σ H _ _ _ I r ⟨a, bs, rfl, SqL.of h1, fin.here rs rep_bl q⟩
  · exact False.elim q
theorem b_anyH {cl : Nat → Option Addr} (hc : L2H.HotC X) : CallR X (.builtin "any") (rlD X.K cl (bltR .any)) := by
  intro pins s σ H vs us Qh I r h
  obtain ⟨ds, S, F, Q, hv, rs, q, fin⟩ := h
  rcases ds with _ | ⟨x, _ | ⟨y, t⟩⟩
  · exact False.elim q
  · obtain ⟨v, rfl, hx⟩ := hv.one_iff
    obtain ⟨bs, e, q⟩ : ∃ bs : List Bool, listD S x = some (bs.map D.bl) ∧ Q (.bl (bs.any id)) S := q
    obtain ⟨a, ws, rfl, h1, h2⟩ := listD_at rs hx e
    have e2 := repL_bl h2
    subst e2
    exact MPK.cr_anyH hc pins s σ H _ _ _ I r ⟨a, bs, rfl, SqL.of h1, fin.here rs rep_bl q⟩
  · exact False.elim q
theorem hot_of {b : Bl} (h : (T.hot.isNone || bltHot b) = true) (e : bltHot b = false) : T.hot = none := by
  rw [e, Bool.or_false] at h
  exact Option.isNone_iff_eq_none.mp h
theorem permV_rep {F : Fz} {K : PySem.W.Frag} {H : Hp} {ds : List D} {vs : List V} (h : RepL F K H ds vs) : ∀ perm : List Nat, RepL F K H (permV perm ds) (permV perm vs)
  | [] => .nil
  | i :: r => by
    unfold permV
    have ih := permV_rep h r
    unfold permV at ih
    cases e : ds[i]? with
    | none =>
      have e2 : vs[i]? = none := by
        rw [List.getElem?_eq_none_iff] at e ⊢
        rw [← h.length]; exact e
      rw [List.filterMap_cons_none e, List.filterMap_cons_none e2]
      exact ih
    | some d =>
      obtain ⟨v, e2, r2⟩ := h.get e
      rw [List.filterMap_cons_some e, List.filterMap_cons_some e2]
      exact .cons r2 ih
theorem permV_val {vs : List V} {us : List Value} (h : Vals vs us) : ∀ perm : List Nat, Vals (permV perm vs) (permV perm us)
  | [] => .nil
  | i :: r => by
    unfold permV
    have ih := permV_val h r
    unfold permV at ih
    have key : ∀ {vs : List V} {us : List Value}, Vals vs us → ∀ i : Nat, (vs[i]? = none ∧ us[i]? = none) ∨ ∃ v u, vs[i]? = some v ∧ us[i]? = some u ∧ RelV v u := by
      intro vs us h
      induction h with
      | nil => intro i; exact .inl ⟨rfl, rfl⟩
      | cons h1 h2 ih =>
        intro i
        cases i with
        | zero => exact .inr ⟨_, _, rfl, rfl, h1⟩
        | succ i => simpa using ih i
    rcases key h i with ⟨e, e2⟩ | ⟨v, u, e, e2, r2⟩
    · rw [List.filterMap_cons_none e, List.filterMap_cons_none e2]; exact ih
    · rw [List.filterMap_cons_some e, List.filterMap_cons_some e2]; exact .cons r2 ih
/-- the values of the keywords -/
inductive OkK (G : GE) (J : JE) (X : Cx) (W : WX) : List Ex → List Keyword → List Str → Prop
  | nil : OkK G J X W [] [] []
  | cons {m : Ex} {e : Expr} {ms : List Ex} {es : List Keyword} {n : Str} {ns : List Str} {kpos : Pos} : Ok G J X W m e → OkK G J X W ms es ns → OkK G J X W (m :: ms) (⟨some n, e, kpos⟩ :: es) (n :: ns)
theorem OkK.pk {ms : List Ex} {es : List Keyword} {ns : List Str} (h : OkK G J X W ms es ns) : PK X es (tL G J X W ms) := by
  induction h with
  | nil =>
    refine ⟨fun pos pins s σ H Q I h => pk_nil.run pos pins s σ H Q I ?_⟩
    obtain ⟨ρ, S, F, Q, E, hρ, hS, q, fin, hx⟩ := h
    exact fin [] S F [] H .refl hS .nil q
  | cons h1 h2 ih =>
    refine ⟨fun pos pins s σ H Q I h => (pk_cons h1.pe ih).run pos pins s σ H Q I ?_⟩
    obtain ⟨ρ, S, F, Q, E, hρ, hS, q, fin, hx⟩ := h
    refine ⟨ρ, S, F, _, E, hρ, hS, q, fun d1 S1 F1 v1 H1 g1 r1 p1 q1 => ?_, hx⟩
    refine ⟨ρ, S1, F1, _, E, hρ.grow g1 hS, r1, q1, fun ds S2 F2 vs H2 g2 r2 p2 q2 => ?_, hx.grow g1⟩
    exact fin _ S2 F2 _ H2 (g1.trans g2) r2 (.cons (p1.grow g2 r1) p2) q2
theorem OkK.names {ms : List Ex} {es : List Keyword} {ns : List Str} (h : OkK G J X W ms es ns) : ∀ (pos : Pos) (env : Env), (backToKw pos (keywordEach es env)).all (·.1.isSome) = true ∧ (backToKw pos (keywordEach es env)).filterMap (·.1) = ns ∧ (backToKw pos (keywordEach es env)).any (·.1.isNone) = false := by
  induction h with
  | nil => intro pos env; exact ⟨rfl, rfl, rfl⟩
  | cons h1 h2 ih =>
    intro pos env
    obtain ⟨a1, a2, a3⟩ := ih pos env
    unfold backToKw at a1 a2 a3 ⊢
    exact ⟨by simpa [keywordEach] using a1, by simpa [keywordEach] using a2, by simpa [keywordEach] using a3⟩
theorem OkK.len {ms : List Ex} {es : List Keyword} {ns : List Str} (h : OkK G J X W ms es ns) : ms.length = ns.length := by
  induction h with
  | nil => rfl
  | cons _ _ ih => simp [ih]
theorem wpEs_leq : ∀ (ms : List Ex) (ρ : Rho) (S : Sto) (Q : List D → Sto → Prop) (E : XPost), wpEs G ms ρ S Q E = wpEs G ms ρ S (fun xs S1 => xs.length = ms.length ∧ Q xs S1) E
  | [], ρ, S, Q, E => by simp [wpEs]
  | m :: ms, ρ, S, Q, E => by
    simp only [wpEs]
    congr 1
    funext x S1
    rw [wpEs_leq ms ρ S1 (fun xs S2 => Q (x :: xs) S2) E]
    congr 1
    funext xs S2
    simp
theorem wpEs_len (ms : List Ex) {ρ : Rho} {S : Sto} {Q : List D → Sto → Prop} {E : XPost} (h : wpEs G ms ρ S Q E) : wpEs G ms ρ S (fun xs S1 => xs.length = ms.length ∧ Q xs S1) E := wpEs_leq ms ρ S Q E ▸ h
theorem ok_callk (c : Cok G J T L X) (tk : L2N.Takes X W) {f : Nat} {ms : List Ex} {es : List Keyword} {x : Str} {ps : List Str} {kw : List (List Str × List Nat)} {ns : List Str} {perm : List Nat} {p pos : Pos} (ht : T.hot = none) (hf : T.fns[f]? = some (x, ps, kw)) (hk : (ns, perm) ∈ kw)
    (hg : glB X.env.scope x = true) (h : OkK G J X W ms es ns) : Ok G J X W (.callk f ms perm) (.Call (.Name x p) [] es pos) := by
  obtain ⟨a, fd, h1, h2, h3, h4, h5⟩ := (c.fn f x ps kw hf).ex
  obtain ⟨g1, g2⟩ := gl_of hg
  refine Ok.val ?_ fun _ => rfl
  refine ⟨fun pins s σ H Qh I h6 => ?_⟩
  obtain ⟨n1, n2, n3⟩ := h.names pos X.env
  refine wpAny_Call_Name_kw (ld_glob I g1 h1 ?_ g2)
  refine PySem.W.callWith_KW0 (h₀ := X.base) I.ok.mod.kin h2 n1 ?_ (by rw [n3]; rfl)
  have h7 : tL G J X W ms σ H fun vs H1 => vs.length = ns.length ∧ spD X.K J (G.sp f) (permV perm vs) H1 Qh (WE W σ) := by
    obtain ⟨ρ, S, F, Q, E, hρ, hS, q, fin, hx⟩ := h6
    refine ⟨ρ, S, F, _, E, hρ, hS, wpEs_len ms q, fun ds S1 F1 vs H1 g1 r1 p1 q1 => ⟨by rw [← p1.length, q1.1, h.len], ?_⟩, hx⟩
    exact ⟨_, S1, F1, Q, E, permV_rep p1 perm, r1, q1.2, fin.grow g1, hx.grow g1⟩
  refine thn (h.pk.run pos pins s σ H _ I h7) fun ws s2 ⟨zs, H2, I2, rz, hl, q2⟩ => ⟨I2.kIn, ?_⟩
  rw [n2]
  have r2 := permV_val rz perm
  have hlen : (permV perm ws).length = ps.length := by rw [← r2.length]; exact h4.len _ _ _ _ q2
  show wpAny _ _ (call (.ref a) [] (ns.zip ws)) _ _ _
  refine wpAny_call (codeAny_mono (h4.run X.A X.stack s2 H2 ⟨[], ns.zip ws⟩ (permV perm ws) (permV perm zs) Qh (WE W σ) (c.room ht) I2.env0 (h5 _ hk s2 ws (by rw [← Paired.length rz]; exact hl) hlen) r2 q2) fun r s' hq => ?_)
  cases r with
  | error e => exact L2N.passAt tk σ pins H2 s2 e s' I2 hq
  | ok fl =>
    cases fl with
    | ret u => exact I2.after hq
    | next => exact False.elim hq
    | brk => exact False.elim hq
    | cont => exact False.elim hq
theorem ok_blt (c : Cok G J T L X) {b : Bl} {ms : List Ex} {es : List Expr} {p pos : Pos} (hh0 : (T.hot.isNone || bltHot b) = true) (hg : glB X.env.scope (Str.ofString (bltNm b)) = true) (h : OkL G J X W ms es) (hl : 0 < ms.length) :
    Ok G J X W (.blt b ms) (.Call (.Name (Str.ofString (bltNm b)) p) es [] pos) := by
  obtain ⟨g1, g2⟩ := gl_of hg
  refine Ok.val ?_ fun _ => rfl
  cases h with
  | nil => simp at hl
  | cons hn k1 k2 =>
    have hh : OkL G J X W _ _ := .cons hn k1 k2
    have bb : ∀ {id : String}, CallR X (.builtin id) (rlD X.K J.cl (bltR b)) → bootBuiltins (Str.ofString (bltNm b)) = some (.builtin id) → Str.ofString (bltNm b) ∈ bltNames → Str.ofString (bltNm b) ≠ "__name__" →
        PE X (.Call (.Name (Str.ofString (bltNm b)) p) (_ :: _) [] pos) (tE G J X W (.blt b _)) := fun h1 h2 h3 h4 =>
      (pe_callB h1 g1 (c.blt _ h3) h2 hh.pa h4 g2 (star_cons hn _) (k2.star _ _).1).imp blt_imp
    have bt : ∀ {id : String}, CallR X (.type id) (rlD X.K J.cl (bltR b)) → bootBuiltins (Str.ofString (bltNm b)) = some (.type id) → Str.ofString (bltNm b) ∈ bltNames → Str.ofString (bltNm b) ≠ "__name__" →
        PE X (.Call (.Name (Str.ofString (bltNm b)) p) (_ :: _) [] pos) (tE G J X W (.blt b _)) := fun h1 h2 h3 h4 =>
      (pe_callTy h1 g1 (c.blt _ h3) h2 hh.pa h4 g2 (star_cons hn _) (k2.star _ _).1).imp blt_imp
    cases b with
    | len => exact bb b_len (by decide +kernel) (by decide +kernel) (by decide +kernel)
    | int => exact bt b_int (by decide +kernel) (by decide +kernel) (by decide +kernel)
    | str => exact bt b_str (by decide +kernel) (by decide +kernel) (by decide +kernel)
    | abs => exact bb b_abs (by decide +kernel) (by decide +kernel) (by decide +kernel)
    | max2 => exact bb (b_max2 (c.calm (hot_of hh0 rfl))) (by decide +kernel) (by decide +kernel) (by decide +kernel)
    | min2 => exact bb (b_min2 (c.calm (hot_of hh0 rfl))) (by decide +kernel) (by decide +kernel) (by decide +kernel)
    | all => exact bb (if hh : T.hot = none then b_all (c.calm hh) else b_allH (c.hotc hh)) (by decide +kernel) (by decide +kernel) (by decide +kernel)
    | any => exact bb (if hh : T.hot = none then b_any (c.calm hh) else b_anyH (c.hotc hh)) (by decide +kernel) (by decide +kernel) (by decide +kernel)
    | tup => exact bt b_tup (by decide +kernel) (by decide +kernel) (by decide +kernel)
    | lst m => exact bt (b_lst m) (show bootBuiltins (Str.ofString "list") = _ by decide +kernel) (show Str.ofString "list" ∈ bltNames by decide +kernel) (show Str.ofString "list" ≠ "__name__" by decide +kernel)
    | lss m => exact bt (b_lss (c.calm (hot_of hh0 rfl)) m) (show bootBuiltins (Str.ofString "list") = _ by decide +kernel) (show Str.ofString "list" ∈ bltNames by decide +kernel) (show Str.ofString "list" ≠ "__name__" by decide +kernel)
    | sum => exact bb (b_sum (c.calm (hot_of hh0 rfl))) (by decide +kernel) (by decide +kernel) (by decide +kernel)
theorem ok_isty (c : Cok G J T L X) {t : Ty} {m : Ex} {e : Expr} {p q pos : Pos} (hg : glB X.env.scope ("isinstance" : Str) = true) (hz : glB X.env.scope (Str.ofString (tyNm t)) = true) (hn : noStar e = true) (h : Ok G J X W m e) :
    Ok G J X W (.isty t m) (.Call (.Name "isinstance" p) [e, .Name (Str.ofString (tyNm t)) q] [] pos) := by
  obtain ⟨g1, g2⟩ := gl_of hg
  obtain ⟨z1, z2⟩ := gl_of hz
  refine Ok.val ?_ fun _ => rfl
  have hb : ∀ t : Ty, bootBuiltins (Str.ofString (tyNm t)) = some (.type (tyNm t)) ∧ Str.ofString (tyNm t) ∈ bltNames ∧ Str.ofString (tyNm t) ≠ "__name__" := by
    intro t; cases t <;> exact ⟨by decide +kernel, by decide +kernel, by decide +kernel⟩
  obtain ⟨b1, b2, b3⟩ := hb t
  have pt : PE X (.Name (Str.ofString (tyNm t)) q) (tC (.ty (tyNm t))) := pe_bltn z1 (c.blt _ b2) b1 rfl b3 z2
  refine (pe_callB (b_isty (cl := J.cl) t) g1 (c.blt _ (by decide +kernel)) (by decide +kernel) (pa_cons h.pe (pa_cons pt pa_nil rfl) (star_cons hn _)) (by decide) g2 (star_cons hn _) rfl).imp fun σ H Qh h => ?_
  obtain ⟨ρ, S, F, Q, E, hρ, hS, q, fin, hx⟩ := h
  refine ⟨ρ, S, F, _, E, hρ, hS, q, fun d1 S1 F1 v1 H1 g1 r1 p1 q1 => ?_, hx⟩
  obtain ⟨k, e1, q1⟩ := q1
  exact ⟨v1, d1, S1, F1, Q, k, rfl, p1, r1, e1, q1, fin.grow g1⟩

/-! ### methods of built-in types -/
theorem base_of {o : Expr} (h : noSuper o = true) (nm : Str) (env : Env) : attributeBase o nm env (eval o env) = eval o env := by
  unfold noSuper at h
  split at h
  · cases h
  · rename_i hh
    unfold attributeBase
    split
    · rename_i a b c d
      exact absurd rfl (hh _ _ _)
    · rfl
def mtTy : Mt → String
  | .join => "str" | .split _ => "str" | .lower => "str" | .upper => "str" | .strip => "str" | .tindex => "tuple" | _ => "list"
theorem ok_meth (c : Cok G J T L X) {m : Mt} {o : Ex} {ms : List Ex} {y : Expr} {es : List Expr} {apos pos : Pos} (hs : noSuper y = true) (hp : (apos.endLine == pos.line) = true) (hl : ms.length = mtAr m) (ho : Ok G J X W o y) (h : OkL G J X W ms es) (htup : m ≠ .tindex) :
    Ok G J X W (.meth m o ms) (.Call (.Attribute y (Str.ofString (mtNm m)) apos) es [] pos) := by
  refine Ok.val ?_ fun _ => rfl
  have few : ∀ (e : Expr) (r : List Expr) (ms' : List Ex), OkL G J X W ms' (e :: r) → ms'.length ≤ 2 → ((backTo pos (starEach (e :: r) X.env)).all (fun x => !x.1) && (backToKw pos (keywordEach [] X.env)).all (fun x => x.1.isSome)
      && decide ((e :: r).length + ([] : List Keyword).length + (if ([] : List Keyword).isEmpty then 0 else 1) < 30)) = true := fun e r ms' h hl => by
    rw [(h.star pos X.env).2]
    have := h.len
    simp [backToKw, keywordEach]
    simp at this
    omega
  have str_ok : ∀ {v : V} {d : D} {F : Fz} {H : Hp}, Rep F X.K H d v → (∃ s, d = .str s) → tyV X.K "str" v H := fun {v d F H} p e => by
    obtain ⟨z, rfl⟩ := e
    simp only [Rep] at p
    rw [p.1]; rfl
  have lst_ok : ∀ {v : V} {d : D} {F : Fz} {H : Hp} {S : Sto}, RelS F X.K J.cl S H → Rep F X.K H d v → (∃ xs, listD S d = some xs) → tyV X.K "list" v H := fun {v d F H S} r p e => by
    obtain ⟨xs, e⟩ := e
    obtain ⟨a, vs, rfl, h1, _⟩ := listD_at r p e
    exact .inl ⟨rfl, vs, SqL.of h1⟩
  have ty_ok : ∀ {v : V} {d : D} {F : Fz} {H : Hp} {S : Sto}, RelS F X.K J.cl S H → Rep F X.K H d v → mtOk m S d → tyV X.K (mtTy m) v H := fun {v d F H S} r p e => by
    cases m with
    | join => exact str_ok p e
    | split _ => exact str_ok p e
    | lower => exact str_ok p e
    | upper => exact str_ok p e
    | strip => exact str_ok p e
    | tindex => exact absurd rfl htup
    | _ => exact lst_ok r p e
  have m0 : ∀ {id : String}, ms = [] → PlainAttrs (mtTy m) → Slot (mtTy m) (Str.ofString (mtNm m)) id → typeOf (.builtin id) = pure (.type "method_descriptor") → MtR X id (rmD X.K J.cl (methR m)) →
      PE X (.Call (.Attribute y (Str.ofString (mtNm m)) apos) es [] pos) (tE G J X W (.meth m o ms)) := fun {id} e pa sl ty hm => by
    subst e
    cases h
    refine (pe_bm0 pa sl ty hm ho.pe (base_of hs _ _) hp).imp fun σ H Qh h => ?_
    obtain ⟨ρ, S, F, Q, E, hρ, hS, q, fin, hx⟩ := h
    refine ⟨ρ, S, F, _, E, hρ, hS, q, fun d1 S1 F1 v1 H1 g1 r1 p1 q1 => ⟨ty_ok r1 p1 q1.1, ?_⟩, hx⟩
    exact ⟨d1, [], S1, F1, Q, p1, .nil, r1, q1.2, fin.grow g1⟩
  have m1 : ∀ {id : String}, 0 < ms.length → ms.length ≤ 2 → PlainAttrs (mtTy m) → Slot (mtTy m) (Str.ofString (mtNm m)) id → typeOf (.builtin id) = pure (.type "method_descriptor") → MtR X id (rmD X.K J.cl (methR m)) →
      PE X (.Call (.Attribute y (Str.ofString (mtNm m)) apos) es [] pos) (tE G J X W (.meth m o ms)) := fun {id} e e2 pa sl ty hm => by
    cases h with
    | nil => simp at e
    | cons hn k1 k2 =>
      have hh : OkL G J X W _ _ := .cons hn k1 k2
      refine (pe_bm pa sl ty hm ho.pe hh.pa (base_of hs _ _) (few _ _ _ hh e2) hp (star_cons hn _) (k2.star _ _).1).imp fun σ H Qh h => ?_
      obtain ⟨ρ, S, F, Q, E, hρ, hS, q, fin, hx⟩ := h
      refine ⟨ρ, S, F, _, E, hρ, hS, q, fun d1 S1 F1 v1 H1 g1 r1 p1 q1 => ⟨ty_ok r1 p1 q1.1, ?_⟩, hx⟩
      refine ⟨ρ, S1, F1, _, E, hρ.grow g1 hS, r1, q1.2, fun ds S2 F2 vs H2 g2 r2 p2 q2 => ?_, hx.grow g1⟩
      exact ⟨d1, ds, S2, F2, Q, p1.grow g2 r1, p2, r2, q2, fin.grow (g1.trans g2)⟩
  have l0 : mtAr m = 0 → ms = [] := fun e => List.eq_nil_of_length_eq_zero (hl.trans e)
  cases m with
  | join => exact m1 (by rw [hl]; decide) (by rw [hl]; decide) PySem.F.plainAttrs_str PySem.F.slot_str_join PySem.F.type_str_join m_join
  | split _ => exact m1 (by rw [hl]; exact Nat.one_pos) (by rw [hl]; exact (by decide : 1 ≤ 2)) PySem.F.plainAttrs_str PySem.F.slot_str_split PySem.F.type_str_split (m_split _)
  | lower => exact m0 (l0 rfl) PySem.F.plainAttrs_str PySem.F.slot_str_lower PySem.F.type_str_lower m_lower
  | upper => exact m0 (l0 rfl) PySem.F.plainAttrs_str PySem.F.slot_str_upper PySem.F.type_str_upper m_upper
  | strip => exact m0 (l0 rfl) PySem.F.plainAttrs_str PySem.F.slot_str_strip PySem.F.type_str_strip m_strip
  | append => exact m1 (by rw [hl]; decide) (by rw [hl]; decide) PySem.F.plainAttrs_list PySem.F.slot_list_append PySem.F.type_list_append m_append
  | extend => exact m1 (by rw [hl]; decide) (by rw [hl]; decide) PySem.F.plainAttrs_list PySem.F.slot_list_extend PySem.F.type_list_extend m_extend
  | insert => exact m1 (by rw [hl]; decide) (by rw [hl]; decide) PySem.F.plainAttrs_list PySem.F.slot_list_insert PySem.F.type_list_insert m_insert
  | pop => exact m0 (l0 rfl) PySem.F.plainAttrs_list PySem.F.slot_list_pop PySem.F.type_list_pop m_pop
  | popAt => exact m1 (by rw [hl]; decide) (by rw [hl]; decide) PySem.F.plainAttrs_list PySem.F.slot_list_pop PySem.F.type_list_pop m_popAt
  | index => exact m1 (by rw [hl]; decide) (by rw [hl]; decide) PySem.F.plainAttrs_list PySem.F.slot_list_index PySem.F.type_list_index (m_index (hu70 c))
  | tindex => exact absurd rfl htup
  | reverse => exact m0 (l0 rfl) PySem.F.plainAttrs_list PySem.F.slot_list_reverse PySem.F.type_list_reverse m_reverse
  | clear => exact m0 (l0 rfl) PySem.F.plainAttrs_list PySem.F.slot_list_clear PySem.F.type_list_clear m_clear
  | count => exact m1 (by rw [hl]; decide) (by rw [hl]; decide) PySem.F.plainAttrs_list PySem.F.slot_list_count PySem.F.type_list_count m_count

/-! ### places, slices -/
theorem plainIx_of {b : Expr} (h : noSlice b = true) : PlainIx b := fun o i => by
  unfold subscripted
  cases b <;> first | rfl | cases h
theorem ok_idx (c : Cok G J T L X) {a b : Ex} {l r : Expr} {pos : Pos} (hn : noSlice r = true) (ha : Ok G J X W a l) (hb : Ok G J X W b r) : Ok G J X W (.idx a b) (.Subscript l r pos) :=
  Ok.val ((pe_ix (x_idx (cl := J.cl) (by have := hu70 c; omega)) ha.pe hb.pe (plainIx_of hn)).imp (tE_two fun _ _ _ _ h => h)) fun _ => rfl
/-- a part of a slice -/
inductive OkO (G : GE) (J : JE) (X : Cx) (W : WX) : Ex → Option Expr → Prop
  | none : OkO G J X W .non .none
  | some {m : Ex} {e : Expr} : m ≠ .non → Ok G J X W m e → OkO G J X W m (.some e)
def tO (G : GE) (J : JE) (X : Cx) (W : WX) (m : Ex) : TO := fun σ H Qh => ∃ (ρ : Rho) (S : Sto) (F : Fz) (Q : Option Int → Sto → Prop) (E : XPost), RelR J.hx F X.K H ρ σ ∧ RelS F X.K J.cl S H ∧ wpE G m ρ S (fun y S1 => ∃ l, optE m y = .some l ∧ Q l S1) E ∧
  (∀ l S' F' H', Grow S F H S' F' H' → RelS F' X.K J.cl S' H' → Q l S' → Qh l H') ∧ FinX J X.K S F H E fun c d H' => W c d σ H'
theorem OkO.po {m : Ex} {e : Option Expr} (h : OkO G J X W m e) : PO X e (tO G J X W m) := by
  cases h with
  | none =>
    refine ⟨fun pins s σ H Qh I h => po_none.run pins s σ H Qh I ?_⟩
    obtain ⟨ρ, S, F, Q, E, hρ, hS, ⟨l, e, q⟩, fin, hx⟩ := h
    cases e
    exact fin _ S F H .refl hS q
  | some hn h1 =>
    refine ⟨fun pins s σ H Qh I h => (po_some h1.pe).run pins s σ H Qh I ?_⟩
    obtain ⟨ρ, S, F, Q, E, hρ, hS, q, fin, hx⟩ := h
    refine ⟨ρ, S, F, _, E, hρ, hS, q, fun d1 S1 F1 v1 H1 g1 r1 p1 q1 => ?_, hx⟩
    obtain ⟨l, e, q1⟩ := q1
    cases d1 with
    | int i =>
      simp only [Rep] at p1
      have e2 : optE m (.int i) = .some (.some i) := by
        cases m <;> first | rfl | exact absurd rfl hn
      rw [e2] at e; cases e
      exact ⟨i, p1, fin _ S1 F1 H1 g1 r1 q1⟩
    | _ => cases m <;> first | exact absurd rfl hn | cases e
theorem ok_slc {m : Bool} {a lo hi : Ex} {l : Expr} {x y : Option Expr} {p pos : Pos} (ha : Ok G J X W a l) (hl : OkO G J X W lo x) (hh : OkO G J X W hi y) : Ok G J X W (.slc m a lo hi) (.Subscript l (.Slice x y .none p) pos) := by
  refine Ok.val ((pe_slice (x_slc (cl := J.cl) m) ha.pe hl.po hh.po).imp fun σ H Qh h => ?_) fun _ => rfl
  obtain ⟨ρ, S, F, Q, E, hρ, hS, q, fin, hx⟩ := h
  refine ⟨ρ, S, F, _, E, hρ, hS, q, fun d1 S1 F1 v1 H1 g1 r1 p1 q1 => ?_, hx⟩
  refine ⟨ρ, S1, F1, _, E, hρ.grow g1 hS, r1, q1, fun l S2 F2 H2 g2 r2 q2 => ?_, hx.grow g1⟩
  refine ⟨ρ, S2, F2, _, E, hρ.grow (g1.trans g2) hS, r2, q2, fun h S3 F3 H3 g3 r3 q3 => ?_, hx.grow (g1.trans g2)⟩
  exact ⟨d1, S3, F3, Q, p1.grow (g2.trans g3) r1, r3, q3, fin.grow ((g1.trans g2).trans g3)⟩
end
end MP
/-! what the look is worth: targets, walks, comprehensions -/
namespace MP
open PySem PySem.Spec PyProof.Rows L2
section
variable {G : GE} {J : JE} {T : NT} {L : Nat} {X : Cx} {W : WX}

/-! ### slots -/
theorem wipe_set : ∀ (own : List Nat) (σ : L2.St) (i : Nat) (x : Option V), (i ∈ own → wipe (σ.set i x) own = wipe σ own) ∧ (i ∉ own → wipe (σ.set i x) own = (wipe σ own).set i x)
  | [], σ, i, x => ⟨fun h => by simp at h, fun _ => rfl⟩
  | v :: vs, σ, i, x => by
    obtain ⟨h1, h2⟩ := wipe_set vs σ i x
    refine ⟨fun h => ?_, fun h => ?_⟩
    · show (wipe (σ.set i x) vs).set v none = (wipe σ vs).set v none
      by_cases hi : i ∈ vs
      · rw [h1 hi]
      · have e : i = v := by
          rcases List.mem_cons.mp h with e | e
          · exact e
          · exact absurd e hi
        subst e
        rw [h2 hi, List.set_set]
    · simp only [List.mem_cons, not_or] at h
      show (wipe (σ.set i x) vs).set v none = ((wipe σ vs).set v none).set i x
      rw [h2 h.2, List.set_comm _ _ h.1]
theorem RelR.set {hx : Nat → D → Prop} {F : Fz} {K : PySem.W.Frag} {H : Hp} {ρ : Rho} {σ : L2.St} (h : RelR hx F K H ρ σ) (i : Nat) {d : D} {v : V} (r : Rep F K H d v) (hd : hx i d) : RelR hx F K H (ρ.set i (some d)) (σ.set i (some v)) := by
  refine ⟨by simpa using h.1, fun j e hj => ?_⟩
  by_cases hji : i = j
  · subst hji
    by_cases hl : i < ρ.length
    · rw [List.getElem?_set_self hl] at hj
      cases hj
      exact ⟨v, by rw [List.getElem?_set_self (by rw [h.1]; exact hl)], r, hd⟩
    · rw [List.getElem?_eq_none (by simpa using hl)] at hj; cases hj
  · rw [List.getElem?_set_ne hji] at hj
    obtain ⟨w, e1, e2⟩ := h.2 j e hj
    exact ⟨w, by rw [List.getElem?_set_ne hji]; exact e1, e2⟩
theorem RelR.unset {hx : Nat → D → Prop} {F : Fz} {K : PySem.W.Frag} {H : Hp} {ρ : Rho} {σ : L2.St} (h : RelR hx F K H ρ σ) (i : Nat) : RelR hx F K H (ρ.set i none) (σ.set i none) := by
  refine ⟨by simpa using h.1, fun j e hj => ?_⟩
  by_cases hji : i = j
  · subst hji
    by_cases hl : i < ρ.length
    · rw [List.getElem?_set_self hl] at hj; cases hj
    · rw [List.getElem?_eq_none (by simpa using hl)] at hj; cases hj
  · rw [List.getElem?_set_ne hji] at hj
    obtain ⟨w, e1, e2⟩ := h.2 j e hj
    exact ⟨w, by rw [List.getElem?_set_ne hji]; exact e1, e2⟩
theorem RelR.wipe {hx : Nat → D → Prop} {F : Fz} {K : PySem.W.Frag} {H : Hp} {ρ : Rho} {σ : L2.St} (h : RelR hx F K H ρ σ) : ∀ own : List Nat, RelR hx F K H (wipeD ρ own) (L2.wipe σ own)
  | [] => h
  | v :: vs => (RelR.wipe h vs).unset v

/-! ### targets -/
def tG (J : JE) (X : Cx) (tg : Tg) : TG := fun v σ H Qh => ∃ ρ S F d ρ1, RelR J.hx F X.K H ρ σ ∧ RelS F X.K J.cl S H ∧ Rep F X.K H d v ∧ setT tg d ρ = some ρ1 ∧ ∀ σ1, RelR J.hx F X.K H ρ1 σ1 → (∀ own, tgIn own tg = true → wipe σ1 own = wipe σ own) → Qh σ1 H
def tGs (J : JE) (X : Cx) (ts : List Tg) : TGs := fun vs σ H Qh => ∃ ρ S F ds ρ1, RelR J.hx F X.K H ρ σ ∧ RelS F X.K J.cl S H ∧ RepL F X.K H ds vs ∧ setTs ts ds ρ = some ρ1 ∧ ∀ σ1, RelR J.hx F X.K H ρ1 σ1 → (∀ own, tgsIn own ts = true → wipe σ1 own = wipe σ own) → Qh σ1 H
theorem ass_cons {e : Expr} {es : List Expr} (h : noStar e = true) (env : Env) : (assignEach (e :: es) env).map (·.2) = assign e env :: (assignEach es env).map (·.2) := by
  cases e <;> first | rfl | cases h
theorem ass_len : ∀ {es : List Expr}, es.all noStar = true → ∀ env : Env, (assignEach es env).length = es.length ∧ (assignEach es env).findIdx? (·.1) = none
  | [], _, env => ⟨rfl, rfl⟩
  | e :: es, h, env => by
    rw [List.all_cons, Bool.and_eq_true] at h
    obtain ⟨h1, h2⟩ := ass_len h.2 env
    have e1 : assignEach (e :: es) env = (false, assign e env) :: assignEach es env := by
      cases e <;> first | rfl | cases h.1
    rw [e1]
    exact ⟨by simp [h1], by simp [List.findIdx?_cons, h2]⟩
theorem tgs_star {ht : Option Nat} {N : List Str} {sc : Scope} {fb : Str → Bool} : ∀ {ts : List Tg} {es : List Expr}, chkTgs ht N sc fb ts es = true → es.all noStar = true ∧ ts.length = es.length
  | [], [], _ => ⟨rfl, rfl⟩
  | [], _ :: _, h => by simp [chkTgs] at h
  | _ :: _, [], h => by simp [chkTgs] at h
  | t :: ts, e :: es, h => by
    simp only [chkTgs, Bool.and_eq_true] at h
    obtain ⟨h1, h2⟩ := tgs_star h.2
    exact ⟨by rw [List.all_cons, h.1.1, h1]; rfl, by simp [h2]⟩
theorem setTs_len : ∀ {ts : List Tg} {ds : List D} {ρ ρ1 : Rho}, setTs ts ds ρ = some ρ1 → ds.length = ts.length
  | [], [], _, _, _ => rfl
  | [], _ :: _, _, _, h => by simp [setTs] at h
  | _ :: _, [], _, _, h => by simp [setTs] at h
  | t :: ts, d :: ds, ρ, ρ1, h => by
    simp only [setTs] at h
    split at h
    · simp [setTs_len h]
    · cases h
mutual
theorem okTg {ht : Option Nat} (nd : X.N.Nodup) (hc : ht = none → X.calm = true) (hxx : ∀ i d, ht ≠ some i → J.hx i d) : ∀ (tg : Tg) (e : Expr), chkTg ht X.N X.env.scope X.fn tg e = true → PG X e (tG J X tg)
  | .nm i, e, h => by
    cases e with
    | Name x pos =>
      simp only [chkTg, Bool.and_eq_true, decide_eq_true_eq] at h
      obtain ⟨⟨h0, h1⟩, h2⟩ := h
      have h0 : ht ≠ some i := by intro z; rw [z] at h0; simp at h0
      have hl : Loc X.env.scope x ∧ (X.fn x = true ∨ X.env.scope.names.lookup x = some .local) := by
        split at h2
        · rename_i e; exact ⟨.inl e, .inr e⟩
        · rename_i e; exact ⟨.inr e, .inl h2⟩
        · cases h2
      refine ⟨fun pins s σ H v u Qh I r q => (pg_name nd h1 hl.1 hl.2).run pins s σ H v u Qh I r ?_⟩
      obtain ⟨ρ, S, F, d, ρ1, hρ, hS, hd, e, q⟩ := q
      simp only [setT, Option.some.injEq] at e
      subst e
      refine q _ (hρ.set i hd (hxx i d h0)) fun own ho => ?_
      simp only [tgIn, decide_eq_true_eq] at ho
      exact (wipe_set own σ i _).1 ho
    | _ => simp [chkTg] at h
  | .tp ts, e, h => by
    cases e with
    | Tuple es k pos =>
      simp only [chkTg, Bool.and_eq_true] at h
      obtain ⟨h0, h⟩ := h
      have h0 : ht = none := Option.isNone_iff_eq_none.mp h0
      have hs := tgs_star h
      have hl := ass_len hs.1 X.env
      refine ⟨fun pins s σ H v u Qh I r q => (pg_tup (hc h0) (okTgs nd hc hxx ts es h) hl.1 hl.2).run pins s σ H v u Qh I r ?_⟩
      obtain ⟨ρ, S, F, d, ρ1, hρ, hS, hd, e, q⟩ := q
      cases d with
      | tup xs =>
        simp only [setT] at e
        obtain ⟨a, vs, rfl, h1, h2⟩ := hd.tup
        refine ⟨a, vs, rfl, h1, by rw [← h2.length, setTs_len e, hs.2], ρ, S, F, xs, ρ1, hρ, hS, h2, e, fun σ1 r1 hw => q σ1 r1 fun own ho => hw own (by simpa [tgIn] using ho)⟩
      | _ => simp [setT] at e
    | _ => simp [chkTg] at h
theorem okTgs {ht : Option Nat} (nd : X.N.Nodup) (hc : ht = none → X.calm = true) (hxx : ∀ i d, ht ≠ some i → J.hx i d) : ∀ (ts : List Tg) (es : List Expr), chkTgs ht X.N X.env.scope X.fn ts es = true → PGs X es (tGs J X ts)
  | [], [], _ => ⟨fun pins s σ H vs us Qh I r q => pgs_nil.run pins s σ H vs us Qh I r (by
      obtain ⟨ρ, S, F, ds, ρ1, hρ, hS, hd, e, q⟩ := q
      cases ds with
      | nil =>
        simp only [setTs, Option.some.injEq] at e
        subst e
        exact ⟨hd.nil_iff, q σ hρ fun _ _ => rfl⟩
      | cons _ _ => simp [setTs] at e)⟩
  | [], _ :: _, h => by simp [chkTgs] at h
  | _ :: _, [], h => by simp [chkTgs] at h
  | t :: ts, e :: es, h => by
    simp only [chkTgs, Bool.and_eq_true] at h
    obtain ⟨⟨h0, h1⟩, h2⟩ := h
    refine ⟨fun pins s σ H vs us Qh I r q => (pgs_cons (okTg nd hc hxx t e h1) (okTgs nd hc hxx ts es h2) (ass_cons h0 _)).run pins s σ H vs us Qh I r ?_⟩
    obtain ⟨ρ, S, F, ds, ρ1, hρ, hS, hd, e, q⟩ := q
    cases ds with
    | nil => simp [setTs] at e
    | cons d ds =>
      simp only [setTs] at e
      split at e
      · rename_i ρ2 e2
        simp only [RepL] at hd
        obtain ⟨v, rs, rfl, p1, p2⟩ := hd
        refine ⟨v, rs, rfl, ρ, S, F, d, ρ2, hρ, hS, p1, e2, fun σ1 r1 w1 => ?_⟩
        refine ⟨ρ2, S, F, ds, ρ1, r1, hS, p2, e, fun σ2 r2 w2 => q σ2 r2 fun own ho => ?_⟩
        simp only [tgsIn, Bool.and_eq_true] at ho
        rw [w2 own ho.2, w1 own ho.1]
      · cases e
end

/-! ### walks -/
/-- the machine's walk goes as the row of items -/
def ItD (K : PySem.W.Frag) (cl : Nat → Option Addr) (I : L2.It) (src : Option Addr) (xs : List D) (F : Fz) (H : Hp) : Prop :=
  ∀ S2 F2 H2 (i : Nat), (∀ b, F b → F2 b) → (∀ b o, F b → H b = some o → H2 b = some o) → RelS F2 K cl S2 H2 → Stab src xs S2 →
    (xs[i]? = none → I.stop i H2) ∧ ∀ d, xs[i]? = some d → I.go i H2 ∧ ∀ x H3, I.yld i H2 x H3 → ∃ F3, Grow S2 F2 H2 S2 F3 H3 ∧ RelS F3 K cl S2 H3 ∧ Rep F3 K H3 d x
def tI (G : GE) (J : JE) (X : Cx) (W : WX) (it : It) : TI := fun σ H R => ∃ ρ S F Kd E, RelR J.hx F X.K H ρ σ ∧ RelS F X.K J.cl S H ∧ wpIt G it ρ S Kd E ∧
  (∀ src xs S' F' H' I, Grow S F H S' F' H' → RelS F' X.K J.cl S' H' → ItD X.K J.cl I src xs F' H' → Kd src xs S' → R I H') ∧ FinX J X.K S F H E fun c d H' => W c d σ H'
section
variable {pins : List (Addr × Obj)} {σ : L2.St} {H : Hp} {s : Shared} {a : Addr} {vs : List V} {R : L2.It → Hp → Prop} {E : Value → Shared → Prop} {tg : Expr}
theorem walk_list (I1 : L2.Inv X pins σ H s) (hq : SqL X.K H a vs) (q : R (Itl X.K a) H) : wpAny (model X.prog X.w) X.A (pyIter (.ref a)) (PIE X pins σ tg R) E s := by
  obtain ⟨its, rv, p, hz⟩ := I1.list hq
  refine wpAny_pyIter_list p.isList ?_
  refine ⟨s.heap.objs.size, [s.heap.objs.size], _, _, H, rfl, I1.kept (t' := s.toks) fun b o e => Heap.get?_push_of_some _ e, turn_list a _, ⟨_, Heap.get?_push_size _ rfl, rfl, rfl⟩, fun b hb => ?_, q⟩
  have e : b = s.heap.objs.size := by simpa using hb
  subst e
  exact I1.fpOk (Nat.le_refl _) (I1.hok.fresh (Nat.le_refl _))
theorem walk_tup (I1 : L2.Inv X pins σ H s) (hq : SqT X.K H a vs) (q : R (Itt X.K a) H) : wpAny (model X.prog X.w) X.A (pyIter (.ref a)) (PIE X pins σ tg R) E s := by
  obtain ⟨its, rv, p, hz⟩ := I1.tuple hq
  refine wpAny_pyIter_tuple (show s.heap.IsTuple a its.toArray from p) ?_
  refine ⟨s.heap.objs.size, [s.heap.objs.size], _, _, H, rfl, I1.kept (t' := s.toks) fun b o e => Heap.get?_push_of_some _ e, turn_tuple a _, ⟨_, Heap.get?_push_size _ rfl, rfl, rfl⟩, fun b hb => ?_, q⟩
  have e : b = s.heap.objs.size := by simpa using hb
  subst e
  exact I1.fpOk (Nat.le_refl _) (I1.hok.fresh (Nat.le_refl _))
theorem walk_str {x : Str} {t : Tok} (I1 : L2.Inv X pins σ H s) (q : R (Its x) H) : wpAny (model X.prog X.w) X.A (pyIter (.str x t)) (PIE X pins σ tg R) E s := by
  cases ha : x.cps.all (· < 128)
  · exact wpAny_pyIter_wide ha (pi_one (tk := s.toks) I1 _ (turn_str _ x t "str_iterator" (.inr rfl)) ⟨_, Heap.get?_push_size _ rfl, rfl, rfl⟩ q)
  · exact wpAny_pyIter_ascii ha (pi_one (tk := s.toks) I1 _ (turn_str _ x t "str_ascii_iterator" (.inl rfl)) ⟨_, Heap.get?_push_size _ rfl, rfl, rfl⟩ q)
end
section
variable {F : Fz} {K : PySem.W.Frag} {H : Hp} {cl : Nat → Option Addr} {S : Sto}
theorem itd_list {a : Addr} {src : Option Addr} {xs : List D} (g : ∀ S2 F2 H2, (∀ b, F b → F2 b) → (∀ b o, F b → H b = some o → H2 b = some o) → RelS F2 K cl S2 H2 → Stab src xs S2 → ∃ vs, SqL K H2 a vs ∧ RepL F2 K H2 xs vs) : ItD K cl (Itl K a) src xs F H := by
  intro S2 F2 H2 i hF hH rs st
  obtain ⟨vs, h1, h2⟩ := g S2 F2 H2 hF hH rs st
  refine ⟨fun e => ⟨vs, h1, ?_⟩, fun d e => ?_⟩
  · rw [← h2.length]; exact List.getElem?_eq_none_iff.mp e
  · obtain ⟨v, hv, hr⟩ := h2.get e
    refine ⟨⟨vs, v, h1, hv⟩, fun x H3 y => ?_⟩
    obtain ⟨rfl, y⟩ := y
    have e2 := y vs h1
    rw [hv] at e2; cases e2
    exact ⟨F2, .refl, rs, hr⟩
theorem itd_tup {a : Addr} {src : Option Addr} {xs : List D} (g : ∀ S2 F2 H2, (∀ b, F b → F2 b) → (∀ b o, F b → H b = some o → H2 b = some o) → RelS F2 K cl S2 H2 → Stab src xs S2 → ∃ vs, SqT K H2 a vs ∧ RepL F2 K H2 xs vs) : ItD K cl (Itt K a) src xs F H := by
  intro S2 F2 H2 i hF hH rs st
  obtain ⟨vs, h1, h2⟩ := g S2 F2 H2 hF hH rs st
  refine ⟨fun e => ⟨vs, h1, ?_⟩, fun d e => ?_⟩
  · rw [← h2.length]; exact List.getElem?_eq_none_iff.mp e
  · obtain ⟨v, hv, hr⟩ := h2.get e
    refine ⟨⟨vs, v, h1, hv⟩, fun x H3 y => ?_⟩
    obtain ⟨rfl, y⟩ := y
    have e2 := y vs h1
    rw [hv] at e2; cases e2
    exact ⟨F2, .refl, rs, hr⟩
theorem itd_str {s : List Nat} (hs : okS s) : ItD K cl (Its (mkS s)) none (s.map fun c => .str [c]) F H := by
  intro S2 F2 H2 i hF hH rs st
  have hz : (mkS s).cps.size = s.length := by simp [mkS]
  have hg : (mkS s).cps[i]? = s[i]? := by simp [mkS]
  refine ⟨fun e => ?_, fun d e => ?_⟩
  · rw [List.getElem?_map, Option.map_eq_none_iff] at e
    show (mkS s).cps.size ≤ i
    rw [hz]; exact List.getElem?_eq_none_iff.mp e
  · rw [List.getElem?_map, Option.map_eq_some_iff] at e
    obtain ⟨c, e1, rfl⟩ := e
    have hi : i < s.length := (List.getElem?_eq_some_iff.mp e1).1
    refine ⟨by show i < (mkS s).cps.size; rw [hz]; exact hi, fun x H3 y => ?_⟩
    obtain ⟨rfl, c2, e2, rfl⟩ := y
    rw [hg, e1] at e2; cases e2
    exact ⟨F2, .refl, rs, rep_str ⟨by simp [LIM], fun d hd => by simp at hd; subst hd; exact hs.2 _ (List.mem_of_getElem? e1)⟩⟩
theorem itd_rng {lo : Int} {n : Nat} {xs : List D} (e : xs = (List.range n).map fun (k : Nat) => D.int (lo + (k : Int))) : ItD K cl (Itr lo n) none xs F H := by
  subst e
  intro S2 F2 H2 i hF hH rs st
  refine ⟨fun e => ?_, fun d e => ?_⟩
  · rw [List.getElem?_map, Option.map_eq_none_iff] at e
    show n ≤ i
    have := List.getElem?_eq_none_iff.mp e
    simpa using this
  · rw [List.getElem?_map, Option.map_eq_some_iff] at e
    obtain ⟨k, e1, rfl⟩ := e
    have hk : i < n := by
      have := (List.getElem?_eq_some_iff.mp e1).1
      simpa using this
    rw [List.getElem?_range hk] at e1
    cases e1
    refine ⟨hk, fun x H3 y => ?_⟩
    obtain ⟨rfl, rfl⟩ := y
    exact ⟨F2, .refl, rs, rep_int⟩
end
theorem ok_itEx {m : Ex} {e tg : Expr} (h : Ok G J X W m e) : PI X tg e (tI G J X W (.ex m)) := by
  refine ⟨fun pins s σ H R I hw => ?_⟩
  obtain ⟨ρ, S, F, Kd, E, hρ, hS, q, fin, hx⟩ := hw
  have q' : wpE G m ρ S (fun x S1 => iterR x S1 Kd) E := q
  refine thn (h.pe.run pins s σ H (fun v H1 => ∃ d S1 F1, Grow S F H S1 F1 H1 ∧ RelS F1 X.K J.cl S1 H1 ∧ Rep F1 X.K H1 d v ∧ iterR d S1 Kd) I ⟨ρ, S, F, _, E, hρ, hS, q', fun d1 S1 F1 v1 H1 g1 r1 p1 q1 => ⟨d1, S1, F1, g1, r1, p1, q1⟩, hx⟩) fun u s1 ⟨v, H1, I1, ru, d, S1, F1, g1, r1, p1, q1⟩ => ?_
  cases d with
  | str z =>
    simp only [Rep] at p1
    obtain ⟨rfl, oz⟩ := p1
    obtain ⟨t, rfl⟩ := ru
    exact walk_str I1 (fin _ _ S1 F1 H1 _ g1 r1 (itd_str oz) q1)
  | tup xs =>
    obtain ⟨a, vs, rfl, h1, h2⟩ := p1.tup
    obtain rfl : u = Value.ref a := ru
    refine walk_tup I1 h1 (fin none xs S1 F1 H1 _ g1 r1 (itd_tup fun S2 F2 H2 hF hH rs _ => ?_) q1)
    obtain ⟨b, ws, e1, h3, h4⟩ := (p1.mono hF hH).tup
    cases e1
    exact ⟨ws, h3, h4⟩
  | lst xs =>
    obtain ⟨a, vs, rfl, _, h1, h2⟩ := p1.lst
    obtain rfl : u = Value.ref a := ru
    refine walk_list I1 (SqL.of h1) (fin none xs S1 F1 H1 _ g1 r1 (itd_list fun S2 F2 H2 hF hH rs _ => ?_) q1)
    obtain ⟨b, ws, e1, _, h3, h4⟩ := (p1.mono hF hH).lst
    cases e1
    exact ⟨ws, SqL.of h3, h4⟩
  | scr xs =>
    obtain ⟨a, vs, rfl, h1, h2⟩ := p1.scr
    obtain rfl : u = Value.ref a := ru
    refine walk_list I1 h1 (fin none xs S1 F1 H1 _ g1 r1 (itd_list fun S2 F2 H2 hF hH rs _ => ?_) q1)
    obtain ⟨b, ws, e1, h3, h4⟩ := (p1.mono hF hH).scr
    cases e1
    exact ⟨ws, h3, h4⟩
  | ref a =>
    obtain ⟨xs, e, q1⟩ : ∃ xs, S1 a = some (.lst xs) ∧ Kd (some a) xs S1 := q1
    simp only [Rep] at p1
    subst p1
    obtain rfl : u = Value.ref a := ru
    obtain ⟨vs, h1, h2⟩ := r1.ob a _ e
    refine walk_list I1 (SqL.of h1) (fin (some a) xs S1 F1 H1 _ g1 r1 (itd_list fun S2 F2 H2 hF hH rs st => ?_) q1)
    obtain ⟨ws, h3, h4⟩ := rs.ob a _ st
    exact ⟨ws, SqL.of h3, h4⟩
  | _ => exact False.elim q1
theorem ok_itR1 (c : Cok G J T L X) {m : Ex} {e tg : Expr} {p pos : Pos} (hg : glB X.env.scope ("range" : Str) = true) (hn : noStar e = true) (h : Ok G J X W m e) : PI X tg (.Call (.Name "range" p) [e] [] pos) (tI G J X W (.rng1 m)) := by
  obtain ⟨g1, g2⟩ := gl_of hg
  refine ⟨fun pins s σ H R I hw => (pi_range1 g1 (c.blt _ (by decide +kernel)) (pa_cons h.pe pa_nil (star_cons hn _)) (star_cons hn _)).run pins s σ H R I ?_⟩
  obtain ⟨ρ, S, F, Kd, E, hρ, hS, q, fin, hx⟩ := hw
  refine ⟨ρ, S, F, _, E, hρ, hS, q, fun d1 S1 F1 v1 H1 g1 r1 p1 q1 => ?_, hx⟩
  obtain ⟨j, rfl, h1, h2, q1⟩ := q1
  simp only [Rep] at p1
  subst p1
  exact ⟨j, rfl, by omega, by omega, fin _ _ S1 F1 H1 _ g1 r1 (itd_rng (by simp)) q1⟩
theorem ok_itR2 (c : Cok G J T L X) {m n : Ex} {e f tg : Expr} {p pos : Pos} (hg : glB X.env.scope ("range" : Str) = true) (hn : noStar e = true) (hn2 : noStar f = true) (h : Ok G J X W m e) (h' : Ok G J X W n f) :
    PI X tg (.Call (.Name "range" p) [e, f] [] pos) (tI G J X W (.rng2 m n)) := by
  obtain ⟨g1, g2⟩ := gl_of hg
  refine ⟨fun pins s σ H R I hw => (pi_range2 g1 (c.blt _ (by decide +kernel)) (pa_cons h.pe (pa_cons h'.pe pa_nil (star_cons hn2 _)) (star_cons hn _)) (by rw [star_cons hn, star_cons hn2]; rfl) (star_cons hn2 _)).run pins s σ H R I ?_⟩
  obtain ⟨ρ, S, F, Kd, E, hρ, hS, q, fin, hx⟩ := hw
  refine ⟨ρ, S, F, _, E, hρ, hS, q, fun d1 S1 F1 v1 H1 g1 r1 p1 q1 => ?_, hx⟩
  refine ⟨ρ, S1, F1, _, E, hρ.grow g1 hS, r1, q1, fun d2 S2 F2 v2 H2 g2 r2 p2 q2 => ?_, hx.grow g1⟩
  obtain ⟨i, j, rfl, rfl, h1, h2, h3, h4, q2⟩ := q2
  simp only [Rep] at p1 p2
  subst p1 p2
  exact ⟨i, j, rfl, ⟨by omega, by omega, by omega, by omega⟩, fin _ _ S2 F2 H2 _ (g1.trans g2) r2 (itd_rng rfl) q2⟩

/-! ### comprehensions -/
theorem fne {F : Fz} {a p : Addr} (hf : ¬ F p) (f : F a) : a ≠ p := fun z => by subst z; exact hf f
theorem RelS.out {F : Fz} {K : PySem.W.Frag} {H : Hp} {cl : Nat → Option Addr} {S : Sto} (r : RelS F K cl S H) {p : Addr} (hf : ¬ F p) (hs : S p = none) (o : HO) : RelS F K cl S (upd H p o) where
  ob := fun a u e => by
    have ne : a ≠ p := fun z => by subst z; rw [hs] at e; cases e
    exact (r.ob a u e).mono (fun b f => f) (fun b u f q => by rw [upd_ne (fne hf f)]; exact q) fun u q => by rw [upd_ne ne]; exact q
  nf := r.nf
  fh := fun a f => by
    rw [upd_ne (fne hf f)]; exact r.fh a f
theorem RepL.out {F : Fz} {K : PySem.W.Frag} {H : Hp} {xs : List D} {vs : List V} (h : RepL F K H xs vs) {p : Addr} (hf : ¬ F p) (o : HO) : RepL F K (upd H p o) xs vs :=
  h.mono (fun b f => f) fun b u f q => by rw [upd_ne (fne hf f)]; exact q
theorem Rep.out {F : Fz} {K : PySem.W.Frag} {H : Hp} {d : D} {v : V} (h : Rep F K H d v) {p : Addr} (hf : ¬ F p) (o : HO) : Rep F K (upd H p o) d v :=
  h.mono (fun b f => f) fun b u f q => by rw [upd_ne (fne hf f)]; exact q
/-- the list that is made -/
structure Mk (K : PySem.W.Frag) (cl : Nat → Option Addr) (S1 : Sto) (F1 : Fz) (H1 : Hp) (D' : Addr) (S2 : Sto) (F2 : Fz) (H2 : Hp) (acc : List D) (avs : List V) : Prop where
  g : Grow S1 F1 H1 S2 F2 H2
  r : RelS F2 K cl S2 H2
  nf : ¬ F2 D'
  ns : S2 D' = none
  at' : H2 D' = some (.lst avs)
  rep : RepL F2 K H2 acc avs
theorem Mk.grow {K : PySem.W.Frag} {cl : Nat → Option Addr} {S1 S2 S3 : Sto} {F1 F2 F3 : Fz} {H1 H2 H3 : Hp} {D' : Addr} {acc : List D} {avs : List V} (m : Mk K cl S1 F1 H1 D' S2 F2 H2 acc avs) (g : Grow S2 F2 H2 S3 F3 H3) (r : RelS F3 K cl S3 H3) :
    Mk K cl S1 F1 H1 D' S3 F3 H3 acc avs := by
  obtain ⟨k1, k2⟩ := g.keep D' _ m.at' m.ns
  refine ⟨m.g.trans g, r, fun z => ?_, k2, k1, m.rep.grow g m.r⟩
  rcases g.new D' z with z | z | z
  · exact m.nf z
  · rw [m.at'] at z; cases z
  · exact z m.ns
theorem Mk.push {K : PySem.W.Frag} {cl : Nat → Option Addr} {S1 S2 : Sto} {F1 F2 : Fz} {H1 H2 : Hp} {D' : Addr} {acc : List D} {avs : List V} (hD : H1 D' = none) (m : Mk K cl S1 F1 H1 D' S2 F2 H2 acc avs) {d : D} {v : V} (h : Rep F2 K H2 d v) :
    Mk K cl S1 F1 H1 D' S2 F2 (upd H2 D' (.lst (avs ++ [v]))) (acc ++ [d]) (avs ++ [v]) where
  g := ⟨m.g.fz, fun b o e k => by
    obtain ⟨k1, k2⟩ := m.g.keep b o e k
    exact ⟨by rw [upd_ne (ne_of_none e hD)]; exact k1, k2⟩, m.g.new⟩
  r := m.r.out m.nf m.ns _
  nf := m.nf
  ns := m.ns
  at' := upd_same
  rep := (m.rep.append (.one h)).out m.nf _
theorem Mk.fin {K : PySem.W.Frag} {cl : Nat → Option Addr} {S1 S2 : Sto} {F1 F2 : Fz} {H1 H2 : Hp} {D' : Addr} {acc : List D} {avs : List V} (hD : H1 D' = none) (m : Mk K cl S1 F1 H1 D' S2 F2 H2 acc avs) {mu : Bool} {Q : Post} {Qh : VK} (fin : Fin K cl S1 F1 H1 Q Qh) (q : newL mu acc S2 Q) : Qh (.ref D') H2 := by
  unfold newL at q
  cases mu with
  | true =>
    rw [if_pos rfl] at q
    refine fin (.ref D') (supd S2 D' (.lst acc)) F2 _ H2 ⟨m.g.fz, fun b o e k => ?_, m.g.new⟩ ⟨fun a u e => ?_, fun a f => ?_, m.r.fh⟩ (by simp [Rep]) (q D' m.ns)
    · obtain ⟨k1, k2⟩ := m.g.keep b o e k
      exact ⟨k1, by rw [supd_ne (ne_of_none e hD)]; exact k2⟩
    · by_cases ha : a = D'
      · subst ha
        rw [supd_same] at e; cases e
        exact ⟨avs, m.at', m.rep⟩
      · rw [supd_ne ha] at e
        exact m.r.ob a u e
    · rw [supd_ne (fne m.nf f)]; exact m.r.nf a f
  | false =>
    rw [if_neg Bool.false_ne_true] at q
    refine fin (.lst acc) S2 (fadd F2 D') _ H2 ⟨fun b f => .inl (m.g.fz b f), m.g.keep, fun b f => ?_⟩ ⟨fun a u e => (m.r.ob a u e).mono (fun b f => .inl f) (fun b u f q => q) fun u q => q, fun a f => ?_, fun a f => ?_⟩ ?_ q
    · rcases f with f | f
      · exact m.g.new b f
      · subst f; exact .inr (.inl hD)
    · rcases f with f | f
      · exact m.r.nf a f
      · subst f; exact m.ns
    · rcases f with f | f
      · exact m.r.fh a f
      · subst f; rw [m.at']; exact fun z => by cases z
    · simp only [Rep]
      exact ⟨D', avs, rfl, .inr rfl, m.at', m.rep.mono (fun b f => .inl f) fun b u f q => q⟩
theorem lcW_stab {src : Option Addr} {all : List D} {tg : Tg} {ρ : Rho} {el : Rho → Sto → (Option D → Sto → Prop) → Prop} {Kd : List D → Sto → Prop} {xs acc : List D} {S : Sto} (h : lcW src all tg ρ el Kd xs acc S) : Stab src all S := by
  cases xs <;> exact h.1
/-- the reading of a comprehension -/
theorem lc_read {m : Bool} {tg : Tg} {it : It} {own : List Nat} {el : Rho → Sto → (Option D → Sto → Prop) → Prop} {tt : TT} {te : TE} {σ : L2.St} {H : Hp} {Qh : VK} {ρ : Rho} {S : Sto} {F : Fz} {Q : Post} {E : XPost}
    (hti : tgIn own tg = true) (hρ : RelR J.hx F X.K H ρ σ) (hS : RelS F X.K J.cl S H)
    (hw : wpIt G it ρ S (fun src xs S1 => lcW src xs tg (wipeD ρ own) el (fun ys S4 => newL m ys S4 Q) xs [] S1) E) (fin : Fin X.K J.cl S F H Q Qh) (hx : FinX J X.K S F H E fun c d H' => W c d σ H')
    (step : ∀ (ρ1 : Rho) (S2 : Sto) (F2 : Fz) (H2 : Hp) (σ2 : L2.St) (Kk : Option D → Sto → Prop) (Kh : Option V → Hp → Prop), RelR J.hx F2 X.K H2 ρ1 σ2 → RelS F2 X.K J.cl S2 H2 → el ρ1 S2 Kk →
      (∀ d S3 F3 v H3, Grow S2 F2 H2 S3 F3 H3 → RelS F3 X.K J.cl S3 H3 → Rep F3 X.K H3 d v → Kk (some d) S3 → Kh (some v) H3) → (∀ S3 F3 H3, Grow S2 F2 H2 S3 F3 H3 → RelS F3 X.K J.cl S3 H3 → Kk none S3 → Kh none H3) →
      tt σ2 H2 fun b H3 => if b = true then te σ2 H3 fun y H4 => Kh (some y) H4 else Kh none H3) :
    tLc (tI G J X W it) (tG J X tg) tt te own σ H Qh := by
  refine ⟨ρ, S, F, _, E, hρ, hS, hw, fun src xs S1 F1 H1 I1 g1 r1 itd q1 => ?_, hx⟩
  intro D' hD
  have ne1 : S1 D' = none := r1.fresh hD
  have nf1 : ¬ F1 D' := fun f => r1.fh D' f hD
  refine ⟨fun i n H2 => n = xs.length - i ∧ i ≤ xs.length ∧ ∃ S2 F2 acc avs, Mk X.K J.cl S1 F1 H1 D' S2 F2 H2 acc avs ∧ lcW src xs tg (wipeD ρ own) el (fun ys S4 => newL m ys S4 Q) (xs.drop i) acc S2,
    ⟨xs.length, by simp, Nat.zero_le _, S1, F1, [], [], ⟨⟨fun _ f => f, fun b o e k => ⟨by rw [upd_ne (ne_of_none e hD)]; exact e, k⟩, fun _ f => .inl f⟩, r1.out nf1 ne1 _, nf1, ne1, upd_same, .nil⟩, by simpa using q1⟩, ?_⟩
  rintro i n H2 ⟨rfl, hi, S2, F2, acc, avs, mk, hlc⟩
  have st := lcW_stab hlc
  obtain ⟨i1, i2⟩ := itd S2 F2 H2 i mk.g.fz (fun b o f e => (mk.g.keep b o e (r1.nf b f)).1) mk.r st
  by_cases hlt : i < xs.length
  · have ed : xs.drop i = xs[i] :: xs.drop (i + 1) := List.drop_eq_getElem_cons hlt
    rw [ed] at hlc
    obtain ⟨_, hacc, ρ1, hset, hel⟩ := hlc
    obtain ⟨go, yl⟩ := i2 xs[i] (List.getElem?_eq_getElem hlt)
    refine .inr ⟨go, fun H3 => ∃ S3 F3 acc' avs', Mk X.K J.cl S1 F1 H1 D' S3 F3 H3 acc' avs' ∧ lcW src xs tg (wipeD ρ own) el (fun ys S4 => newL m ys S4 Q) (xs.drop (i + 1)) acc' S3,
      fun H3 ⟨S3, F3, acc', avs', m3, h3⟩ => ⟨xs.length - (i + 1), by omega, rfl, hlt, S3, F3, acc', avs', m3, h3⟩, fun x H3 y => ?_⟩
    obtain ⟨F3, g3, r3, p3⟩ := yl x H3 y
    have mk3 := mk.grow g3 r3
    refine ⟨wipeD ρ own, S2, F3, xs[i], ρ1, ((hρ.grow g1 hS).grow mk3.g r1).wipe own, r3, p3, hset, fun σ2 hσ2 hwp => ?_⟩
    have hww : L2.wipe σ2 own = L2.wipe σ own := by
      rw [hwp own hti]
      clear hwp hσ2
      have : ∀ (l : List Nat) (τ : L2.St), L2.wipe (L2.wipe τ l) l = L2.wipe τ l := by
        intro l
        induction l with
        | nil => intro τ; rfl
        | cons v vs ih =>
          intro τ
          show (L2.wipe ((L2.wipe τ vs).set v none) vs).set v none = (L2.wipe τ vs).set v none
          by_cases hv : v ∈ vs
          · rw [(wipe_set vs _ v none).1 hv, ih]
          · rw [(wipe_set vs _ v none).2 hv, ih, List.set_set]
      exact this own σ
    refine ⟨hww, ?_⟩
    have key := step ρ1 S2 F3 H3 σ2 _ (fun o H4 => match o with
      | some y => ∃ acc, H4 D' = some (.lst acc) ∧ acc.length < sizeLine ∧ ∃ S3 F3 acc' avs', Mk X.K J.cl S1 F1 H1 D' S3 F3 (upd H4 D' (.lst (acc ++ [y]))) acc' avs' ∧ lcW src xs tg (wipeD ρ own) el (fun ys S4 => newL m ys S4 Q) (xs.drop (i + 1)) acc' S3
      | none => ∃ S3 F3 acc' avs', Mk X.K J.cl S1 F1 H1 D' S3 F3 H4 acc' avs' ∧ lcW src xs tg (wipeD ρ own) el (fun ys S4 => newL m ys S4 Q) (xs.drop (i + 1)) acc' S3) hσ2 r3 hel
      (fun d S4 F4 v H4 g4 r4 p4 q4 => by
        have mk4 := mk3.grow g4 r4
        exact ⟨avs, mk4.at', by rw [← mk.rep.length]; exact hacc, S4, F4, acc ++ [d], avs ++ [v], mk4.push hD p4, q4⟩)
      (fun S4 F4 H4 g4 r4 q4 => ⟨S4, F4, acc, avs, mk3.grow g4 r4, q4⟩)
    exact key
  · have e : i = xs.length := by omega
    subst e
    rw [List.drop_length] at hlc
    refine .inl ⟨i1 (by simp), mk.fin hD (fin.grow g1) hlc.2⟩
end
end MP
/-! what a caught error tells: its fields, its classes -/
namespace MP
open PySem PySem.Spec PyProof.Rows L2
section
variable {G : GE} {J : JE} {T : NT} {L : Nat} {X : Cx} {W : WX}
theorem zip_look {F : Fz} {K : PySem.W.Frag} {H : Hp} : ∀ {fs : List D} {xfs : List (Str × V)} {f : Str} {d : D}, RepL F K H fs (xfs.map (·.2)) → ((xfs.map (·.1)).zip fs).lookup f = some d → ∃ v, xfs.lookup f = some v ∧ Rep F K H d v ∧ f ∈ xfs.map (·.1)
  | [], [], f, d, _, h => by simp at h
  | [], _ :: _, f, d, h, _ => by simp [RepL] at h
  | _ :: _, [], f, d, h, _ => by simp [RepL] at h
  | x :: fs, (g, v) :: xfs, f, d, h, e => by
    simp only [List.map_cons, RepL] at h
    obtain ⟨v', r, e1, h1, h2⟩ := h
    injection e1 with e1 e2
    subst e1; subst e2
    have e' : ((g, x) :: (xfs.map (·.1)).zip fs).lookup f = some d := e
    rw [lookup_put]
    by_cases q : f = g
    · subst q
      rw [List.lookup_cons_self] at e'
      cases e'
      exact ⟨v, by rw [if_pos rfl], h1, List.mem_cons_self ..⟩
    · have q' : (f == g) = false := by simpa using q
      rw [List.lookup_cons, q'] at e'
      obtain ⟨w, a1, a2, a3⟩ := zip_look h2 e'
      exact ⟨w, by rw [if_neg q]; exact a1, a2, List.mem_cons_of_mem _ a3⟩
theorem ok_exf (c : Cok G J T L X) {i : Nat} {f x : Str} {p pos : Pos} (hbl : T.bl = false) (ht : T.hot = some i) (e : X.N[i]? = some x) (hv : visB X.env.scope x = true) (hp : plainName x = true) : Ok G J X W (.exf i f) (.Attribute (.Name x p) f pos) := by
  unfold plainName at hp
  rw [Bool.and_eq_true] at hp
  refine Ok.val ⟨fun pins s σ H Qh I h => ?_⟩ fun _ => rfl
  obtain ⟨ρ, S, F, Q, E, hρ, hS, ⟨a', d', cc', ns', fs', d, hd, hl, q⟩, fin, hx⟩ := h
  obtain ⟨v, e1, e2, e3⟩ := hρ.2 i _ hd
  obtain ⟨X', a, d0, C, oe, pn, rfl, hz, hf, hh⟩ := (c.ht hbl i ht (List.getElem?_eq_some_iff.mp e).1).ex
  obtain ⟨cc, ns, fs, ee, hC, hno⟩ := hh _ e3
  cases ee
  simp only [Rep] at e2
  obtain ⟨rfl, hF, xfs, hxf, rfl, hr⟩ := e2
  obtain ⟨w, w1, w2, w3⟩ := zip_look hr hl
  have T1 := (c.xok cc' C hC).1
  refine (pe_xf (te := fun σ H Q => ∃ v, σ[i]? = some (some v) ∧ Q v H) T1 (hno f w3) hz.zc hf (pe_var e (vis_of hv) (by simpa using hp.1) (by simpa using hp.2)) rfl).run pins s σ H Qh I ?_
  exact ⟨_, e1, rfl, rfl, d', xfs, w, rfl, hxf, w1, fin.here hS w2 q⟩
/-- isinstance(e, c), e the exception that the suite holds, with its dict -/
theorem call_isD {X : Cx} {a D d0 : Addr} {oe : Obj} {pn : List (Addr × Obj)} (C : ExcC X.K D) (hz : Zc (.ref D) (some d0) oe) (hf : ∃ vs, oe.data = .fields vs) : CallR (X.suite a ((a, oe) :: pn)) (.builtin "isinstance") (fun xs H Q => (∃ fs, H d0 = some (.xd fs)) ∧ rIsE X.K D a xs H Q) := by
  intro pins s σ H xs us Q I r h
  obtain ⟨⟨fs, hxd⟩, c, cv, b, rfl, hcv, e, q⟩ := h
  cases r with
  | cons rx rr =>
    cases rr with
    | cons rt rr =>
      cases rr
      cases rx
      have ec := hcv _ rt
      subst ec
      obtain ⟨hget, _⟩ := I.pin (a, oe) (List.mem_append.mpr (.inl List.mem_cons_self))
      obtain ⟨vs, hv⟩ := hf
      have hx : ObjOk X.prog X.w H s.heap d0 (.xd fs) := I.hok d0 _ hxd
      obtain ⟨mA, hns, _⟩ := hx
      obtain ⟨od, ho, _⟩ := lookIn_ns hns
      have J : PySem.W.InstAt s.heap a oe D (some od) := ⟨hget, hz.1, by unfold PySem.W.notCls; rw [hv] <;> rfl, by rw [hz.2]; exact ho⟩
      obtain ⟨cd, hcd, _⟩ := PySem.W.any_some C.hd
      exact PySem.W.kia_one (PySem.W.kitx_exc (by rw [hcd]; rfl) C.hg C.hk C.hs C.ha C.hn C.ht C.hm) I.kIn J e (fun z => nomatch z) fun tk => ⟨.bl b, H, I.kept (t' := tk) fun _ _ z => z, rfl, q⟩
theorem ok_exis (c : Cok G J T L X) {i k : Nat} {x z : Str} {p p2 p3 pos : Pos} {ns : List Str} (hbl : T.bl = false) (ht : T.hot = some i) (hg : glB X.env.scope ("isinstance" : Str) = true) (e : X.N[i]? = some x) (hv : visB X.env.scope x = true) (hp : plainName x = true) (hk : T.excs[k]? = some (z, ns)) (hgz : glB X.env.scope z = true) :
    Ok G J X W (.exis i k) (.Call (.Name "isinstance" p) [.Name x p2, .Name z p3] [] pos) := by
  unfold plainName at hp
  rw [Bool.and_eq_true] at hp
  obtain ⟨g1, g2⟩ := gl_of hg
  obtain ⟨z1, z2⟩ := gl_of hgz
  obtain ⟨v, cv, hr1, hr2, hnm, hkit⟩ := c.xcs k z ns hk
  refine Ok.val ⟨fun pins s σ H Qh I h => ?_⟩ fun _ => rfl
  obtain ⟨ρ, S, F, Q, E, hρ, hS, ⟨a', d', cc', ns', fs', hd, q⟩, fin, hx⟩ := h
  obtain ⟨v0, e1, e2, e3⟩ := hρ.2 i _ hd
  have pz : PE X (.Name z p3) (tC v) := by
    rcases hnm with hm | ⟨hm, hb, hn⟩
    · exact pe_glob z1 hm hr1 z2
    · exact pe_bltn z1 hm hb hr1 hn z2
  have hblt := c.blt ("isinstance" : Str) (by decide +kernel)
  obtain ⟨X', a, d0, C, oe, pn, rfl, hz, hf, hh⟩ := (c.ht hbl i ht (List.getElem?_eq_some_iff.mp e).1).ex
  obtain ⟨cc, ns2, fs, ee, hC, hno⟩ := hh _ e3
  cases ee
  simp only [Rep] at e2
  obtain ⟨rfl, hF, xfs, hxf, rfl, hr⟩ := e2
  have T1 := (c.xok cc' C hC).2
  have kit := (hkit cc' C hC).2
  refine (pe_callB (call_isD T1 hz.zc hf) g1 hblt (by decide +kernel) (pa_cons (pe_var e (vis_of hv) (by simpa using hp.1) (by simpa using hp.2)) (pa_cons pz pa_nil rfl) rfl) (by decide) g2 rfl rfl).run pins s σ H Qh I ?_
  refine ⟨_, e1, ⟨xfs, hxf⟩, v, cv, _, rfl, hr2, kit, ?_⟩
  exact fin.here hS rep_bl q
end
end MP
/-! len({x: True for x in xs}): how many unlike ones -/
namespace MP
open PySem PySem.Spec PyProof.Rows L2
/-- an object as it stands -/
def xo (D : Addr) (o : Obj) : HO := .ext fun h => h.get? D = some o
theorem xo_ok {P : Program} {w : World} {H : Hp} {h : Heap} {D : Addr} {o : Obj} (e : h.get? D = some o) : ObjOk P w H h D (xo D o) := ⟨e, ⟨o, e⟩, fun _ _ e1 k => k o e1⟩
abbrev eD : Obj := { cls := .type "dict", data := .dict #[] }
/-- a dict's object, its keys -/
structure RawK (P : Program) (w : World) (o : Obj) (xs : List (NestedKey × Addr × Value)) : Prop where
  ex : o.ExactDict
  es : ∃ es ep, o.data = .dict es ep ∧ es.toList = xs.map (entryOfKey (nestedKind P w))
  nd : (xs.map (·.1)).Nodup
  sz : xs.length ≤ sizeLine
def NkA (P : Program) (w : World) (K : PySem.W.Frag) (H : Hp) (a : Addr) (k : NestedKey) : Prop := ∀ h : Heap, K.In h → HOk P w H h → (nestedKind P w).is h k a
section
variable {X : Cx} {pins : List (Addr × Obj)} {σ : L2.St} {H : Hp} {s : Shared} {E : Value → Shared → Prop}
theorem xo_get (I : Inv X pins σ H s) {D : Addr} {o : Obj} (h : H D = some (xo D o)) : s.heap.get? D = some o :=
  (show ObjOk X.prog X.w H s.heap D (xo D o) from I.hok D _ h).1
theorem nd_set {D a : Addr} {o : Obj} {xs : List (NestedKey × Addr × Value)} {k : NestedKey} {r : Value} {Q : Unit → Shared → Prop} (hu : X.A.units + 8 < cLine) (I : Inv X pins σ H s) (hD : H D = some (xo D o)) (raw : RawK X.prog X.w o xs)
    (hk : ∀ x ∈ xs, NkA X.prog X.w X.K H x.2.1 x.1) (ha : NkA X.prog X.w X.K H a k) (hz : xs.length < sizeLine)
    (h : ∀ s' o', RawK X.prog X.w o' (storedH xs k a r) → Inv X pins σ (upd H D (xo D o')) s' → Q () s') : wpAny (model X.prog X.w) X.A (dictSet D (.ref a) r) Q E s := by
  have e := xo_get I hD
  obtain ⟨es, ep, hd, he⟩ := raw.es
  have hm : s.heap.DictOfH (nestedKind X.prog X.w) D xs := ⟨o, es, ep, e, raw.ex, hd, he, fun x hx => hk x hx s.heap I.kIn I.hok, raw.nd⟩
  refine wpAny_dictSet_heap (hsz := raw.sz) hu (ha _ I.kIn I.hok) hm fun h' hm' hs => ?_
  obtain ⟨o', es', ep', e', ex', hd', he', _, nd'⟩ := hm'
  exact h _ o' ⟨ex', ⟨es', ep', hd', he'⟩, nd', by have := storedH_length xs k a r; omega⟩ (d_write I (by rw [hD]; exact True.intro) hs ⟨o', e'⟩ (xo_ok e'))
end
section
variable {X : Cx}
/-- {k: True for target in iter}: D the new dict -/
def tNd (X : Cx) (wi : TI) (g : TG) (tk : TE) (vs : List Nat) : TE := fun σ H Q => wi σ H fun J H1 => ∀ D, H1 D = none → (D == sysModules) = false → ∀ o, RawK X.prog X.w o [] → ∃ W : Nat → Nat → Hp → Prop, (∃ m, W 0 m (upd H1 D (xo D o))) ∧ ∀ i m H, W i m H →
  (J.stop i H ∧ Q (.ref D) H) ∨ (J.go i H ∧ ∃ Nx : Hp → Prop, (∀ H', Nx H' → ∃ m', m' < m ∧ W (i + 1) m' H') ∧ ∀ x H', J.yld i H x H' → g x (wipe σ vs) H' fun σ2 H2 => wipe σ2 vs = wipe σ vs ∧
    tk σ2 H2 fun y H5 => ∃ o xs k a, y = .ref a ∧ H5 D = some (xo D o) ∧ RawK X.prog X.w o xs ∧ xs.length < sizeLine ∧ (∀ x ∈ xs, NkA X.prog X.w X.K H5 x.2.1 x.1) ∧ NkA X.prog X.w X.K H5 a k ∧
      ∀ o', RawK X.prog X.w o' (storedH xs k a (.bool true)) → Nx (upd H5 D (xo D o')))
theorem nd_core {pins : List (Addr × Obj)} {s : Shared} {σ : L2.St} {H : Hp} {Q : VK} {kx tg iter : Expr} {scope : Scope} {own : List (Str × Nat)} {pos pos' vp : Pos} {vj : Nat} {wi : TI} {g : TG} {tk : TE} {use : Option (Value → Sem Unit)} {Qf : Value → Shared → Prop}
    (hc : X.calm = true) (hu : X.A.units + 8 < cLine) (hN : X.N.Nodup) (I : Inv X pins σ H s) (hi : PI X tg iter wi) (ok : BlkOk X.N X.env.scope scope own)
    (hg : ∀ (s : Shared) (H : Hp) (C : Addr) (cl : List (Str × Addr)) (fp : List Addr), PG (X.blk s H scope (compEnvC scope cl C X.env) fp) tg g)
    (hk : ∀ (s : Shared) (H : Hp) (C : Addr) (cl : List (Str × Addr)) (fp : List Addr), PE (X.blk s H scope (compEnvC scope cl C X.env) fp) kx tk)
    (hs : ∀ x, foldedSetIterable iter X.env x = pure x)
    (h : tNd X wi g tk (own.map (·.2)) σ H Q)
    (hRR : ∀ D C s' m H', Inv X pins σ H' s' → Q (.ref D) H' → s'.heap.Ns C m → FpOk X pins H' C → compPost (model X.prog X.w) X.A X.xe use Qf (.ref D) C (.ok .next) s') :
    wpAny (model X.prog X.w) X.A (comprehension (.DictComp kx (.Constant (.bool true) vj vp) [⟨tg, iter, [], 0⟩] scope pos) scope X.env pos' newDict false (eval iter X.env) use) Qf X.xe s := by
  have hfree : ∀ y ∈ scope.names, y.2 = .free → ∃ c, X.env.cells.lookup y.1 = some c := fun y hy e => by
    rcases ok.free y hy e with k | k
    · exact I.ok.has _ (.inl k)
    · exact I.ok.has _ (.inr k)
  refine wpAny_comprehension_free (use := use) rfl hs (closure_ok hfree) ok.kind (fun y hy e => by rw [ok.uniq y hy, e])
    (thn (hi.run pins s σ H _ I h) fun xv s1 hx => thn hx fun itv s2 h2 => ?_)
  obtain ⟨it, fp, tn, J, H2, e, I2, T, st2, f2, q⟩ := h2
  subst e
  refine wpAny_newObj_type (newEnv_comp ?_)
  generalize hD : s2.heap.objs.size = D
  have hDn : H2 D = none := I2.hok.fresh (Nat.le_of_eq hD)
  have hDs : (D == sysModules) = false := by
    rw [← hD]
    exact beq_eq_false_iff_ne.mpr (Ne.symm (Nat.ne_of_lt I2.big))
  have raw0 : RawK X.prog X.w eD [] := ⟨⟨rfl, rfl, rfl⟩, ⟨#[], 0, rfl, rfl⟩, List.nodup_nil, Nat.zero_le _⟩
  obtain ⟨W, ⟨m0, w0⟩, turn⟩ := q D hDn hDs eD raw0
  generalize hs3 : ({ s2 with heap := s2.heap.push eD } : Shared) = s3
  have I3 : Inv X pins σ (upd H2 D (xo D eD)) s3 := by
    rw [← hs3]
    refine I2.laid (t' := s2.toks) (fun b o e => Heap.get?_push_of_some _ e) (Nat.le_of_eq hD) ?_
    rw [← hD]
    exact xo_ok (Heap.get?_push_size _ rfl)
  have h3 : s3.heap = s2.heap.push eD := by rw [← hs3]
  have sz : ∀ b ∈ fp, b < s2.heap.objs.size := fun b hb => by
    obtain ⟨o, e, _⟩ := T.obj _ _ st2 b hb
    exact Heap.lt_size e
  have f3 : ∀ b ∈ fp, FpOk X pins (upd H2 D (xo D eD)) b ∧ b < s3.heap.objs.size := fun b hb => by
    have hlt := sz b hb
    refine ⟨⟨?_, (f2 b hb).2⟩, by rw [h3, Heap.size_push]; exact Nat.lt_succ_of_lt hlt⟩
    rw [upd_ne (by rw [← hD]; exact Nat.ne_of_lt hlt)]
    exact (f2 b hb).1
  have st3 : tn 0 s3.heap := T.keep _ _ _ st2 fun b _ o e => by rw [h3]; exact Heap.get?_push_of_some _ e
  have I4 := block_start I3 ok hN f3
  have pg := hg s3 (upd H2 D (xo D eD)) s3.heap.objs.size (cellsFrom (s3.heap.objs.size + 1) scope.names (cloFrom X.env.cells scope.names [])) fp
  have pk := hk s3 (upd H2 D (xo D eD)) s3.heap.objs.size (cellsFrom (s3.heap.objs.size + 1) scope.names (cloFrom X.env.cells scope.names [])) fp
  show codeAny _ _ (.compStart (.DictComp kx (.Constant (.bool true) vj vp) [⟨tg, iter, [], 0⟩] scope pos) 0 (.ref it) (.ref D) (compEnvC scope (cellsFrom (s3.heap.objs.size + 1) scope.names (cloFrom X.env.cells scope.names [])) s3.heap.objs.size X.env)) (compPost (model X.prog X.w) X.A X.xe use Qf (.ref D) s3.heap.objs.size) { s3 with heap := pushCells (s3.heap.push { cls := .type "dict", data := .dict #[] }) scope.names }
  have nfp : ∀ b ∈ fp, (upd H2 D (xo D eD)) b = none := fun b hb => (f3 b hb).1.1
  generalize hce : compEnvC scope (cellsFrom (s3.heap.objs.size + 1) scope.names (cloFrom X.env.cells scope.names [])) s3.heap.objs.size X.env = ce at I4 pg pk ⊢
  have cL : ce.locals = s3.heap.objs.size := by subst hce; rfl
  generalize hH3 : upd H2 D (xo D eD) = H3 at I3 I4 pg pk w0 nfp f3
  generalize hs4 : ({ s3 with heap := pushCells (s3.heap.push { cls := .type "dict", data := .dict #[] }) scope.names } : Shared) = s4 at I4 ⊢
  have st4 : tn 0 s4.heap := T.keep _ _ _ st3 fun b _ o e => by rw [← hs4]; exact pushCells_keeps _ _ _ _ (Heap.get?_push_of_some _ e)
  have stat : ∀ {σ' : L2.St} {H' : Hp} {s' : Shared}, Inv (X.blk s3 H3 scope ce fp) [] σ' H' s' → (∀ b ∈ fp, H' b = none) → ∀ b ∈ fp, FpOk (X.blk s3 H3 scope ce fp) [] H' b := fun {σ' H' s'} I' hn b hb =>
    ⟨hn b hb, (I'.ok.exf b hb).1, I'.ok.exfs b hb, .inl hb, fun x c e => (I'.ok.exf b hb).2 x c e, fun p hp => absurd (show p ∈ ([] : List (Addr × Obj)) ++ [] from hp) (by simp)⟩
  have loop : codeAny (model X.prog X.w) X.A (.compLoop (.DictComp kx (.Constant (.bool true) vj vp) [⟨tg, iter, [], 0⟩] scope pos) 0 (.ref it) (.ref D) ce) (compPost (model X.prog X.w) X.A X.xe use Qf (.ref D) s3.heap.objs.size) s4 := by
    refine compLoop_anyD (fun n s' => ∃ i H', Inv (X.blk s3 H3 scope ce fp) [] (wipe σ (own.map (·.2))) H' s' ∧ tn i s'.heap ∧ (∀ b ∈ fp, H' b = none) ∧ W i n H') ?_ m0 ⟨0, H3, I4, st4, nfp, w0⟩
    rintro n s5 ⟨i, H5, I5, st5, n5, w5⟩
    rcases turn i n H5 w5 with ⟨stop, qq⟩ | ⟨go, Nx, hNx, step⟩
    · have td := T.done (X.blk s3 H3 scope ce fp) rfl rfl rfl hc i [] s5 _ H5 (fun _ _ => False) I5 (stat I5 n5) st5 stop
      refine thnF td fun r s6 ⟨hr, I6⟩ => ?_
      subst hr
      have I7 : Inv X pins σ H5 s6 := I3.call' (ch := fp) I6.os I6.base I6.hok I6.bare fun b hb => ⟨(f3 b hb).1.2.2.2.1, (f3 b hb).1.2.1, (f3 b hb).1.2.2.2.2.1, (f3 b hb).1.2.2.2.2.2⟩
      have nC : H5 s3.heap.objs.size = none := by
        have z : H5 ce.locals = none := I6.free
        rw [cL] at z
        exact z
      obtain ⟨m, hn, _⟩ := I6.loc
      have hn : s6.heap.Ns ce.locals m := hn
      rw [cL] at hn
      exact hRR D s3.heap.objs.size s6 m H5 I7 qq hn (I3.fpOk (Nat.le_refl _) nC)
    · have ti := T.item (X.blk s3 H3 scope ce fp) rfl rfl rfl hc i [] s5 _ H5 (fun _ _ => False) I5 (stat I5 n5) st5 go
      refine thnF ti fun r s6 ⟨u, hr, h6⟩ => ?_
      subst hr
      refine thnF h6 fun _ s7 ⟨x, H7, I7, r7, y7, st7, n7⟩ => ?_
      have I7' := I7.pinned (stat I7 n7) (T.obj _ _ st7)
      refine thnF (pg.run _ s7 _ H7 x u _ I7' r7 (step x H7 y7)) fun _ s8 ⟨σ8, H8, I8, hw8, q8⟩ => ?_
      refine thnF ((pts_nil (X := X.blk s3 H3 scope ce fp)).run _ s8 σ8 H8 (fun b H' => b = true ∧ H' = H8) I8 ⟨rfl, rfl⟩) fun b s9 ⟨H9, I9, q9, eH⟩ => ?_
      subst q9 eH
      have fin : ∀ {s' : Shared} {H' : Hp}, Inv (X.blk s3 H3 scope ce fp) ([] ++ pinsAt fp s7.heap) σ8 H' s' → Nx H' → ∃ m, m < n ∧ ∃ i H', Inv (X.blk s3 H3 scope ce fp) [] (wipe σ (own.map (·.2))) H' s' ∧ tn i s'.heap ∧ (∀ b ∈ fp, H' b = none) ∧ W i m H' := fun {s' H'} I' nx => by
        obtain ⟨m', hm, w'⟩ := hNx H' nx
        have pin' : ∀ b ∈ fp, ∀ o, s7.heap.get? b = some o → s'.heap.get? b = some o ∧ H' b = none := fun b hb o e =>
          let z := I'.pin (b, o) (List.mem_append_right _ (List.mem_append_right _ (mem_pinsAt hb e)))
          ⟨z.1, z.2.1⟩
        have hl : (wipe σ (own.map (·.2))).length = σ8.length := by rw [← hw8, wipe_length]
        refine ⟨m', hm, i + 1, H', (I'.unpinned (pins := [])).weak hl (fun j v e => ?_), T.keep _ _ _ st7 fun b hb o e => (pin' b hb o e).1, fun b hb => ?_, w'⟩
        · rw [← hw8] at e
          exact (wipe_some e).1
        · obtain ⟨o, e, _⟩ := T.obj _ _ st7 b hb
          exact (pin' b hb o e).2
      simp only [if_true]
      refine thnF (pk.run _ s9 σ8 _ _ I9 q8) fun z s10 ⟨yk, H10, I10, r10, o, xs, k, a, ek, hD10, raw, hz, hks, hka, nx⟩ => ?_
      subst ek
      obtain rfl : z = Value.ref a := r10
      refine thnF ((pe_bl (X := X.blk s3 H3 scope ce fp) (b := true) (j := vj) (pos := vp)).run _ s10 σ8 H10 (fun v H' => v = .bl true ∧ H' = H10) I10 ⟨rfl, rfl⟩) fun z2 s11 ⟨yv, H11, I11, r11, e1, e2⟩ => ?_
      subst e1 e2
      obtain rfl : z2 = Value.bool true := r11
      exact nd_set (X := X.blk s3 H3 scope ce fp) hu I11 hD10 raw hks hka hz fun s12 o' raw' I12 => fin I12 (nx o' raw')
  exact codeAny_compStart_dict loop (T.self X.A 0 _ _ _ st4 loop)
theorem pe_nd {kx tg iter : Expr} {scope : Scope} {own : List (Str × Nat)} {pos vp : Pos} {vj : Nat} {wi : TI} {g : TG} {tk : TE} (hc : X.calm = true) (hu : X.A.units + 8 < cLine) (hN : X.N.Nodup) (hi : PI X tg iter wi) (ok : BlkOk X.N X.env.scope scope own)
    (hg : ∀ (s : Shared) (H : Hp) (C : Addr) (cl : List (Str × Addr)) (fp : List Addr), PG (X.blk s H scope (compEnvC scope cl C X.env) fp) tg g)
    (hk : ∀ (s : Shared) (H : Hp) (C : Addr) (cl : List (Str × Addr)) (fp : List Addr), PE (X.blk s H scope (compEnvC scope cl C X.env) fp) kx tk)
    (hs : ∀ x, foldedSetIterable iter X.env x = pure x := by intro _; rfl) :
    PE X (.DictComp kx (.Constant (.bool true) vj vp) [⟨tg, iter, [], 0⟩] scope pos) (tNd X wi g tk (own.map (·.2))) := by
  refine ⟨fun pins s σ H Q I h => ?_⟩
  rw [arm_eval_DictComp]
  refine nd_core hc hu hN I hi ok hg hk hs h fun D C s' m H' I' q hn f => ⟨m, hn, fun h'' sb => ?_⟩
  obtain ⟨f0, f1, f2, f3, f4, f5⟩ := f
  exact ⟨.ref D, H', I'.turned (t' := s'.toks) (fun b o hb e => (sb.2 b hb).trans e) f0 f1 f3 f4 f5, rfl, q⟩
/-- how many keys -/
theorem call_lenX : CallR X (.builtin "len") (fun xs H Q => ∃ D o ks, xs = [V.ref D] ∧ (D == sysModules) = false ∧ H D = some (xo D o) ∧ RawK X.prog X.w o ks ∧ Q (.int ks.length) H) := by
  intro pins s σ H xs us Q I r h
  obtain ⟨D, o, ks, rfl, hd, hD, raw, q⟩ := h
  obtain ⟨u, rfl, ru⟩ := vals1 r
  cases ru
  have e := xo_get I hD
  obtain ⟨es, ep, hdat, he⟩ := raw.es
  have hl : es.size = ks.length := size_of_entries he
  refine PyProof.Rows.call_len_slot (n := ks.length) (s := s) (show s.TypeIs (.ref D) "dict" from ⟨o, e, raw.ex.1⟩) F.slot_dict_len (fun Q' hq => call_len_raw hd (show s.heap.DictRaw D es ep from ⟨o, e, raw.ex, hdat⟩) ?_) (by omega) (by have := raw.sz; rw [sizeLine_eq] at this; omega) ?_
  · rw [hl]; exact hq
  · exact ⟨.int ks.length, H, I.tok _, ⟨_, rfl⟩, q⟩
end
end MP
/-! what the look is worth: how many unlike ones; comprehensions with two clauses; written dicts -/
namespace MP
open PySem PySem.Spec PyProof.Rows L2
/-! ### keys -/
mutual
def nkD : D → Option NestedKey
  | .non => some .none
  | .bl b => some (.num (if b = true then 1 else 0))
  | .int i => some (.num i)
  | .str s => some (.text (mkS s))
  | .tup xs => (nkL xs).map NestedKey.tup
  | _ => none
def nkL : List D → Option (List NestedKey)
  | [] => some []
  | x :: xs => (nkD x).bind fun k => (nkL xs).map (k :: ·)
end
mutual
theorem nk_of : ∀ d : D, hsh d = true → ∃ k, nkD d = some k ∧ k.depth ≤ dep d
  | .non, _ => ⟨_, rfl, Nat.zero_le _⟩
  | .bl _, _ => ⟨_, rfl, Nat.zero_le _⟩
  | .int _, _ => ⟨_, rfl, Nat.zero_le _⟩
  | .str _, _ => ⟨_, rfl, Nat.zero_le _⟩
  | .tup xs, h => by
    simp only [hsh] at h
    obtain ⟨ks, e, hd⟩ := nkL_of xs h
    exact ⟨.tup ks, by simp only [nkD, e, Option.map_some], by simp only [NestedKey.depth, dep]; omega⟩
  | .lst _, h => by simp [hsh] at h
  | .ref _, h => by simp [hsh] at h
  | .exc .., h => by simp [hsh] at h
  | .scr _, h => by simp [hsh] at h
  | .tpx _, h => by simp [hsh] at h
theorem nkL_of : ∀ xs : List D, hshL xs = true → ∃ ks, nkL xs = some ks ∧ NestedKey.depthAll ks ≤ depL xs
  | [], _ => ⟨[], rfl, Nat.zero_le _⟩
  | x :: xs, h => by
    simp only [hshL, Bool.and_eq_true] at h
    obtain ⟨k, e, hd⟩ := nk_of x h.1
    obtain ⟨ks, e2, hd2⟩ := nkL_of xs h.2
    exact ⟨k :: ks, by simp only [nkL, e, e2, Option.bind_some, Option.map_some], by simp only [NestedKey.depthAll, depL]; omega⟩
end
mutual
theorem nk_eq : ∀ (a b : D) (j k : NestedKey), nkD a = some j → nkD b = some k → (eqb a b = true ↔ j = k)
  | .non, b, j, k, h1, h2 => by
    cases b <;> simp only [nkD, Option.some.injEq, Option.map_eq_some_iff, reduceCtorEq] at h1 h2 <;> first | (subst h1; subst h2; simp [eqb]) | (obtain ⟨_, _, h2⟩ := h2; subst h1; subst h2; simp [eqb])
  | .bl x, b, j, k, h1, h2 => by
    cases b <;> simp only [nkD, Option.some.injEq, Option.map_eq_some_iff, reduceCtorEq] at h1 h2 <;> first | (subst h1; subst h2; simp [eqb]; try (rename_i y; cases x <;> cases y <;> decide)) | (obtain ⟨_, _, h2⟩ := h2; subst h1; subst h2; simp [eqb])
  | .int x, b, j, k, h1, h2 => by
    cases b <;> simp only [nkD, Option.some.injEq, Option.map_eq_some_iff, reduceCtorEq] at h1 h2 <;> first | (subst h1; subst h2; simp [eqb]) | (obtain ⟨_, _, h2⟩ := h2; subst h1; subst h2; simp [eqb])
  | .str x, b, j, k, h1, h2 => by
    cases b <;> simp only [nkD, Option.some.injEq, Option.map_eq_some_iff, reduceCtorEq] at h1 h2 <;> first
    | (subst h1; subst h2; simp [eqb]; exact ⟨fun e => by rw [e], fun e => mkS_inj e⟩)
    | (subst h1; subst h2; simp [eqb])
    | (obtain ⟨_, _, h2⟩ := h2; subst h1; subst h2; simp [eqb])
  | .tup xs, b, j, k, h1, h2 => by
    simp only [nkD, Option.map_eq_some_iff] at h1
    obtain ⟨ks, e1, h1⟩ := h1
    cases b <;> simp only [nkD, Option.some.injEq, Option.map_eq_some_iff, reduceCtorEq] at h2 <;> first
    | (subst h1; subst h2; simp [eqb])
    | (obtain ⟨ms, e2, h2⟩ := h2; subst h1; subst h2; simp only [eqb, NestedKey.tup.injEq]; exact nkL_eq xs _ ks ms e1 e2)
  | .lst _, b, j, k, h1, _ => by simp [nkD] at h1
  | .ref _, b, j, k, h1, _ => by simp [nkD] at h1
  | .exc .., b, j, k, h1, _ => by simp [nkD] at h1
  | .scr _, b, j, k, h1, _ => by simp [nkD] at h1
  | .tpx _, b, j, k, h1, _ => by simp [nkD] at h1
theorem nkL_eq : ∀ (xs ys : List D) (js ks : List NestedKey), nkL xs = some js → nkL ys = some ks → (eqbL xs ys = true ↔ js = ks)
  | [], ys, js, ks, h1, h2 => by
    simp only [nkL, Option.some.injEq] at h1
    subst h1
    cases ys with
    | nil => simp only [nkL, Option.some.injEq] at h2; subst h2; simp [eqbL]
    | cons y ys =>
      simp only [nkL, Option.bind_eq_some_iff, Option.map_eq_some_iff] at h2
      obtain ⟨_, _, _, _, h2⟩ := h2
      subst h2
      simp [eqbL]
  | x :: xs, ys, js, ks, h1, h2 => by
    simp only [nkL, Option.bind_eq_some_iff, Option.map_eq_some_iff] at h1
    obtain ⟨j, e1, js', e2, h1⟩ := h1
    subst h1
    cases ys with
    | nil => simp only [nkL, Option.some.injEq] at h2; subst h2; simp [eqbL]
    | cons y ys =>
      simp only [nkL, Option.bind_eq_some_iff, Option.map_eq_some_iff] at h2
      obtain ⟨k, f1, ks', f2, h2⟩ := h2
      subst h2
      simp only [eqbL, Bool.and_eq_true, List.cons.injEq]
      rw [nk_eq x y j k e1 f1, nkL_eq xs ys js' ks' e2 f2]
end
/-- a list of keys, one for each -/
def Keyed {κ : Type} (f : D → κ → Prop) (xs : List D) (ks : List κ) : Prop := Paired f xs ks
theorem dist_nodup {κ : Type} [DecidableEq κ] {f : D → κ → Prop} (he : ∀ a b j k, f a j → f b k → (eqb a b = true ↔ j = k)) : ∀ {xs : List D} {ks : List κ}, Paired f xs ks → distD xs = decide ks.Nodup
  | _, _, .nil => by simp [distD]
  | x :: xs, k :: ks, .cons h t => by
    have ih := dist_nodup he t
    have ha : ∀ {ys : List D} {ls : List κ}, Paired f ys ls → (ys.any fun y => eqb x y) = decide (k ∈ ls) := by
      intro ys ls p
      induction p with
      | nil => simp
      | cons h2 t2 ih2 =>
        rw [List.any_cons, ih2]
        have := he _ _ _ _ h h2
        rename_i y l ys' ls'
        by_cases e : k = l
        · rw [this.mpr e]; simp [e]
        · have : eqb x y = false := by
            cases h3 : eqb x y with
            | false => rfl
            | true => exact absurd (this.mp h3) e
          rw [this]; simp [e]
    rw [distD, ih, ha t]
    by_cases h1 : k ∈ ks <;> by_cases h2 : ks.Nodup <;> simp [h1, h2]
/-- keys so far -/
structure Cnt {κ : Type} (keys ks : List κ) : Prop where
  mem : ∀ k, k ∈ keys ↔ k ∈ ks
  le : keys.length ≤ ks.length
  eq : keys.length = ks.length ↔ ks.Nodup
theorem Cnt.nil {κ : Type} : Cnt ([] : List κ) [] := ⟨fun _ => Iff.rfl, Nat.le_refl _, ⟨fun _ => List.nodup_nil, fun _ => rfl⟩⟩
theorem Cnt.step {κ : Type} [DecidableEq κ] {keys ks keys' : List κ} {k : κ} (c : Cnt keys ks) (h : keys' = if k ∈ keys then keys else keys ++ [k]) : Cnt keys' (ks ++ [k]) := by
  subst h
  by_cases hk : k ∈ keys
  · rw [if_pos hk]
    have hk2 := (c.mem k).mp hk
    refine ⟨fun j => ?_, by have := c.le; simp; omega, ?_⟩
    · rw [c.mem j, List.mem_append, List.mem_singleton]
      exact ⟨.inl, fun h => h.elim id fun e => by rw [e]; exact hk2⟩
    · constructor
      · intro e; have := c.le; simp at e; omega
      · intro nd
        rw [List.nodup_append] at nd
        exact absurd rfl (nd.2.2 k hk2 k (List.mem_singleton.mpr rfl))
  · rw [if_neg hk]
    have hk2 : k ∉ ks := fun h => hk ((c.mem k).mpr h)
    refine ⟨fun j => ?_, by have := c.le; simp; omega, ?_⟩
    · rw [List.mem_append, List.mem_append, c.mem j]
    · rw [List.length_append, List.length_append, List.nodup_append]
      constructor
      · intro e
        refine ⟨c.eq.mp (by simpa using e), by simp, fun a ha b hb => ?_⟩
        rw [List.mem_singleton.mp hb]
        exact fun z => hk2 (z ▸ ha)
      · intro nd
        rw [c.eq.mpr nd.1]
theorem stored_keys {xs : List (NestedKey × Addr × Value)} {k : NestedKey} {a : Addr} {v : Value} : (storedH xs k a v).map (·.1) = if k ∈ xs.map (·.1) then xs.map (·.1) else xs.map (·.1) ++ [k] := by
  unfold storedH atKey
  by_cases h : k ∈ xs.map (·.1)
  · rw [if_pos h]
    have : ((xs.find? fun x => decide (x.1 = k)).map (·.2)).isSome = true := by
      obtain ⟨p, hp, e⟩ := List.mem_map.mp h
      rw [Option.isSome_map]
      exact List.find?_isSome.mpr ⟨p, hp, decide_eq_true e⟩
    rw [if_pos this, List.map_map]
    refine List.map_congr_left fun p _ => ?_
    show (putAt k v p).1 = p.1
    unfold putAt; split <;> rfl
  · rw [if_neg h]
    have : ((xs.find? fun x => decide (x.1 = k)).map (·.2)).isSome = false := by
      rw [Option.isSome_map]
      cases h2 : xs.find? fun x => decide (x.1 = k) with
      | none => rfl
      | some p => exact absurd (List.mem_map.mpr ⟨p, List.mem_of_find?_eq_some h2, by have := List.find?_some h2; simpa using this⟩) h
    rw [this]
    simp
theorem put_keys {κ : Type} [DecidableEq κ] {xs : List (κ × V)} {k : κ} {v : V} : (putK xs k v).map (·.1) = if k ∈ xs.map (·.1) then xs.map (·.1) else xs.map (·.1) ++ [k] := by
  unfold putK
  by_cases h : k ∈ xs.map (·.1)
  · rw [if_pos h]
    have : (xs.any fun kv => decide (kv.1 = k)) = true := by
      obtain ⟨p, hp, e⟩ := List.mem_map.mp h
      exact List.any_eq_true.mpr ⟨p, hp, decide_eq_true e⟩
    rw [if_pos this, List.map_map]
    refine List.map_congr_left fun p _ => ?_
    show (if p.1 = k then (p.1, v) else p).1 = p.1
    split <;> rfl
  · rw [if_neg h]
    have : ¬ (xs.any fun kv => decide (kv.1 = k)) = true := fun z => by
      obtain ⟨p, hp, e⟩ := List.any_eq_true.mp z
      exact h (List.mem_map.mpr ⟨p, hp, of_decide_eq_true e⟩)
    rw [if_neg this]
    simp
/-! ### a deep tuple as a key -/
theorem sqT_obj {P : Program} {w : World} {K : PySem.W.Frag} {H : Hp} {h : Heap} {a : Addr} {vs : List V} (kin : K.In h) (ok : HOk P w H h) (q : SqT K H a vs) : ∃ (o : Obj) (its : Array Value) (n : Nat), h.get? a = some o ∧ o.cls = .type "tuple" ∧ o.data = .seq its n ∧ Vals vs its.toList := by
  rcases q with q | ⟨o, its, n, hk, hc, hs, hz, r⟩
  · obtain ⟨z, its, r, o, e, hc, n, hd⟩ := q.ok ok
    exact ⟨o, its.toArray, n, e, hc, hd, by simpa using r⟩
  · exact ⟨o, its, n, kin a o hk, hc, hs, r⟩
mutual
theorem nk_is {P : Program} {w : World} {F : Fz} {K : PySem.W.Frag} {H : Hp} {h : Heap} (kin : K.In h) (ok : HOk P w H h) : ∀ (d : D) (v : V) (u : Value) (k : NestedKey), Rep F K H d v → RelV v u → nkD d = some k → NestedIs h k u
  | .non, v, u, k, r, ru, e => by
    simp only [Rep] at r; subst r
    simp only [nkD, Option.some.injEq] at e; subst e
    cases ru; exact .none
  | .bl b, v, u, k, r, ru, e => by
    simp only [Rep] at r; subst r
    simp only [nkD, Option.some.injEq] at e; subst e
    cases ru; exact .bool rfl
  | .int i, v, u, k, r, ru, e => by
    simp only [Rep] at r; subst r
    simp only [nkD, Option.some.injEq] at e; subst e
    obtain ⟨t, rfl⟩ := ru; exact .int _ _
  | .str s, v, u, k, r, ru, e => by
    simp only [Rep] at r
    obtain ⟨rfl, _⟩ := r
    simp only [nkD, Option.some.injEq] at e; subst e
    obtain ⟨t, rfl⟩ := ru; exact .text _ _
  | .tup xs, v, u, k, r, ru, e => by
    obtain ⟨a, vs, rfl, q, rl⟩ := r.tup
    simp only [nkD, Option.map_eq_some_iff] at e
    obtain ⟨ks, e, rfl⟩ := e
    obtain ⟨o, its, n, h1, h2, h3, h4⟩ := sqT_obj kin ok q
    cases ru
    exact .tup h1 h2 h3 (nkL_is kin ok xs vs its.toList ks rl h4 e)
  | .lst _, v, u, k, r, ru, e => by simp [nkD] at e
  | .ref _, v, u, k, r, ru, e => by simp [nkD] at e
  | .exc .., v, u, k, r, ru, e => by simp [nkD] at e
  | .scr _, v, u, k, r, ru, e => by simp [nkD] at e
  | .tpx _, v, u, k, r, ru, e => by simp [nkD] at e
theorem nkL_is {P : Program} {w : World} {F : Fz} {K : PySem.W.Frag} {H : Hp} {h : Heap} (kin : K.In h) (ok : HOk P w H h) : ∀ (ds : List D) (vs : List V) (us : List Value) (ks : List NestedKey), RepL F K H ds vs → Vals vs us → nkL ds = some ks → NestedAll h ks us
  | [], vs, us, ks, r, ru, e => by
    simp only [RepL] at r; subst r
    simp only [nkL, Option.some.injEq] at e; subst e
    cases ru; exact .nil
  | d :: ds, vs, us, ks, r, ru, e => by
    simp only [RepL] at r
    obtain ⟨v, r2, rfl, h1, h2⟩ := r
    simp only [nkL, Option.bind_eq_some_iff, Option.map_eq_some_iff] at e
    obtain ⟨k, e1, ks', e2, rfl⟩ := e
    cases ru with
    | cons q t => exact .cons (nk_is kin ok d v _ k h1 q e1) (nkL_is kin ok ds r2 _ ks' h2 t e2)
end
theorem nka_of {P : Program} {w : World} {F : Fz} {K : PySem.W.Frag} {H : Hp} {xs : List D} {a : Addr} {k : NestedKey} (r : Rep F K H (.tup xs) (.ref a)) (e : nkD (.tup xs) = some k) (hd : k.depth ≤ 8) : NkA P w K H a k :=
  fun h kin ok => ⟨nk_is kin ok _ _ _ k r rfl e, hd⟩
end MP
/-! what the look is worth: how many unlike ones (the reading) -/
namespace MP
open PySem PySem.Spec PyProof.Rows L2
abbrev W0' : WX := fun _ _ _ _ => False
section
variable {G : GE} {J : JE} {T : NT} {L : Nat} {X : Cx} {W : WX}
theorem grow_out {S1 : Sto} {F1 F2 : Fz} {H1 H2 : Hp} {D : Addr} (hD : H1 D = none) (g : Grow S1 F1 H1 S1 F2 H2) (o : HO) : Grow S1 F1 H1 S1 F2 (upd H2 D o) :=
  ⟨g.fz, fun b u e k => by
    obtain ⟨k1, k2⟩ := g.keep b u e k
    exact ⟨by rw [upd_ne (ne_of_none e hD)]; exact k1, k2⟩, g.new⟩
theorem nf_grow {S1 S2 : Sto} {F1 F2 : Fz} {H1 H2 : Hp} {D : Addr} (g : Grow S1 F1 H1 S2 F2 H2) (h1 : ¬ F1 D) (h2 : H1 D ≠ none) (h3 : S1 D = none) : ¬ F2 D := fun z => by
  rcases g.new D z with z | z | z
  · exact h1 z
  · exact h2 z
  · exact z h3
theorem wipe_wipe (l : List Nat) : ∀ (τ : L2.St), L2.wipe (L2.wipe τ l) l = L2.wipe τ l := by
  induction l with
  | nil => intro τ; rfl
  | cons v vs ih =>
    intro τ
    show (L2.wipe ((L2.wipe τ vs).set v none) vs).set v none = (L2.wipe τ vs).set v none
    by_cases hv : v ∈ vs
    · rw [(wipe_set vs _ v none).1 hv, ih]
    · rw [(wipe_set vs _ v none).2 hv, ih, List.set_set]
/-- the dict that is made, keys tuples -/
structure MkX (X : Cx) (cl : Nat → Option Addr) (S1 : Sto) (F1 : Fz) (H1 : Hp) (DD : Addr) (F2 : Fz) (H2 : Hp) (o : Obj) (ys : List (NestedKey × Addr × Value)) (dn : List D) : Prop where
  g : Grow S1 F1 H1 S1 F2 H2
  r : RelS F2 X.K cl S1 H2
  nf : ¬ F2 DD
  at' : H2 DD = some (xo DD o)
  raw : RawK X.prog X.w o ys
  kd : ∃ ks, Paired (fun d k => nkD d = some k) dn ks ∧ Cnt (ys.map (·.1)) ks
  ky : ∀ y ∈ ys, ∃ zs, Rep F2 X.K H2 (.tup zs) (.ref y.2.1) ∧ nkD (.tup zs) = some y.1 ∧ y.1.depth ≤ 8
theorem MkX.grow {cl : Nat → Option Addr} {S1 : Sto} {F1 F2 F3 : Fz} {H1 H2 H3 : Hp} {DD : Addr} {o : Obj} {ys : List (NestedKey × Addr × Value)} {dn : List D} (hS : S1 DD = none) (m : MkX X cl S1 F1 H1 DD F2 H2 o ys dn) (g : Grow S1 F2 H2 S1 F3 H3) (r : RelS F3 X.K cl S1 H3) :
    MkX X cl S1 F1 H1 DD F3 H3 o ys dn :=
  ⟨m.g.trans g, r, nf_grow g m.nf (by rw [m.at']; exact fun z => nomatch z) hS, (g.keep DD _ m.at' hS).1, m.raw, m.kd, fun y hy => let ⟨zs, a, b, c⟩ := m.ky y hy; ⟨zs, a.grow g m.r, b, c⟩⟩
theorem nd_read {j : Nat} {it : It} {own : List Nat} (hj : tgIn own (.nm j) = true) : ∀ σ H Qh, tE G J X W (.nd true j it own) σ H Qh →
    tCB (fun xs H Q => ∃ D o ks, xs = [V.ref D] ∧ (D == sysModules) = false ∧ H D = some (xo D o) ∧ RawK X.prog X.w o ks ∧ Q (.int ks.length) H) (tCons (tNd X (tI G J X W it) (tG J X (.nm j)) (tE G J X W0' (.var j)) own) tNil) σ H Qh := fun σ H Qh h => by
  obtain ⟨ρ, S, F, Q, E, hρ, hS, q, fin, hx⟩ := h
  refine ⟨ρ, S, F, _, E, hρ, hS, q, fun src xs S1 F1 H1 I1 g1 r1 itd q1 => ?_, hx⟩
  intro D hD hDs o raw0
  obtain ⟨st, hjl, hlen, hkeys, hq⟩ := q1
  have ne1 : S1 D = none := r1.fresh hD
  have nf1 : ¬ F1 D := fun f => r1.fh D f hD
  refine ⟨fun i n H2 => n = xs.length - i ∧ i ≤ xs.length ∧ ∃ F2 o ys, MkX X J.cl S1 F1 H1 D F2 H2 o ys (xs.take i),
    ⟨xs.length, by simp, Nat.zero_le _, F1, o, [], ⟨⟨fun _ f => f, fun b o e k => ⟨by rw [upd_ne (ne_of_none e hD)]; exact e, k⟩, fun _ f => .inl f⟩, r1.out nf1 ne1 _, nf1, upd_same, raw0, ⟨[], .nil, .nil⟩, fun _ h => by cases h⟩⟩, ?_⟩
  rintro i n H2 ⟨rfl, hi, F2, o, ys, mk⟩
  obtain ⟨i1, i2⟩ := itd S1 F2 H2 i mk.g.fz (fun b o f e => (mk.g.keep b o e (r1.nf b f)).1) mk.r st
  by_cases hlt : i < xs.length
  · obtain ⟨go, yl⟩ := i2 xs[i] (List.getElem?_eq_getElem hlt)
    obtain ⟨zs, hz, hzh, hzd⟩ : ∃ zs, xs[i] = .tup zs ∧ hshL zs = true ∧ dep (.tup zs) ≤ 8 := by
      have := hkeys xs[i] (List.getElem_mem hlt)
      cases hx : xs[i] with
      | tup zs =>
        rw [hx] at this
        simp only [keyB, Bool.and_eq_true, decide_eq_true_eq] at this
        exact ⟨zs, rfl, this.1, this.2⟩
      | _ => rw [hx] at this; exact Bool.noConfusion this
    obtain ⟨k, hk, hkd⟩ := nk_of (.tup zs) hzh
    refine .inr ⟨go, fun H3 => ∃ F3 o ys, MkX X J.cl S1 F1 H1 D F3 H3 o ys (xs.take (i + 1)), fun H3 ⟨F3, o, ys, m3⟩ => ⟨xs.length - (i + 1), by omega, rfl, hlt, F3, o, ys, m3⟩, fun x H3 y => ?_⟩
    obtain ⟨F3, g3, r3, p3⟩ := yl x H3 y
    have mk3 := mk.grow ne1 g3 r3
    refine ⟨wipeD ρ own, S1, F3, xs[i], (wipeD ρ own).set j (some xs[i]), ((hρ.grow g1 hS).grow mk3.g r1).wipe own, r3, p3, rfl, fun σ2 hσ2 hwp => ?_⟩
    refine ⟨by rw [hwp own hj, wipe_wipe], ?_⟩
    have hl : (wipeD ρ own).length = ρ.length := by
      have : ∀ l : List Nat, (wipeD ρ l).length = ρ.length := by
        intro l
        induction l with
        | nil => rfl
        | cons v vs ih => show ((wipeD ρ vs).set v none).length = _; rw [List.length_set]; exact ih
      exact this own
    refine ⟨_, S1, F3, fun y S => y = xs[i] ∧ S = S1, fun _ _ => False, hσ2, r3, ?_, fun d' S' F' v' H' g r p ⟨e1, e2⟩ => ?_, fun _ _ _ _ _ _ _ _ _ _ _ _ _ _ _ z => z.elim⟩
    · show ∃ d, ((wipeD ρ own).set j (some xs[i]))[j]? = some (some d) ∧ d = xs[i] ∧ S1 = S1
      exact ⟨xs[i], by rw [List.getElem?_set_self (by rw [hl]; exact hjl)], rfl, rfl⟩
    subst e1 e2
    have mk4 := mk3.grow ne1 g r
    rw [hz] at p
    obtain ⟨a, vs, rfl, hq1, hq2⟩ := p.tup
    obtain ⟨ks, kp, kc⟩ := mk4.kd
    have kl : ks.length = i := by
      have := kp.length
      rw [List.length_take] at this; omega
    have yl2 : ys.length ≤ i := by
      have := kc.le
      rw [List.length_map] at this; omega
    refine ⟨o, ys, k, a, rfl, mk4.at', mk4.raw, by omega, fun y hy => ?_, nka_of p hk (by omega), fun o' raw' => ?_⟩
    · obtain ⟨zs', b1, b2, b3⟩ := mk4.ky y hy
      exact nka_of b1 b2 b3
    refine ⟨F', o', _, ⟨grow_out hD mk4.g _, mk4.r.out mk4.nf ne1 _, mk4.nf, upd_same, raw', ⟨ks ++ [k], ?_, kc.step stored_keys⟩, fun y hy => ?_⟩⟩
    · rw [List.take_succ_eq_append_getElem hlt]
      have pa : ∀ {l : List MP.D} {m : List NestedKey}, Paired (fun d k => nkD d = some k) l m → Paired (fun d k => nkD d = some k) (l ++ [xs[i]]) (m ++ [k]) := by
        intro l m p
        induction p with
        | nil => exact .cons (by rw [hz]; exact hk) .nil
        | cons h _ ih => exact .cons h ih
      exact pa kp
    · rcases mem_storedH_key hy with ⟨y2, hy2, e1, e2⟩ | ⟨e1, e2⟩
      · obtain ⟨zs', b1, b2, b3⟩ := mk4.ky y2 hy2
        rw [e1, e2]
        exact ⟨zs', b1.out mk4.nf _, b2, b3⟩
      · rw [e1, e2]
        exact ⟨zs, p.out mk4.nf _, hk, by omega⟩
  · have e : i = xs.length := by omega
    subst e
    refine .inl ⟨i1 (by simp), D, o, ys, rfl, hDs, mk.at', mk.raw, ?_⟩
    obtain ⟨ks, kp, kc⟩ := mk.kd
    rw [List.take_length] at kp
    have kl : xs.length = ks.length := kp.length
    have hle := kc.le
    have heq := kc.eq
    rw [List.length_map] at hle heq
    refine (fin.grow g1) (.int ys.length) S1 F2 (.int ys.length) H2 mk.g mk.r rep_int (hq ys.length (by omega) ?_)
    rw [dist_nodup (f := fun d k => nkD d = some k) (fun a b j k h1 h2 => nk_eq a b j k h1 h2) kp, kl]
    by_cases e : ys.length = ks.length
    · rw [decide_eq_true e, decide_eq_true (heq.mp e)]
    · rw [decide_eq_false e, decide_eq_false fun z => e (heq.mpr z)]
/-! ### keys texts and ints -/
def kdD : D → Option L2.Key
  | .int i => some (.inl i)
  | .str s => some (.inr (mkS s))
  | _ => none
theorem kd_eq (a b : D) (j k : L2.Key) (h1 : kdD a = some j) (h2 : kdD b = some k) : eqb a b = true ↔ j = k := by
  cases a <;> simp only [kdD, Option.some.injEq, reduceCtorEq] at h1 <;> cases b <;> simp only [kdD, Option.some.injEq, reduceCtorEq] at h2 <;> subst h1 <;> subst h2 <;> simp [eqb]
  exact ⟨fun e => by rw [e], fun e => mkS_inj e⟩
structure MkF (X : Cx) (cl : Nat → Option Addr) (S1 : Sto) (F1 : Fz) (H1 : Hp) (DD : Addr) (F2 : Fz) (H2 : Hp) (ys : List (L2.Key × V)) (dn : List D) : Prop where
  g : Grow S1 F1 H1 S1 F2 H2
  r : RelS F2 X.K cl S1 H2
  nf : ¬ F2 DD
  at' : H2 DD = some (.dK ys)
  kd : ∃ ks, Paired (fun d k => kdD d = some k) dn ks ∧ Cnt (ys.map (·.1)) ks
theorem MkF.grow {cl : Nat → Option Addr} {S1 : Sto} {F1 F2 F3 : Fz} {H1 H2 H3 : Hp} {DD : Addr} {ys : List (L2.Key × V)} {dn : List D} (hS : S1 DD = none) (m : MkF X cl S1 F1 H1 DD F2 H2 ys dn) (g : Grow S1 F2 H2 S1 F3 H3) (r : RelS F3 X.K cl S1 H3) :
    MkF X cl S1 F1 H1 DD F3 H3 ys dn :=
  ⟨m.g.trans g, r, nf_grow g m.nf (by rw [m.at']; exact fun z => nomatch z) hS, (g.keep DD _ m.at' hS).1, m.kd⟩
theorem ndf_read {j : Nat} {it : It} {own : List Nat} (hj : tgIn own (.nm j) = true) : ∀ σ H Qh, tE G J X W (.nd false j it own) σ H Qh →
    tCB (fun xs H Q => ∃ a kvs, xs = [V.ref a] ∧ H a = some (.dK kvs) ∧ Q (.int kvs.length) H) (tCons (tDc (tI G J X W it) (tG J X (.nm j)) tYes (tE G J X W0' (.var j)) (tC (.bl true)) own) tNil) σ H Qh := fun σ H Qh h => by
  obtain ⟨ρ, S, F, Q, E, hρ, hS, q, fin, hx⟩ := h
  refine ⟨ρ, S, F, _, E, hρ, hS, q, fun src xs S1 F1 H1 I1 g1 r1 itd q1 => ?_, hx⟩
  intro D hD
  obtain ⟨st, hjl, hlen, hkeys, hq⟩ := q1
  have ne1 : S1 D = none := r1.fresh hD
  have nf1 : ¬ F1 D := fun f => r1.fh D f hD
  refine ⟨fun i n H2 => n = xs.length - i ∧ i ≤ xs.length ∧ ∃ F2 ys, MkF X J.cl S1 F1 H1 D F2 H2 ys (xs.take i),
    ⟨xs.length, by simp, Nat.zero_le _, F1, [], ⟨⟨fun _ f => f, fun b o e k => ⟨by rw [upd_ne (ne_of_none e hD)]; exact e, k⟩, fun _ f => .inl f⟩, r1.out nf1 ne1 _, nf1, upd_same, ⟨[], .nil, .nil⟩⟩⟩, ?_⟩
  rintro i n H2 ⟨rfl, hi, F2, ys, mk⟩
  obtain ⟨i1, i2⟩ := itd S1 F2 H2 i mk.g.fz (fun b o f e => (mk.g.keep b o e (r1.nf b f)).1) mk.r st
  by_cases hlt : i < xs.length
  · obtain ⟨go, yl⟩ := i2 xs[i] (List.getElem?_eq_getElem hlt)
    obtain ⟨k, hk, hv⟩ : ∃ k, kdD xs[i] = some k ∧ ∀ {F : Fz} {H : Hp} {v : V}, Rep F X.K H xs[i] v → v = kV k := by
      have := hkeys xs[i] (List.getElem_mem hlt)
      cases hx : xs[i] with
      | str s =>
        refine ⟨.inr (mkS s), rfl, fun {F H v} r => ?_⟩
        simp only [Rep] at r; exact r.1
      | int z =>
        refine ⟨.inl z, rfl, fun {F H v} r => ?_⟩
        simp only [Rep] at r; exact r
      | _ => rw [hx] at this; exact Bool.noConfusion this
    refine .inr ⟨go, fun H3 => ∃ F3 ys, MkF X J.cl S1 F1 H1 D F3 H3 ys (xs.take (i + 1)), fun H3 ⟨F3, ys, m3⟩ => ⟨xs.length - (i + 1), by omega, rfl, hlt, F3, ys, m3⟩, fun x H3 y => ?_⟩
    obtain ⟨F3, g3, r3, p3⟩ := yl x H3 y
    have mk3 := mk.grow ne1 g3 r3
    refine ⟨wipeD ρ own, S1, F3, xs[i], (wipeD ρ own).set j (some xs[i]), ((hρ.grow g1 hS).grow mk3.g r1).wipe own, r3, p3, rfl, fun σ2 hσ2 hwp => ?_⟩
    refine ⟨by rw [hwp own hj, wipe_wipe], ?_⟩
    have hl : (wipeD ρ own).length = ρ.length := by
      have : ∀ l : List Nat, (wipeD ρ l).length = ρ.length := by
        intro l
        induction l with
        | nil => rfl
        | cons v vs ih => show ((wipeD ρ vs).set v none).length = _; rw [List.length_set]; exact ih
      exact this own
    simp only [tYes, if_true]
    refine ⟨_, S1, F3, fun y S => y = xs[i] ∧ S = S1, fun _ _ => False, hσ2, r3, ?_, fun d' S' F' v' H' g r p ⟨e1, e2⟩ => ?_, fun _ _ _ _ _ _ _ _ _ _ _ _ _ _ _ z => z.elim⟩
    · show ∃ d, ((wipeD ρ own).set j (some xs[i]))[j]? = some (some d) ∧ d = xs[i] ∧ S1 = S1
      exact ⟨xs[i], by rw [List.getElem?_set_self (by rw [hl]; exact hjl)], rfl, rfl⟩
    subst e1 e2
    have mk4 := mk3.grow ne1 g r
    have ev := hv p
    obtain ⟨ks, kp, kc⟩ := mk4.kd
    have kl : ks.length = i := by
      have := kp.length
      rw [List.length_take] at this; omega
    have yl2 : ys.length ≤ i := by
      have := kc.le
      rw [List.length_map] at this; omega
    refine ⟨ys, k, ev, mk4.at', by omega, F', _, ⟨grow_out hD mk4.g _, mk4.r.out mk4.nf ne1 _, mk4.nf, upd_same, ⟨ks ++ [k], ?_, kc.step put_keys⟩⟩⟩
    rw [List.take_succ_eq_append_getElem hlt]
    have pa : ∀ {l : List MP.D} {m : List L2.Key}, Paired (fun d k => kdD d = some k) l m → Paired (fun d k => kdD d = some k) (l ++ [xs[i]]) (m ++ [k]) := by
      intro l m p
      induction p with
      | nil => exact .cons hk .nil
      | cons h _ ih => exact .cons h ih
    exact pa kp
  · have e : i = xs.length := by omega
    subst e
    refine .inl ⟨i1 (by simp), D, ys, rfl, mk.at', ?_⟩
    obtain ⟨ks, kp, kc⟩ := mk.kd
    rw [List.take_length] at kp
    have kl : xs.length = ks.length := kp.length
    have hle := kc.le
    have heq := kc.eq
    rw [List.length_map] at hle heq
    refine (fin.grow g1) (.int ys.length) S1 F2 (.int ys.length) H2 mk.g mk.r rep_int (hq ys.length (by omega) ?_)
    rw [dist_nodup (f := fun d k => kdD d = some k) (fun a b j k h1 h2 => kd_eq a b j k h1 h2) kp, kl]
    by_cases e : ys.length = ks.length
    · rw [decide_eq_true e, decide_eq_true (heq.mp e)]
    · rw [decide_eq_false e, decide_eq_false fun z => e (heq.mpr z)]
end
end MP
/-! what the look is worth: comprehensions with two clauses, written dicts (the readings) -/
namespace MP
open PySem PySem.Spec PyProof.Rows L2
section
variable {G : GE} {J : JE} {T : NT} {L : Nat} {X : Cx} {W : WX}
theorem RelR.out {hx : Nat → D → Prop} {F : Fz} {K : PySem.W.Frag} {H : Hp} {ρ : Rho} {σ : L2.St} (h : RelR hx F K H ρ σ) {p : Addr} (hf : ¬ F p) (o : HO) : RelR hx F K (upd H p o) ρ σ :=
  ⟨h.1, fun i d e => let ⟨v, e1, e2, e3⟩ := h.2 i d e; ⟨v, e1, e2.out hf o, e3⟩⟩
theorem lc2_read {m : Bool} {elt : Ex} {tg tg1 : Tg} {it it1 : It} {own own1 : List Nat} (hti : tgIn own tg = true) (hti1 : tgIn own1 tg1 = true) : ∀ σ H Qh, tE G J X W (.lc2 m elt tg it tg1 it1 own own1) σ H Qh →
    tLc2 (tI G J X W it) (tG J X tg) tYes (tI G J X W0' it1) (tG J X tg1) tYes (tE G J X W0' elt) own own1 σ H Qh := fun σ H Qh h => by
  obtain ⟨ρ, S, F, Q, E, hρ, hS, hw, fin, hx⟩ := h
  refine ⟨ρ, S, F, _, E, hρ, hS, hw, fun src xs S1 F1 H1 I1 g1 r1 itd q1 => ?_, hx⟩
  intro D' hD
  have ne1 : S1 D' = none := r1.fresh hD
  have nf1 : ¬ F1 D' := fun f => r1.fh D' f hD
  generalize hinn : (fun (ρ1 : Rho) (S2 : Sto) (acc : List D) (K : List D → Sto → Prop) => wpIt G it1 ρ1 S2 (fun src1 ys S3 => lcW src1 ys tg1 (wipeD ρ1 own1) (fun ρ2 S4 K2 => wpE G elt ρ2 S4 (fun y S5 => K2 (some y) S5) (fun _ _ => False)) K ys acc S3) (fun _ _ => False)) = inn at q1
  refine ⟨fun i n H2 => n = xs.length - i ∧ i ≤ xs.length ∧ ∃ S2 F2 acc avs, Mk X.K J.cl S1 F1 H1 D' S2 F2 H2 acc avs ∧ lc2W src xs tg (wipeD ρ own) inn (fun ys S4 => newL m ys S4 Q) (xs.drop i) acc S2,
    ⟨xs.length, by simp, Nat.zero_le _, S1, F1, [], [], ⟨⟨fun _ f => f, fun b o e k => ⟨by rw [upd_ne (ne_of_none e hD)]; exact e, k⟩, fun _ f => .inl f⟩, r1.out nf1 ne1 _, nf1, ne1, upd_same, .nil⟩, by simpa using q1⟩, ?_⟩
  rintro i n H2 ⟨rfl, hi, S2, F2, acc, avs, mk, hlc⟩
  have st : Stab src xs S2 := by cases h : xs.drop i <;> rw [h] at hlc <;> exact hlc.1
  obtain ⟨i1, i2⟩ := itd S2 F2 H2 i mk.g.fz (fun b o f e => (mk.g.keep b o e (r1.nf b f)).1) mk.r st
  by_cases hlt : i < xs.length
  · have ed : xs.drop i = xs[i] :: xs.drop (i + 1) := List.drop_eq_getElem_cons hlt
    rw [ed] at hlc
    obtain ⟨_, ρ1, hset, hin⟩ := hlc
    obtain ⟨go, yl⟩ := i2 xs[i] (List.getElem?_eq_getElem hlt)
    refine .inr ⟨go, fun H3 => ∃ S3 F3 acc' avs', Mk X.K J.cl S1 F1 H1 D' S3 F3 H3 acc' avs' ∧ lc2W src xs tg (wipeD ρ own) inn (fun ys S4 => newL m ys S4 Q) (xs.drop (i + 1)) acc' S3,
      fun H3 ⟨S3, F3, acc', avs', m3, h3⟩ => ⟨xs.length - (i + 1), by omega, rfl, hlt, S3, F3, acc', avs', m3, h3⟩, fun x H3 y => ?_⟩
    obtain ⟨F3, g3, r3, p3⟩ := yl x H3 y
    have mk3 := mk.grow g3 r3
    refine ⟨wipeD ρ own, S2, F3, xs[i], ρ1, ((hρ.grow g1 hS).grow mk3.g r1).wipe own, r3, p3, hset, fun σ2 hσ2 hwp => ?_⟩
    refine ⟨by rw [hwp own hti, wipe_wipe], ?_⟩
    simp only [tYes, if_true]
    rw [← hinn] at hin
    refine ⟨ρ1, S2, F3, _, _, hσ2, r3, hin, fun src1 ys S4 F4 H4 J1 g4 r4 itd1 q4 => ?_, fun _ _ _ _ _ _ _ _ _ _ _ _ _ _ _ z => z.elim⟩
    have mk4 := mk3.grow g4 r4
    refine ⟨fun j k H5 => k = ys.length - j ∧ j ≤ ys.length ∧ ∃ S5 F5 acc avs, Mk X.K J.cl S1 F1 H1 D' S5 F5 H5 acc avs ∧ RelR J.hx F5 X.K H5 ρ1 σ2 ∧ (∀ b, F4 b → F5 b) ∧ (∀ b o, F4 b → H4 b = some o → H5 b = some o) ∧
        lcW src1 ys tg1 (wipeD ρ1 own1) (fun ρ2 S4 K2 => wpE G elt ρ2 S4 (fun y S5 => K2 (some y) S5) (fun _ _ => False)) (fun acc' S1 => lc2W src xs tg (wipeD ρ own) inn (fun ys S4 => newL m ys S4 Q) (xs.drop (i + 1)) acc' S1) (ys.drop j) acc S5,
      ⟨ys.length, by simp, Nat.zero_le _, S4, F4, acc, avs, mk4, hσ2.grow g4 r3, fun _ f => f, fun _ _ _ e => e, by rw [List.drop_zero]; rw [hinn] at q4; exact q4⟩, ?_⟩
    rintro j k H5 ⟨rfl, hj, S5, F5, acc, avs, mk5, rel5, fF, fH, hlc5⟩
    have st5 := lcW_stab hlc5
    obtain ⟨j1, j2⟩ := itd1 S5 F5 H5 j fF fH mk5.r st5
    by_cases hjt : j < ys.length
    · have ed5 : ys.drop j = ys[j] :: ys.drop (j + 1) := List.drop_eq_getElem_cons hjt
      rw [ed5] at hlc5
      obtain ⟨_, hacc, ρ2, hset2, hel⟩ := hlc5
      obtain ⟨go5, yl5⟩ := j2 ys[j] (List.getElem?_eq_getElem hjt)
      refine .inr ⟨go5, fun H7 => ∃ S7 F7 acc avs, Mk X.K J.cl S1 F1 H1 D' S7 F7 H7 acc avs ∧ RelR J.hx F7 X.K H7 ρ1 σ2 ∧ (∀ b, F4 b → F7 b) ∧ (∀ b o, F4 b → H4 b = some o → H7 b = some o) ∧
          lcW src1 ys tg1 (wipeD ρ1 own1) (fun ρ2 S4 K2 => wpE G elt ρ2 S4 (fun y S5 => K2 (some y) S5) (fun _ _ => False)) (fun acc' S1 => lc2W src xs tg (wipeD ρ own) inn (fun ys S4 => newL m ys S4 Q) (xs.drop (i + 1)) acc' S1) (ys.drop (j + 1)) acc S7,
        fun H7 ⟨S7, F7, acc, avs, a1, a2, a3, a4, a5⟩ => ⟨ys.length - (j + 1), by omega, rfl, hjt, S7, F7, acc, avs, a1, a2, a3, a4, a5⟩, fun x5 H6 y5 => ?_⟩
      obtain ⟨F6, g6, r6, p6⟩ := yl5 x5 H6 y5
      have mk6 := mk5.grow g6 r6
      refine ⟨wipeD ρ1 own1, S5, F6, ys[j], ρ2, (rel5.grow g6 mk5.r).wipe own1, r6, p6, hset2, fun σ3 hσ3 hwp3 => ?_⟩
      refine ⟨by rw [hwp3 own1 hti1, wipe_wipe], ?_⟩
      simp only [if_true]
      refine ⟨ρ2, S5, F6, _, _, hσ3, r6, hel, fun d S7 F7 v H7 g7 r7 p7 q7 => ?_, fun _ _ _ _ _ _ _ _ _ _ _ _ _ _ _ z => z.elim⟩
      have mk7 := mk6.grow g7 r7
      have rl : avs.length = acc.length := mk5.rep.length.symm
      refine ⟨avs, mk7.at', by omega, S7, F7, acc ++ [d], avs ++ [v], mk7.push hD p7, ((rel5.grow g6 mk5.r).grow g7 r6).out mk7.nf _, fun b f => g7.fz b (g6.fz b (fF b f)), fun b o f e => ?_, q7⟩
      have f5 := fF b f
      have f6 := g6.fz b f5
      have hne : b ≠ D' := fun z => by
        subst z
        exact mk7.nf (g7.fz _ f6)
      rw [upd_ne hne]
      exact (g7.keep b o (g6.keep b o (fH b o f e) (mk5.r.nf b f5)).1 (r6.nf b f6)).1
    · have e : j = ys.length := by omega
      subst e
      rw [List.drop_length] at hlc5
      exact .inl ⟨j1 (by simp), S5, F5, acc, avs, mk5, hlc5.2⟩
  · have e : i = xs.length := by omega
    subst e
    rw [List.drop_length] at hlc
    refine .inl ⟨i1 (by simp), mk.fin hD (fin.grow g1) hlc.2⟩

/-! ### written dicts -/
/-- what a written dict's pairs ask -/
def trsOf (G : GE) (J : JE) (X : Cx) (W : WX) : List (List Nat) → List Ex → List (TE × TE)
  | k :: ks, m :: ms => (tC (.str (mkS k)), tE G J X W m) :: trsOf G J X W ks ms
  | _, _ => []
theorem pps_of {pos : Pos} : ∀ {ks : List (List Nat)} {ms : List Ex} {keys : List (Option Expr)} {vals : List Expr}, chkDk ks keys = true → OkL G J X W ms vals → ks.length = ms.length → PPs X pos keys vals (trsOf G J X W ks ms)
  | [], [], [], _, _, .nil, _ => pps_nil
  | [], [], _ :: _, _, h, .nil, _ => by simp [chkDk] at h
  | [], _ :: _, _, _, _, _, h => by simp at h
  | _ :: _, [], _, _, _, _, h => by simp at h
  | k :: ks, m :: ms, [], _, h, _, _ => by simp [chkDk] at h
  | k :: ks, m :: ms, o :: r, _, h, .cons hn h1 h2, hl => by
    unfold chkDk at h
    split at h
    · contradiction
    · rename_i k' ks' x j p r' e1 e2
      cases e1; cases e2
      simp only [Bool.and_eq_true, decide_eq_true_eq] at h
      obtain ⟨⟨h3, h4⟩, h5⟩ := h
      subst h3
      exact pps_cons pe_str h1.pe (pps_of h5 h2 (by simpa using hl))
    · cases h
theorem keys_some : ∀ {ks : List (List Nat)} {keys : List (Option Expr)}, chkDk ks keys = true → keys.all (·.isSome) = true ∧ keys.length = ks.length
  | [], [], _ => ⟨rfl, rfl⟩
  | [], _ :: _, h => by simp [chkDk] at h
  | _ :: _, [], h => by simp [chkDk] at h
  | k :: ks, o :: r, h => by
    unfold chkDk at h
    split at h
    · contradiction
    · rename_i k' ks' x j p r' e1 e2
      cases e1; cases e2
      simp only [Bool.and_eq_true] at h
      obtain ⟨a, b⟩ := keys_some h.2
      exact ⟨by rw [List.all_cons, a]; rfl, by simp [b]⟩
    · cases h
theorem pairs_read {σ : L2.St} {E : XPost} : ∀ {ks : List (List Nat)} {ms : List Ex} {ρ : Rho} {S : Sto} {F : Fz} {H : Hp} {Qd : List D → Sto → Prop} {K : List (V × V) → Hp → Prop}, ks.length = ms.length → RelR J.hx F X.K H ρ σ → RelS F X.K J.cl S H → wpEs G ms ρ S Qd E →
    FinX J X.K S F H E (fun c d H' => W c d σ H') → (∀ ds S' F' vs H', Grow S F H S' F' H' → RelS F' X.K J.cl S' H' → RepL F' X.K H' ds vs → Qd ds S' → K ((ks.map fun k => V.str (mkS k)).zip vs) H') → tPairs (trsOf G J X W ks ms) σ H K
  | [], [], ρ, S, F, H, Qd, K, _, hρ, hS, hw, hx, fin => by
    have hw : Qd [] S := by simpa only [wpEs] using hw
    exact fin [] S F [] H .refl hS .nil hw
  | [], _ :: _, _, _, _, _, _, _, h, _, _, _, _, _ => by simp at h
  | _ :: _, [], _, _, _, _, _, _, h, _, _, _, _, _ => by simp at h
  | k :: ks, m :: ms, ρ, S, F, H, Qd, K, hl, hρ, hS, hw, hx, fin => by
    simp only [wpEs] at hw
    show tE G J X W m σ H fun y H2 => tPairs (trsOf G J X W ks ms) σ H2 fun ps H3 => K ((V.str (mkS k), y) :: ps) H3
    refine ⟨ρ, S, F, _, E, hρ, hS, hw, fun d1 S1 F1 v1 H1 g1 r1 p1 q1 => ?_, hx⟩
    refine pairs_read (by simpa using hl) (hρ.grow g1 hS) r1 q1 (hx.grow g1) fun ds S2 F2 vs H2 g2 r2 p2 q2 => ?_
    exact fin (d1 :: ds) S2 F2 (v1 :: vs) H2 (g1.trans g2) r2 (.cons (p1.grow g2 r1) p2) q2
theorem merge_nodup : ∀ {more kvs : List (L2.Key × V)}, ((kvs ++ more).map (·.1)).Nodup → mergeK kvs more = kvs ++ more
  | [], kvs, _ => by simp [mergeK]
  | p :: r, kvs, h => by
    have hp : putK kvs p.1 p.2 = kvs ++ [p] := by
      unfold putK
      have : ¬ (kvs.any fun kv => decide (kv.1 = p.1)) = true := fun z => by
        obtain ⟨q, hq, e⟩ := List.any_eq_true.mp z
        have e := of_decide_eq_true e
        rw [List.map_append, List.map_cons, List.nodup_append] at h
        exact h.2.2 q.1 (List.mem_map.mpr ⟨q, hq, rfl⟩) p.1 (List.mem_cons_self ..) e
      rw [if_neg this]
    show mergeK (putK kvs p.1 p.2) r = _
    rw [hp, merge_nodup (by simpa using h)]
    simp
theorem zip_key : ∀ (ks : List (List Nat)) (vs : List V), (ks.map fun k => V.str (mkS k)).zip vs = ((ks.map fun k => (Sum.inr (mkS k) : L2.Key)).zip vs).map fun kv => (kV kv.1, kv.2)
  | [], _ => rfl
  | _ :: _, [] => rfl
  | k :: ks, v :: vs => by
    simp only [List.map_cons, List.zip_cons_cons, zip_key ks vs]
    rfl
theorem zip_fst {α β : Type} : ∀ {xs : List α} {ys : List β}, xs.length = ys.length → (xs.zip ys).map (·.1) = xs
  | [], [], _ => rfl
  | [], _ :: _, h => by simp at h
  | _ :: _, [], h => by simp at h
  | x :: xs, y :: ys, h => by simp [zip_fst (show xs.length = ys.length by simpa using h)]
theorem zip_snd {α β : Type} : ∀ {xs : List α} {ys : List β}, xs.length = ys.length → (xs.zip ys).map (·.2) = ys
  | [], [], _ => rfl
  | [], _ :: _, h => by simp at h
  | _ :: _, [], h => by simp at h
  | x :: xs, y :: ys, h => by simp [zip_snd (show xs.length = ys.length by simpa using h)]
theorem nodup_map {ks : List (List Nat)} (h : ks.Nodup) : (ks.map fun k => (Sum.inr (mkS k) : L2.Key)).Nodup := by
  induction ks with
  | nil => exact List.nodup_nil
  | cons k ks ih =>
    rw [List.nodup_cons] at h
    rw [List.map_cons, List.nodup_cons]
    refine ⟨fun z => ?_, ih h.2⟩
    obtain ⟨j, hj, e⟩ := List.mem_map.mp z
    exact h.1 (mkS_inj (Sum.inr.inj e) ▸ hj)
theorem ok_dsp {ks : List (List Nat)} {ms : List Ex} {keys : List (Option Expr)} {vals : List Expr} {pos : Pos} (hnd : ks.Nodup) (h0 : 0 < ks.length) (h15 : ks.length ≤ 15) (hl : ks.length = ms.length) (hk : chkDk ks keys = true) (h : OkL G J X W ms vals) :
    Ok G J X W (.dsp ks ms) (.Dict keys vals pos) := by
  obtain ⟨k1, k2⟩ := keys_some hk
  refine Ok.val ((pe_disp (pps_of hk h hl) k1 (by rw [k2, hl, h.len]) (fun e => by rw [e] at k2; simp at k2; omega) (by omega)).imp fun σ H Qh q => ?_) fun _ => rfl
  obtain ⟨ρ, S, F, Q, E, hρ, hS, hw, fin, hx⟩ := q
  intro p hp
  have ne1 : S p = none := hS.fresh hp
  have nf1 : ¬ F p := fun f => hS.fh p f hp
  have g0 : Grow S F H S F (upd H p (.dK [])) := ⟨fun _ f => f, fun b o e k => ⟨by rw [upd_ne (ne_of_none e hp)]; exact e, k⟩, fun _ f => .inl f⟩
  have r0 := hS.out nf1 ne1 (.dK [])
  refine pairs_read hl (hρ.out nf1 _) r0 hw (hx.grow g0) fun ds S2 F2 vs H2 g2 r2 p2 ⟨q0, q2⟩ => ?_
  obtain ⟨a1, a2⟩ := g2.keep p _ upd_same ne1
  have nf2 : ¬ F2 p := nf_grow g2 nf1 (by rw [upd_same]; exact fun z => nomatch z) ne1
  have hvl : ks.length = vs.length := by rw [← p2.length]; exact q0.symm
  refine ⟨a1, (ks.map fun k => (Sum.inr (mkS k) : L2.Key)).zip vs, zip_key ks vs, by rw [List.length_zip, List.length_map]; omega, ?_⟩
  have fst : (((ks.map fun k => (Sum.inr (mkS k) : L2.Key)).zip vs).map (·.1)) = ks.map fun k => (Sum.inr (mkS k) : L2.Key) := zip_fst (by simpa using hvl)
  rw [merge_nodup (kvs := []) (by rw [List.nil_append, fst]; exact nodup_map hnd), List.nil_append]
  refine fin (.ref p) (supd S2 p (.dct ((ks.map Sum.inr).zip ds))) F2 (.ref p) _ ⟨fun b f => g2.fz b f, fun b o e k => ?_, fun b f => ?_⟩ ⟨fun a u e => ?_, fun a f => ?_, fun a f => ?_⟩ (by simp [Rep]) (q2 p a2)
  · have hne := ne_of_none e hp
    obtain ⟨b1, b2⟩ := g2.keep b o (by rw [upd_ne hne]; exact e) k
    exact ⟨by rw [upd_ne hne]; exact b1, by rw [supd_ne hne]; exact b2⟩
  · rcases g2.new b f with z | z | z
    · exact .inl z
    · by_cases hb : b = p
      · subst hb; exact .inr (.inl hp)
      · rw [upd_ne hb] at z; exact .inr (.inl z)
    · exact .inr (.inr z)
  · by_cases ha : a = p
    · subst ha
      rw [supd_same] at e; cases e
      refine ⟨_, upd_same, ?_, ?_⟩
      · rw [fst]
        have : (((ks.map Sum.inr : List KD).zip ds).map fun p => keyV p.1) = (((ks.map Sum.inr : List KD).zip ds).map (·.1)).map keyV := by rw [List.map_map]; rfl
        rw [this, zip_fst (by simpa using q0.symm), List.map_map]
        rfl
      · rw [zip_snd (by simpa using q0.symm), zip_snd (by simpa using hvl)]
        exact p2.out nf2 _
    · rw [supd_ne ha] at e
      exact (r2.ob a u e).mono (fun b f => f) (fun b u f q => by rw [upd_ne (fne nf2 f)]; exact q) fun u q => by rw [upd_ne ha]; exact q
  · rw [supd_ne (fne nf2 f)]; exact r2.nf a f
  · rw [upd_ne (fne nf2 f)]; exact r2.fh a f
end
end MP
namespace MP
open PySem PySem.Spec PyProof.Rows L2
section
variable {prog : Program} {w : World} {A : Around} {E : Value → Shared → Prop} {s : Shared}
theorem adjust_rev (n : Nat) : Builtin.Slice.sliceAdjust none none (-1) (n : Int) = ((n : Int) - 1, -1) := by
  unfold Builtin.Slice.sliceAdjust
  simp
theorem places_rev (n : Nat) : Builtin.Slice.slicePlaces ((n : Int) - 1) (-1) (-1) = n := by
  unfold Builtin.Slice.slicePlaces
  have h1 : ¬ ((-1 : Int) > 0) := by omega
  simp only [h1, if_false]
  split <;> simp <;> omega
theorem sliceApplied_rev {sl : Addr} {vs : Value} {n : Nat} {Q : Int × Int × Nat → Shared → Prop} (hs : s.heap.IsSliceOf sl .none .none vs) (ps : IsPart vs (some (-1)))
    (h : Q ((n : Int) - 1, -1, n) s) : wpAny (model prog w) A (Builtin.Slice.sliceApplied (.ref sl) (pure (n : Int))) Q E s := by
  obtain ⟨os, hos, hcs, hds⟩ := id hs
  unfold Builtin.Slice.sliceApplied Builtin.Slice.sliceFields
  refine wpAny_bind (wpAny_bind (wpAny_field hos hds (x := .none) rfl (wpAny_bind (wpAny_field hos hds (x := .none) rfl (wpAny_bind (wpAny_field hos hds (x := vs) rfl (wpAny_pure ?_)))))))
  refine wpAny_bind (HT.slicePart_ ps ?_)
  show wpAny _ _ (if ((-1 : Int) == 0) = true then _ else _) _ _ s
  rw [if_neg (by decide)]
  refine wpAny_bind (HT.slicePart_ .none (wpAny_bind (HT.slicePart_ .none (wpAny_bind (wpAny_pure ?_)))))
  show wpAny _ _ (match Builtin.Slice.sliceAdjust none none (-1) (n : Int) with | (lo, hi) => pure (lo, (-1 : Int), Builtin.Slice.slicePlaces lo hi (-1))) _ _ s
  rw [adjust_rev n]
  show wpAny _ _ (pure (((n : Int) - 1), (-1 : Int), Builtin.Slice.slicePlaces ((n : Int) - 1) (-1) (-1))) _ _ s
  rw [places_rev]
  exact wpAny_pure h
theorem pick_rev (xs : Array Value) : ((List.range xs.size).filterMap fun (m : Nat) => xs[(((xs.size : Int) - 1) + (m : Int) * (-1)).toNat]?).toArray = xs.toList.reverse.toArray := by
  have e : ((List.range xs.size).filterMap fun (m : Nat) => xs[(((xs.size : Int) - 1) + (m : Int) * (-1)).toNat]?) = ((List.range xs.size).map fun k => xs.size - 1 - k).filterMap (xs[·]?) := by
    rw [List.filterMap_map]
    have cg : ∀ (l : List Nat) (f g : Nat → Option Value), (∀ m ∈ l, f m = g m) → l.filterMap f = l.filterMap g := fun l f g h => by
      induction l with
      | nil => rfl
      | cons a l ih => rw [List.filterMap_cons, List.filterMap_cons, h a (List.mem_cons_self ..), ih fun m hm => h m (List.mem_cons_of_mem _ hm)]
    refine cg _ _ _ fun m hm => ?_
    have := List.mem_range.mp hm
    have h2 : (((xs.size : Int) - 1) + (m : Int) * (-1)).toNat = xs.size - 1 - m := by omega
    show xs[(((xs.size : Int) - 1) + (m : Int) * (-1)).toNat]? = xs[xs.size - 1 - m]?
    rw [h2]
  rw [e, PySem.W.krv_range, List.filterMap_reverse, PySem.W.krv_all]
theorem getItem_tuple_rev {t sl : Addr} {items : Array Value} {vs : Value} {Q : Value → Shared → Prop} (ht : IsTup s.heap t items) (hs : s.heap.IsSliceOf sl .none .none vs) (ps : IsPart vs (some (-1)))
    (h : Q (.ref s.heap.objs.size) { s with heap := s.heap.push { cls := .type "tuple", data := .seq items.toList.reverse.toArray } })
    (hsz : items.size ≤ sizeLine) : wpAny (model prog w) A (getItem (.ref t) (.ref sl)) Q E s := by
  have htake : sizeOk (.seq items.toList.reverse.toArray) := by
    show items.toList.reverse.toArray.size ≤ sizeLine
    rw [List.size_toArray, List.length_reverse, Array.length_toList]
    exact hsz
  obtain ⟨os, hos, hcs, hds⟩ := id hs
  have hTs : s.TypeIs (.ref sl) "slice" := ⟨os, hos, hcs⟩
  unfold getItem
  try with_reducible refine wpAny_holding ?_
  first | refine wpAny_bind (wpAny_pure ?_) | skip
  refine wpAny_bind (wpAny_sequenceKey ht.typeIs (by decide) ?_)
  refine wpAny_bind (wpAny_callSpecial?_slot (name := Str.ofString "__getitem__") ht.typeIs PyProof.Rows.slot_tuple_getitem
    (wpAny_call_entry PyProof.Rows.slot_tuple_getitem ht.typeIs entry_tuple_getitem ?_ (args_tuple_getitem _ _)))
  show wpAny _ _ (Builtin.Tuple.tupleItemsOf (.ref t) >>= _) _ _ s
  refine wpAny_bind (PyProof.Rows.tupleItemsOf_ ht ?_)
  refine wpAny_bind (wpAny_typeOf hTs ?_)
  rw [if_pos (by decide)]
  refine wpAny_bind (sliceApplied_rev hs ps ?_)
  show wpAny _ _ (if (((items.size : Int) - 1) == 0 && (-1 : Int) == 1 && items.size == items.size) = true then _ else _) _ _ s
  rw [if_neg (by simp), pick_rev]
  first
    | exact wpAny_bind (m := Builtin.Tuple.tupleExact _) (wpAny_newObj_type (wpAny_pure ⟨_, rfl, wpAny_pure h⟩) htake)
    | exact wpAny_bind (m := Builtin.Tuple.tupleExact _) (wpAny_newObj_type (wpAny_bind (wpAny_pure (wpAny_pure ⟨_, rfl, wpAny_pure h⟩))) htake)
    | exact wpAny_bind (wpAny_bind (m := Builtin.Tuple.tupleExact _) (wpAny_newObj_type (wpAny_pure (wpAny_pure ⟨_, rfl, wpAny_pure h⟩)) htake))
    | exact wpAny_bind (wpAny_bind (m := Builtin.Tuple.tupleExact _) (wpAny_newObj_type (wpAny_pure ⟨_, rfl, wpAny_pure h⟩) htake))
end
section
variable {X : Cx}
/-- x[::-1], x a list or a tuple -/
theorem pe_rev {e : Expr} {te : TE} {k : Nat} {p1 p2 p3 pos : Pos} (he : PE X e te) : PE X (.Subscript e (.Slice none none (some (.UnaryOp .USub (.Constant (.int 1) k p1) p2)) p3) pos) (fun σ H Q => te σ H fun x H1 =>
    (∃ a xs, x = .ref a ∧ SqL X.K H1 a xs ∧ ∀ p, H1 p = none → Q (.ref p) (upd H1 p (.lst xs.reverse))) ∨ (∃ a xs, x = .ref a ∧ SqT X.K H1 a xs ∧ ∀ p, H1 p = none → Q (.ref p) (upd H1 p (.tup xs.reverse)))) := by
  refine ⟨fun pins s σ H Q I h => ?_⟩
  refine Subscript_ (thn (he.run pins s σ H _ I h) fun v s1 ⟨x, H1, I1, r1, q1⟩ => ?_)
  have hst : PO X (some (.UnaryOp .USub (.Constant (.int 1) k p1) p2)) (tPart (tUn (rU fun i => .int (-i)) (tC (.int 1)))) := po_some (pe_un un_neg pe_int)
  refine wpAny_Slice (thn (po_none.run pins s1 σ H1 (fun o H2 => o = none ∧ H2 = H1) I1 ⟨rfl, rfl⟩) fun vl s2 ⟨l, H2, I2, pl, el, e2⟩ => ?_)
  subst el e2
  refine thn (po_none.run pins s2 σ H2 (fun o H3 => o = none ∧ H3 = H2) I2 ⟨rfl, rfl⟩) fun vu s3 ⟨u, H3, I3, pu, eu, e3⟩ => ?_
  subst eu e3
  refine thn (hst.run pins s3 σ H3 (fun o H4 => o = some (-1) ∧ H4 = H3) I3 ⟨1, rfl, -1, rfl, rfl, rfl⟩) fun vs s4 ⟨o, H4, I4, ps, eo, e4⟩ => ?_
  subst eo e4
  have I5 : Inv X pins σ H4 { s4 with heap := s4.heap.push { cls := .type "slice", data := .fields #[vl, vu, vs] } } := I4.kept (t' := s4.toks) fun b ob q => Heap.get?_push_of_some _ q
  rcases q1 with ⟨a, xs, ex, hx, q⟩ | ⟨a, xs, ex, hx, q⟩
  · subst ex
    cases r1
    obtain ⟨its, r, ht, hz⟩ := I5.list hx
    have hlen := r.length
    show wpAny (model X.prog X.w) X.A (subscriptTail e (.Slice none none (some (.UnaryOp .USub (.Constant (.int 1) k p1) p2)) p3) (.ref a) (.ref s4.heap.objs.size)) (EP X pins σ Q) X.xe { s4 with heap := s4.heap.push { cls := .type "slice", data := .fields #[vl, vu, vs] } }
    refine tail_any (ops := [.ref a, .ref s4.heap.objs.size]) ht.isList.typeIs (PySem.slot_list_getitem.lookup) ?_ (by with_unfolding_all rfl)
    refine wpAny_getItem_list_slice ht.isList (Heap.IsSliceOf.new _ vl vu vs) pl pu ps (by decide) ?_ (by rw [List.size_toArray]; omega)
    rw [PySem.W.krv_pick]
    refine ⟨.ref _, _, I5.laid (t' := s4.toks) (o := .lst xs.reverse) (fun b ob q => Heap.get?_push_of_some _ q) (Nat.le_refl _) ?_, rfl, q _ (I5.hok.fresh (Nat.le_refl _))⟩
    exact ⟨by rw [List.length_reverse]; exact hz, _, 0, r.reverse, Heap.get?_push_size _ rfl⟩
  · subst ex
    cases r1
    obtain ⟨its, r, ht, hz⟩ := I5.tuple hx
    have hlen := r.length
    cases pl
    cases pu
    show wpAny (model X.prog X.w) X.A (subscriptTail e (.Slice none none (some (.UnaryOp .USub (.Constant (.int 1) k p1) p2)) p3) (.ref a) (.ref s4.heap.objs.size)) (EP X pins σ Q) X.xe { s4 with heap := s4.heap.push { cls := .type "slice", data := .fields #[.none, .none, vs] } }
    refine tail_any (ops := [.ref a, .ref s4.heap.objs.size]) ht.typeIs (PyProof.Rows.slot_tuple_getitem.lookup) ?_ (by with_unfolding_all rfl)
    refine getItem_tuple_rev ht (Heap.IsSliceOf.new _ .none .none vs) ps ?_ (by rw [List.size_toArray]; omega)
    refine ⟨.ref _, _, I5.laid (t' := s4.toks) (o := .tup xs.reverse) (fun b ob q => Heap.get?_push_of_some _ q) (Nat.le_refl _) ?_, rfl, q _ (I5.hok.fresh (Nat.le_refl _))⟩
    exact ⟨by rw [List.length_reverse]; exact hz, _, r.reverse, IsTup.new _ _⟩
end
section
variable {G : GE} {J : JE} {T : NT} {L : Nat} {X : Cx} {W : WX}
theorem ok_rev {m : Bool} {a : Ex} {l : Expr} {k : Nat} {p1 p2 p3 pos : Pos} (ha : Ok G J X W a l) : Ok G J X W (.rev m a) (.Subscript l (.Slice none none (some (.UnaryOp .USub (.Constant (.int 1) k p1) p2)) p3) pos) := by
  refine Ok.val ((pe_rev ha.pe).imp fun σ H Qh h => ?_) fun _ => rfl
  obtain ⟨ρ, S, F, Q, E, hρ, hS, q, fin, hx⟩ := h
  refine ⟨ρ, S, F, _, E, hρ, hS, q, fun d1 S1 F1 v1 H1 g1 r1 p1 q1 => ?_, hx⟩
  by_cases ht : ∃ ys, d1 = .tup ys
  · obtain ⟨ys, rfl⟩ := ht
    obtain ⟨a, ws, rfl, h1, h2⟩ := p1.tup
    exact .inr ⟨a, ws, rfl, h1, fun p hp => (fin.grow g1).tup r1 h2.reverse hp q1⟩
  · obtain ⟨xs, e, q⟩ : ∃ xs, listD S1 d1 = some xs ∧ newL m xs.reverse S1 Q := by
      cases d1 with
      | tup ys => exact absurd ⟨ys, rfl⟩ ht
      | _ => exact q1
    obtain ⟨a, ws, rfl, h1, h2⟩ := listD_at r1 p1 e
    exact .inl ⟨a, ws, rfl, SqL.of h1, fun p hp => (fin.grow g1).lst r1 h2.reverse hp q⟩
end
end MP
/-! tuples that are known through and through: tuple(list), t.index(x) -/
namespace MP
open PySem PySem.Spec PyProof.Rows L2
section
variable {F : Fz} {K : PySem.W.Frag} {H : Hp} {cl : Nat → Option Addr} {S : Sto}
theorem Fin.tpx {Q : Post} {Qh : VK} {xs : List D} {vs : List V} {p : Addr} {o : Obj} (f : Fin K cl S F H Q Qh) (r : RelS F K cl S H) (h : RepL F K H xs vs) (hp : H p = none) (hd : o.dict = none) (q : Q (.tpx xs) S) : Qh (.ref p) (upd H p (.frz o (.tup vs))) := by
  refine f _ S (fadd F p) _ _ (grow_new hp _) (r.new hp _) ?_ q
  simp only [Rep]
  exact ⟨p, vs, o, rfl, .inr rfl, upd_same, hd, h.mono (fun b f => .inl f) fun b u _ e => by rw [upd_ne (ne_of_none e hp)]; exact e⟩
end
section
variable {X : Cx} {cl : Nat → Option Addr}
theorem call_tupN : CallR X (.type "tuple") (fun xs H Q => ∃ p ys, xs = [.ref p] ∧ SqL X.K H p ys ∧ ∀ (l : Addr) (o : Obj), o.dict = none → H l = none → Q (.ref l) (upd H l (.frz o (.tup ys)))) := by
  intro pins s σ H xs us Q I r h
  obtain ⟨p, ys, rfl, hq, q⟩ := h
  obtain ⟨u, rfl, rx⟩ := vals1 r
  cases rx
  obtain ⟨its, r', pl, hz⟩ := I.list hq
  have hlen := r'.length
  refine call_tuple_list pl.isList (fun h' kp => ?_) (by simp only [List.size_toArray] <;> omega)
  have I1 : Inv X pins σ H { s with heap := h' } := I.kept (t' := s.toks) kp
  refine ⟨.ref h'.objs.size, upd H h'.objs.size (.frz { cls := .type "tuple", data := .seq its.toArray } (.tup ys)), ?_, rfl, q _ _ rfl (I1.hok.fresh (Nat.le_refl _))⟩
  exact I1.laid (t' := s.toks) (fun b o e => Heap.get?_push_of_some _ e) (Nat.le_refl _) ⟨Heap.get?_push_size _ rfl, hz, its, r', IsTup.new _ _⟩
theorem b_tpn : CallR X (.type "tuple") (rlD X.K cl fun vs S Q => ∃ x xs, vs = [x] ∧ listD S x = some xs ∧ Q (.tpx xs) S) := by
  intro pins s σ H vs us Qh I r h
  obtain ⟨ds, S, F, Q, hv, rs, ⟨x, xs, rfl, e, q⟩, fin⟩ := h
  obtain ⟨v, rfl, hx⟩ := hv.one_iff
  obtain ⟨a, ws, rfl, h1, h2⟩ := listD_at rs hx e
  exact call_tupN pins s σ H _ _ _ I r ⟨a, ws, rfl, SqL.of h1, fun l o hd hl => fin.tpx rs h2 hl hd q⟩
end
section
variable {G : GE} {J : JE} {T : NT} {L : Nat} {X : Cx} {W : WX}
theorem ok_tpn (c : Cok G J T L X) {a : Ex} {y : Expr} {p pos : Pos} (hg : glB X.env.scope ("tuple" : Str) = true) (hn : noStar y = true) (ha : Ok G J X W a y) : Ok G J X W (.tpn a) (.Call (.Name "tuple" p) [y] [] pos) := by
  obtain ⟨g1, g2⟩ := gl_of hg
  have hh : OkL G J X W [a] [y] := .cons hn ha .nil
  refine Ok.val ((pe_callTy (b_tpn (cl := J.cl)) g1 (c.blt _ (by decide +kernel)) (by decide +kernel) hh.pa (by decide +kernel) g2 (star_cons hn _) rfl).imp fun σ H Qh h => ?_) fun _ => rfl
  obtain ⟨ρ, S, F, Q, E, hρ, hS, q, fin, hx⟩ := h
  refine ⟨ρ, S, F, (fun xs S1 => ∃ x ys, xs = [x] ∧ listD S1 x = some ys ∧ Q (.tpx ys) S1), E, hρ, hS, ?_, fun ds S1 F1 vs H1 g1 r1 p1 q1 => ⟨ds, S1, F1, Q, p1, r1, q1, fin.grow g1⟩, hx⟩
  have q' : wpE G a ρ S (fun x S1 => ∃ xs, listD S1 x = some xs ∧ Q (.tpx xs) S1) E := q
  have e : (fun (x : D) (S1 : Sto) => ∃ xs, listD S1 x = some xs ∧ Q (.tpx xs) S1) = fun x S1 => ∃ x' ys, [x] = [x'] ∧ listD S1 x' = some ys ∧ Q (.tpx ys) S1 := by
    funext x S1
    refine propext ⟨fun ⟨ys, e1, q⟩ => ⟨x, ys, rfl, e1, q⟩, fun ⟨x', ys, e0, e1, q⟩ => ?_⟩
    cases e0
    exact ⟨ys, e1, q⟩
  rw [e] at q'
  exact q'
theorem rgV_rep {F : Fz} {K : PySem.W.Frag} {H : Hp} (a b : Int) : RepL F K H ((List.range (b - a).toNat).map fun (k : Nat) => D.int (a + (k : Int))) (rgV a b) := by
  unfold rgV
  generalize List.range (b - a).toNat = l
  induction l with
  | nil => exact .nil
  | cons c l ih => exact .cons rep_int ih
theorem ok_lrg1 (c : Cok G J T L X) (ht : T.hot = none) {m : Bool} {b : Ex} {y : Expr} {p z q pos : Pos} (hg : glB X.env.scope ("list" : Str) = true) (hr : glB X.env.scope ("range" : Str) = true) (hn : noStar y = true) (hb : Ok G J X W b y) : Ok G J X W (.lrg1 m b) (.Call (.Name "list" p) [.Call (.Name "range" z) [y] [] q] [] pos) := by
  refine Ok.val ((pe_listRg (c.calm ht) (gl_of hg).1 (c.blt _ (by decide +kernel)) (prg_1 (gl_of hr).1 (c.blt _ (by decide +kernel)) hb.pe (star_cons hn _))).imp fun σ H Qh h => ?_) fun _ => rfl
  obtain ⟨ρ, S, F, Q, E, hρ, hS, q, fin, hx⟩ := h
  refine ⟨ρ, S, F, _, E, hρ, hS, q, fun d1 S1 F1 v1 H1 g1 r1 p1 q1 => ?_, hx⟩
  obtain ⟨j, rfl, h0, h1, q1⟩ := q1
  simp only [Rep] at p1
  refine ⟨j, p1, RgOk.of_le (Int.le_refl _) h1 (by omega) h0, fun l hl => ?_⟩
  have := rgV_rep (F := F1) (K := X.K) (H := H1) 0 j
  simp only [Int.sub_zero, Int.zero_add] at this
  exact (fin.grow g1).lst r1 this hl q1
theorem ok_lrg2 (c : Cok G J T L X) (ht : T.hot = none) {m : Bool} {a b : Ex} {y u : Expr} {p z q pos : Pos} (hg : glB X.env.scope ("list" : Str) = true) (hr : glB X.env.scope ("range" : Str) = true) (hn : noStar y = true) (hn2 : noStar u = true) (ha : Ok G J X W a y) (hb : Ok G J X W b u) :
    Ok G J X W (.lrg2 m a b) (.Call (.Name "list" p) [.Call (.Name "range" z) [y, u] [] q] [] pos) := by
  refine Ok.val ((pe_listRg (c.calm ht) (gl_of hg).1 (c.blt _ (by decide +kernel)) (prg_2 (gl_of hr).1 (c.blt _ (by decide +kernel)) ha.pe hb.pe (star_cons hn _) (star_cons hn2 _) (by rw [star_cons hn2]; rfl))).imp fun σ H Qh h => ?_) fun _ => rfl
  obtain ⟨ρ, S, F, Q, E, hρ, hS, q, fin, hx⟩ := h
  refine ⟨ρ, S, F, _, E, hρ, hS, q, fun d1 S1 F1 v1 H1 g1 r1 p1 q1 => ?_, hx⟩
  refine ⟨ρ, S1, F1, _, E, hρ.grow g1 hS, r1, q1, fun d2 S2 F2 v2 H2 g2 r2 p2 q2 => ?_, hx.grow g1⟩
  obtain ⟨i, j, rfl, rfl, h0, h1, h2, h3, q2⟩ := q2
  simp only [Rep] at p1 p2
  exact ⟨i, j, p1, p2, RgOk.of_le h0 h3 h1 h2, fun l hl => (fin.grow (g1.trans g2)).lst r2 (rgV_rep i j) hl q2⟩
theorem ok_tix (c : Cok G J T L X) {i : Nat} {a : Ex} {x : Str} {y : Expr} {p apos pos : Pos} (e : X.N[i]? = some x) (hv : visB X.env.scope x = true) (hp : plainName x = true) (hl : (apos.endLine == pos.line) = true) (hn : noStar y = true) (ha : Ok G J X W a y) :
    Ok G J X W (.tix i a) (.Call (.Attribute (.Name x p) "index" apos) [y] [] pos) := by
  unfold plainName at hp
  rw [Bool.and_eq_true] at hp
  have hh : OkL G J X W [a] [y] := .cons hn ha .nil
  have few : ((backTo pos (starEach [y] X.env)).all (fun x => !x.1) && (backToKw pos (keywordEach [] X.env)).all (fun x => x.1.isSome)
      && decide ([y].length + ([] : List Keyword).length + (if ([] : List Keyword).isEmpty then 0 else 1) < 30)) = true := by
    rw [(hh.star pos X.env).2]
    simp [backToKw, keywordEach]
  refine Ok.val ⟨fun pins s σ H Qh I h => ?_⟩ fun _ => rfl
  obtain ⟨ρ, S, F, Q, E, hρ, hS, ⟨xs, hd, q⟩, fin, hx⟩ := h
  obtain ⟨v, e1, e2, _⟩ := hρ.2 i _ hd
  refine wpAny_Call_method_late (base_of (o := .Name x p) rfl _ _) few hl rfl (thn ((pe_var e (vis_of hv) (by simpa using hp.1) (by simpa using hp.2)).run pins s σ H (fun v' H' => v' = v ∧ H' = H) I ⟨v, e1, rfl, rfl⟩) fun v0 s1 ⟨v', H1, I1, r1, hv1, hH1⟩ => ?_)
  subst hv1
  subst hH1
  obtain ⟨b, vs, o, rfl, f, hb, hod, hr⟩ := e2.tpx
  cases r1
  obtain ⟨ho, _, its, _, ob, hob, hcl, _⟩ := I1.hok b _ hb
  rw [ho] at hob
  cases hob
  refine ⟨"tuple", "tuple.index", PySem.F.plainAttrs_tuple, PySem.F.slot_tuple_index, PySem.F.type_tuple_index, ⟨o, ho, hcl⟩, fun a' e' => (by cases e'; exact ⟨o, ho, hod⟩), ?_⟩
  have h2 : tL G J X W [a] σ H1 fun ds H2 => rmD X.K J.cl (methR .tindex) (.ref b) ds H2 Qh :=
    ⟨ρ, S, F, (fun zs S1 => methR .tindex (.tup xs) zs S1 Q), E, hρ, hS, q, fun ds S1 F1 ws H2 g r p q1 => ⟨.tup xs, ds, S1, F1, Q, e2.soft.grow g hS, p, r, q1, fin.grow g⟩, hx⟩
  have hA := hh.pa.run pos pins s1 σ H1 _ I1 h2
  rw [star_cons hn] at hA ⊢
  refine Calls.callWith_builtin (by show (false || (backTo pos (starEach [] X.env)).any (·.1)) = false; rfl) (Calls.evalArgs_plain ?_)
  exact thn hA fun us s2 ⟨ws, H2, I2, r2, q2⟩ => m_tindex pins s2 σ H2 (.ref b) ws _ us Qh I2 rfl r2 q2
end
section
variable {G : GE} {J : JE} {X : Cx} {W : WX}
/-- a list that is not changed from here on -/
theorem ok_frz {i : Nat} {x : Str} {pos : Pos} (e : X.N[i]? = some x) (hv : visB X.env.scope x = true) (hp : plainName x = true) : Ok G J X W (.frz i) (.Name x pos) := by
  unfold plainName at hp
  rw [Bool.and_eq_true] at hp
  refine Ok.val ((pe_var e (vis_of hv) (by simpa using hp.1) (by simpa using hp.2)).imp fun σ H Qh h => ?_) fun _ => rfl
  obtain ⟨ρ, S, F, Q, E, hρ, hS, ⟨p, xs, hd, hl, q⟩, fin, hx⟩ := h
  obtain ⟨v, e1, e2, _⟩ := hρ.2 i _ hd
  simp only [Rep] at e2
  subst e2
  obtain ⟨vs, hv, hr⟩ := hS.ob p _ hl
  have g2 : Grow S F H (sdel S p) (fadd F p) H := by
    refine ⟨fun b f => .inl f, fun b o e k => ⟨e, ?_⟩, fun b f => ?_⟩
    · unfold sdel; split
      · rfl
      · exact k
    · rcases f with f | f
      · exact .inl f
      · subst f; exact .inr (.inr (by rw [hl]; exact fun z => nomatch z))
  have r2 : RelS (fadd F p) X.K J.cl (sdel S p) H := by
    refine ⟨fun a o e => ?_, fun a f => ?_, fun a f => ?_⟩
    · have hne : a ≠ p := fun z => by subst z; rw [sdel_same] at e; cases e
      rw [sdel_ne hne] at e
      exact (hS.ob a o e).mono (fun b f => .inl f) (fun b o f q => q) fun o q => q
    · rcases f with f | f
      · unfold sdel; split
        · rfl
        · exact hS.nf a f
      · subst f; exact sdel_same
    · rcases f with f | f
      · exact hS.fh a f
      · subst f; rw [hv]; exact fun z => nomatch z
  refine ⟨_, e1, fin (.lst xs) (sdel S p) (fadd F p) (.ref p) H g2 r2 ?_ q⟩
  simp only [Rep]
  exact ⟨p, vs, rfl, .inr rfl, hv, RepL.mono (fun b f => .inl f) (fun b o f q => q) xs vs hr⟩
end
end MP
/-! what the look is worth: all expressions -/
namespace MP
open PySem PySem.Spec PyProof.Rows L2
section
variable {G : GE} {J : JE} {T : NT} {L : Nat}
abbrev W0 : WX := fun _ _ _ _ => False
theorem takesN0 {X : Cx} : L2N.Takes X W0 := fun _ _ ⟨_, _, _, _, _, _, _, _, _, _, _, _, _, _, _, _, w⟩ => w.elim
theorem finX0 {X : Cx} {S : Sto} {F : Fz} {H : Hp} {Wh : Value → Option Addr → Hp → Prop} : FinX J X.K S F H (fun _ _ => False) Wh := fun _ _ _ _ _ _ _ _ _ _ _ _ _ _ _ z => z.elim
theorem Cok.blk {X : Cx} (c : Cok G J T L X) (ht : T.hot = none) (s : Shared) (H : Hp) (scope : Scope) (cenv : Env) (fp : List Addr) : Cok G J T L (X.blk s H scope cenv fp) :=
  ⟨c.nd, c.calm, c.room, c.un, fun i nm ps kw e => ⟨(c.fn i nm ps kw e).ex⟩, c.con, c.blt, c.hx, fun _ i e => (by rw [ht] at e; cases e), c.xcs, c.xok, fun e => absurd ht e, c.roomh, fun i nm ps kw h1 h2 => ⟨(c.fnh i nm ps kw h1 h2).ex⟩⟩
theorem Cok.blkH {X : Cx} {p : Addr × Obj} (c : Cok G J T L X) (h : L2H.Hot1 X.A p) (s : Shared) (H : Hp) (scope : Scope) (cenv : Env) (fp : List Addr) : Cok G J (blT T) L (MPK.blkP X p s H scope cenv fp) :=
  ⟨c.nd, c.calm, c.room, c.un, fun i nm ps kw e => ⟨(c.fn i nm ps kw e).ex⟩, c.con, c.blt, c.hx, fun e => (by cases e), c.xcs, c.xok, fun _ => ⟨p, h, List.mem_singleton.mpr rfl⟩, c.roomh, fun i nm ps kw h1 h2 => ⟨(c.fnh i nm ps kw h1 h2).ex⟩⟩
theorem folded_of {i : Expr} (h : noSet i = true) (env : Env) : ∀ x, foldedSetIterable i env x = pure x := fun x => by
  cases i <;> first | rfl | cases h
theorem own_snd (N : List Str) (own : List Nat) : (ownOf N own).map (·.2) = own := by
  unfold ownOf
  rw [List.map_map]
  exact List.map_id' own
theorem relabel_eq (scope : Scope) (env : Env) : relabel scope env = relS scope env.scope := rfl
theorem lc_imp {X : Cx} {W : WX} {m : Bool} {elt : Ex} {tg : Tg} {it : It} {own : List Nat} (hti : tgIn own tg = true) : ∀ σ H Qh, tE G J X W (.lc m elt tg it own) σ H Qh → tLc (tI G J X W it) (tG J X tg) tYes (tE G J X W0 elt) own σ H Qh := fun σ H Qh h => by
  obtain ⟨ρ, S, F, Q, E, hρ, hS, q, fin, hx⟩ := h
  refine lc_read (m := m) (J := J) (el := fun ρ1 S2 K => wpE G elt ρ1 S2 (fun y S3 => K (some y) S3) (fun _ _ => False)) hti hρ hS q fin hx fun ρ1 S2 F2 H2 σ2 Kk Kh r1 r2 h1 h2 h3 => ?_
  show (if true = true then tE G J X W0 elt σ2 H2 (fun y H4 => Kh (some y) H4) else Kh none H2)
  rw [if_pos rfl]
  exact ⟨ρ1, S2, F2, _, _, r1, r2, h1, fun d S3 F3 v H3 g r p q => h2 d S3 F3 v H3 g r p q, finX0 (X := X)⟩
theorem lcf_imp {X : Cx} {W : WX} {m : Bool} {elt cd : Ex} {tg : Tg} {it : It} {own : List Nat} (hti : tgIn own tg = true) : ∀ σ H Qh, tE G J X W (.lcf m elt tg it cd own) σ H Qh → tLc (tI G J X W it) (tG J X tg) (tT G J X W0 cd) (tE G J X W0 elt) own σ H Qh := fun σ H Qh h => by
  obtain ⟨ρ, S, F, Q, E, hρ, hS, q, fin, hx⟩ := h
  refine lc_read (m := m) (J := J) (el := fun ρ1 S2 K => wpE G cd ρ1 S2 (fun b S3 => ∃ k, b = .bl k ∧ if k = true then wpE G elt ρ1 S3 (fun y S4 => K (some y) S4) (fun _ _ => False) else K none S3) (fun _ _ => False)) hti hρ hS q fin hx fun ρ1 S2 F2 H2 σ2 Kk Kh r1 r2 h1 h2 h3 => ?_
  refine ⟨ρ1, S2, F2, _, _, r1, r2, h1, fun k S3 F3 H3 g r q => ?_, finX0 (X := X)⟩
  cases k with
  | true =>
    rw [if_pos rfl] at q ⊢
    exact ⟨ρ1, S3, F3, _, _, r1.grow g r2, r, q, fun d S4 F4 v H4 g4 r4 p4 q4 => h2 d S4 F4 v H4 (g.trans g4) r4 p4 q4, finX0 (X := X)⟩
  | false =>
    rw [if_neg Bool.false_ne_true] at q ⊢
    exact h3 S3 F3 H3 g r q
theorem tg_blk {X : Cx} (c : Cok G J T L X) (ht0 : T.hot = none) {tg : Tg} {t : Expr} {scope : Scope} (ht : chkTg none X.N (relS scope X.env.scope) (fun x => scope.names.lookup x == some .cell) tg t = true) (s : Shared) (H : Hp) (C : Addr) (cl : List (Str × Addr)) (fp : List Addr) :
    PG (X.blk s H scope (compEnvC scope cl C X.env) fp) t (tG J X tg) :=
  okTg (J := J) (X := X.blk s H scope (compEnvC scope cl C X.env) fp) c.nd (fun _ => c.calm ht0) (fun i d _ => c.hx i d (by rw [ht0]; exact fun z => nomatch z)) tg t ht
theorem ok_lc {X : Cx} {W : WX} (c : Cok G J T L X) (ht0 : T.hot = none) {m : Bool} {elt : Ex} {tg : Tg} {it : It} {own : List Nat} {e t i : Expr} {scope : Scope} {pos : Pos} (hi : PI X t i (tI G J X W it)) (hn : noSet i = true) (hb : blkC X.N X.env.scope scope (ownOf X.N own) = true)
    (ht : chkTg none X.N (relS scope X.env.scope) (fun x => scope.names.lookup x == some .cell) tg t = true) (hti : tgIn own tg = true)
    (he : ∀ (s : Shared) (H : Hp) (C : Addr) (cl : List (Str × Addr)) (fp : List Addr), Ok G J (X.blk s H scope (compEnvC scope cl C X.env) fp) W0 elt e) :
    Ok G J X W (.lc m elt tg it own) (.ListComp e [⟨t, i, [], 0⟩] scope pos) := by
  have p := pe_lc (pos := pos) (c.calm ht0) c.nd hi (blkOk_by hb) (tg_blk c ht0 ht) (fun _ _ _ _ _ => pts_nil) (fun s H C cl fp => (show PE (X.blk s H scope (compEnvC scope cl C X.env) fp) e (tE G J X W0 elt) from (he s H C cl fp).pe)) (folded_of hn _)
  rw [own_snd] at p
  exact Ok.val (p.imp (lc_imp hti)) fun _ => rfl
theorem ok_lcH {X : Cx} {W : WX} {p : Addr × Obj} (c : Cok G J T L X) (ht0 : T.hot ≠ none) (h1 : L2H.Hot1 X.A p) (hp : p ∈ X.pn) {m : Bool} {elt : Ex} {tg : Tg} {it : It} {own : List Nat} {e t i : Expr} {scope : Scope} {pos : Pos} (hi : L2H.PIH X t i (tI G J X W it)) (hn : noSet i = true) (hb : blkC X.N X.env.scope scope (ownOf X.N own) = true)
    (ht : chkTg T.hot X.N (relS scope X.env.scope) (fun x => scope.names.lookup x == some .cell) tg t = true) (hti : tgIn own tg = true)
    (he : ∀ (s : Shared) (H : Hp) (C : Addr) (cl : List (Str × Addr)) (fp : List Addr), Ok G J (MPK.blkP X p s H scope (compEnvC scope cl C X.env) fp) W0 elt e) :
    Ok G J X W (.lc m elt tg it own) (.ListComp e [⟨t, i, [], 0⟩] scope pos) := by
  have q := MPK.pe_lcP (pos := pos) (g := tG J X tg) h1 hp c.nd hi (blkOk_by hb) (fun s H C cl fp => (okTg (J := J) (X := MPK.blkP X p s H scope (compEnvC scope cl C X.env) fp) c.nd c.calm c.hx tg t ht)) (fun s H C cl fp => (show PE (MPK.blkP X p s H scope (compEnvC scope cl C X.env) fp) e (tE G J X W0 elt) from (he s H C cl fp).pe)) (folded_of hn _)
  rw [own_snd] at q
  exact Ok.val (q.imp (lc_imp hti)) fun _ => rfl
theorem ok_lcf {X : Cx} {W : WX} (c : Cok G J T L X) (ht0 : T.hot = none) {m : Bool} {elt cd : Ex} {tg : Tg} {it : It} {own : List Nat} {e t i f : Expr} {scope : Scope} {pos : Pos} (hi : PI X t i (tI G J X W it)) (hn : noSet i = true) (hb : blkC X.N X.env.scope scope (ownOf X.N own) = true)
    (ht : chkTg none X.N (relS scope X.env.scope) (fun x => scope.names.lookup x == some .cell) tg t = true) (hti : tgIn own tg = true)
    (he : ∀ (s : Shared) (H : Hp) (C : Addr) (cl : List (Str × Addr)) (fp : List Addr), Ok G J (X.blk s H scope (compEnvC scope cl C X.env) fp) W0 elt e)
    (hf : ∀ (s : Shared) (H : Hp) (C : Addr) (cl : List (Str × Addr)) (fp : List Addr), Ok G J (X.blk s H scope (compEnvC scope cl C X.env) fp) W0 cd f) :
    Ok G J X W (.lcf m elt tg it cd own) (.ListComp e [⟨t, i, [f], 0⟩] scope pos) := by
  have p := pe_lc (pos := pos) (c.calm ht0) c.nd hi (blkOk_by hb) (tg_blk c ht0 ht) (fun s H C cl fp => pts_one (show PT (X.blk s H scope (compEnvC scope cl C X.env) fp) f (tT G J X W0 cd) from (hf s H C cl fp).pt)) (fun s H C cl fp => (show PE (X.blk s H scope (compEnvC scope cl C X.env) fp) e (tE G J X W0 elt) from (he s H C cl fp).pe)) (folded_of hn _)
  rw [own_snd] at p
  exact Ok.val (p.imp (lcf_imp hti)) fun _ => rfl
/-- name = [..] on one line -/
theorem set_lc {X : Cx} {W : WX} (c : Cok G J T L X) (ht0 : T.hot = none) {k : Nat} {y : Str} {py spos : Pos} (hk : X.env.scope.kind = .function) (hy : X.N[k]? = some y) (hyl : X.env.scope.names.lookup y = some .local) {m : Bool} {elt : Ex} {tg : Tg} {it : It} {own : List Nat} {e t i : Expr} {scope : Scope} {pos : Pos}
    (hl : (py.line == pos.line) = true) (ha : (scope.names.any fun (n, k) => n == y && (k == .local || k == .cell)) = false) (hi : PI X t i (tI G J X W it)) (hn : noSet i = true) (hb : blkC X.N X.env.scope scope (ownOf X.N own) = true)
    (ht : chkTg none X.N (relS scope X.env.scope) (fun x => scope.names.lookup x == some .cell) tg t = true) (hti : tgIn own tg = true)
    (he : ∀ (s : Shared) (H : Hp) (C : Addr) (cl : List (Str × Addr)) (fp : List Addr), Ok G J (X.blk s H scope (compEnvC scope cl C X.env) fp) W0 elt e) :
    PS X (.Assign [.Name y py] (.ListComp e [⟨t, i, [], 0⟩] scope pos) spos) (tAsg (tE G J X W (.lc m elt tg it own)) (gName k)) := by
  have p := ps_setLc (pos := pos) (spos := spos) (c.calm ht0) c.nd hy hyl (sw_true (l := spos.line) hk hyl hl ha) hi (blkOk_by hb) (tg_blk c ht0 ht) (fun _ _ _ _ _ => pts_nil) (fun s H C cl fp => (show PE (X.blk s H scope (compEnvC scope cl C X.env) fp) e (tE G J X W0 elt) from (he s H C cl fp).pe)) (folded_of hn _)
  rw [own_snd] at p
  exact ⟨fun pins s σ H D I h => p.run pins s σ H D I (lc_imp hti σ H _ h)⟩
theorem set_lcf {X : Cx} {W : WX} (c : Cok G J T L X) (ht0 : T.hot = none) {k : Nat} {y : Str} {py spos : Pos} (hk : X.env.scope.kind = .function) (hy : X.N[k]? = some y) (hyl : X.env.scope.names.lookup y = some .local) {m : Bool} {elt cd : Ex} {tg : Tg} {it : It} {own : List Nat} {e t i f : Expr} {scope : Scope} {pos : Pos}
    (hl : (py.line == pos.line) = true) (ha : (scope.names.any fun (n, k) => n == y && (k == .local || k == .cell)) = false) (hi : PI X t i (tI G J X W it)) (hn : noSet i = true) (hb : blkC X.N X.env.scope scope (ownOf X.N own) = true)
    (ht : chkTg none X.N (relS scope X.env.scope) (fun x => scope.names.lookup x == some .cell) tg t = true) (hti : tgIn own tg = true)
    (he : ∀ (s : Shared) (H : Hp) (C : Addr) (cl : List (Str × Addr)) (fp : List Addr), Ok G J (X.blk s H scope (compEnvC scope cl C X.env) fp) W0 elt e)
    (hf : ∀ (s : Shared) (H : Hp) (C : Addr) (cl : List (Str × Addr)) (fp : List Addr), Ok G J (X.blk s H scope (compEnvC scope cl C X.env) fp) W0 cd f) :
    PS X (.Assign [.Name y py] (.ListComp e [⟨t, i, [f], 0⟩] scope pos) spos) (tAsg (tE G J X W (.lcf m elt tg it cd own)) (gName k)) := by
  have p := ps_setLc (pos := pos) (spos := spos) (c.calm ht0) c.nd hy hyl (sw_true (l := spos.line) hk hyl hl ha) hi (blkOk_by hb) (tg_blk c ht0 ht) (fun s H C cl fp => pts_one (show PT (X.blk s H scope (compEnvC scope cl C X.env) fp) f (tT G J X W0 cd) from (hf s H C cl fp).pt)) (fun s H C cl fp => (show PE (X.blk s H scope (compEnvC scope cl C X.env) fp) e (tE G J X W0 elt) from (he s H C cl fp).pe)) (folded_of hn _)
  rw [own_snd] at p
  exact ⟨fun pins s σ H D I h => p.run pins s σ H D I (lcf_imp hti σ H _ h)⟩

theorem ok_nd {X : Cx} {W : WX} (c : Cok G J T L X) (ht0 : T.hot = none) {tt : Bool} {j : Nat} {it : It} {own : List Nat} {kx t i : Expr} {scope : Scope} {p pos vp dpos : Pos} {vj : Nat} (hg : glB X.env.scope ("len" : Str) = true) (hi : PI X t i (tI G J X W it)) (hn : noSet i = true) (hb : blkC X.N X.env.scope scope (ownOf X.N own) = true)
    (ht : chkTg none X.N (relS scope X.env.scope) (fun x => scope.names.lookup x == some .cell) (.nm j) t = true) (hti : tgIn own (.nm j) = true)
    (he : ∀ (s : Shared) (H : Hp) (C : Addr) (cl : List (Str × Addr)) (fp : List Addr), Ok G J (X.blk s H scope (compEnvC scope cl C X.env) fp) W0 (.var j) kx) :
    Ok G J X W (.nd tt j it own) (.Call (.Name "len" p) [.DictComp kx (.Constant (.bool true) vj vp) [⟨t, i, [], 0⟩] scope dpos] [] pos) := by
  obtain ⟨g1, g2⟩ := gl_of hg
  refine Ok.val ?_ fun _ => rfl
  have hk : ∀ (s : Shared) (H : Hp) (C : Addr) (cl : List (Str × Addr)) (fp : List Addr), PE (X.blk s H scope (compEnvC scope cl C X.env) fp) kx (tE G J X W0 (.var j)) := fun s H C cl fp => (he s H C cl fp).pe
  cases tt with
  | true =>
    have q := pe_nd (pos := dpos) (vp := vp) (vj := vj) (c.calm ht0) (by have := c.un; omega) c.nd hi (blkOk_by hb) (tg_blk c ht0 ht) hk (folded_of hn _)
    rw [own_snd] at q
    exact (pe_callB call_lenX g1 (c.blt _ (by decide +kernel)) (by decide +kernel) (pa_cons q pa_nil rfl) (by decide) g2 rfl rfl).imp (nd_read hti)
  | false =>
    have q := pe_dc (pos := dpos) (c.calm ht0) c.nd hi (blkOk_by hb) (tg_blk c ht0 ht) (fun _ _ _ _ _ => pts_nil) hk (fun s H C cl fp => (pe_bl (X := X.blk s H scope (compEnvC scope cl C X.env) fp) (b := true) (j := vj) (pos := vp))) (folded_of hn _)
    rw [own_snd] at q
    exact (pe_callB call_lenD g1 (c.blt _ (by decide +kernel)) (by decide +kernel) (pa_cons q pa_nil rfl) (by decide) g2 rfl rfl).imp (ndf_read hti)
theorem ok_lc2 {X : Cx} {W : WX} (c : Cok G J T L X) (ht0 : T.hot = none) {m : Bool} {elt : Ex} {tg tg1 : Tg} {it it1 : It} {own own1 : List Nat} {e t i t1 i1 : Expr} {scope : Scope} {pos : Pos} (hi : PI X t i (tI G J X W it)) (hn : noSet i = true) (hn1 : noSet i1 = true) (hb : blkC X.N X.env.scope scope (ownOf X.N own) = true)
    (ht : chkTg none X.N (relS scope X.env.scope) (fun x => scope.names.lookup x == some .cell) tg t = true) (hti : tgIn own tg = true) (hown : ∀ k ∈ own1, k ∈ own) (ht1 : chkTg none X.N (relS scope X.env.scope) (fun x => scope.names.lookup x == some .cell) tg1 t1 = true) (hti1 : tgIn own1 tg1 = true)
    (hi1 : ∀ (s : Shared) (H : Hp) (C : Addr) (cl : List (Str × Addr)) (fp : List Addr), PI (X.blk s H scope (compEnvC scope cl C X.env) fp) t1 i1 (tI G J X W0 it1))
    (he : ∀ (s : Shared) (H : Hp) (C : Addr) (cl : List (Str × Addr)) (fp : List Addr), Ok G J (X.blk s H scope (compEnvC scope cl C X.env) fp) W0 elt e) :
    Ok G J X W (.lc2 m elt tg it tg1 it1 own own1) (.ListComp e [⟨t, i, [], 0⟩, ⟨t1, i1, [], 0⟩] scope pos) := by
  have p := pe_lc2 (pos := pos) (vs1 := own1) (c.calm ht0) c.nd hi (blkOk_by hb) (by rw [own_snd]; exact hown) (tg_blk c ht0 ht) (fun _ _ _ _ _ => pts_nil) hi1 (tg_blk c ht0 ht1) (fun _ _ _ _ _ => pts_nil) (fun s H C cl fp => (show PE (X.blk s H scope (compEnvC scope cl C X.env) fp) e (tE G J X W0 elt) from (he s H C cl fp).pe)) (folded_of hn _) (fun env => folded_of hn1 env)
  rw [own_snd] at p
  exact Ok.val (p.imp (lc2_read hti hti1)) fun _ => rfl
theorem mkO {X : Cx} {W : WX} {m : Ex} {x : Option Expr} (f : ∀ e, chkE T X.N X.env.scope X.fn m e = true → Ok G J X W m e)
    (h : (match x with | none => isNonE m | some x => !isNonE m && chkE T X.N X.env.scope X.fn m x) = true) : OkO G J X W m x := by
  cases x with
  | none =>
    cases m <;> first | exact .none | cases h
  | some x =>
    have h : (!isNonE m && chkE T X.N X.env.scope X.fn m x) = true := h
    rw [Bool.and_eq_true] at h
    exact .some (fun z => by rw [z] at h; cases h.1) (f x h.2)
theorem ok_itR1H (c : Cok G J T L X) {m : Ex} {e tg : Expr} {p pos : Pos} (hg : glB X.env.scope ("range" : Str) = true) (hn : noStar e = true) (h : Ok G J X W m e) : L2H.PIH X tg (.Call (.Name "range" p) [e] [] pos) (tI G J X W (.rng1 m)) := by
  obtain ⟨g1, g2⟩ := gl_of hg
  refine ⟨fun pins s σ H R I hw => (L2H.pi_range1H g1 (c.blt _ (by decide +kernel)) (pa_cons h.pe pa_nil (star_cons hn _)) (star_cons hn _)).run pins s σ H R I ?_⟩
  obtain ⟨ρ, S, F, Kd, E, hρ, hS, q, fin, hx⟩ := hw
  refine ⟨ρ, S, F, _, E, hρ, hS, q, fun d1 S1 F1 v1 H1 g1 r1 p1 q1 => ?_, hx⟩
  obtain ⟨j, rfl, h1, h2, q1⟩ := q1
  simp only [Rep] at p1
  subst p1
  exact ⟨j, rfl, by omega, by omega, fin _ _ S1 F1 H1 _ g1 r1 (itd_rng (by simp)) q1⟩
mutual
theorem okE : ∀ (T : NT) (m : Ex) (X : Cx) (W : WX) (e : Expr), Cok G J T L X → L2N.Takes X W → chkE T X.N X.env.scope X.fn m e = true → Ok G J X W m e
  | T, .non, X, W, e, c, tk, h => by
    simp only [chkE] at h
    split at h <;> first | exact ok_non | cases h
  | T, .bl b, X, W, e, c, tk, h => by
    simp only [chkE] at h
    split at h
    · have e := eq_of_beq h; subst e; exact ok_bl
    · cases h
  | T, .int i, X, W, e, c, tk, h => by
    simp only [chkE] at h
    split at h
    · have e := eq_of_beq h; subst e; exact ok_int
    · cases h
  | T, .str s, X, W, e, c, tk, h => by
    simp only [chkE] at h
    split at h
    · simp only [Bool.and_eq_true, decide_eq_true_eq] at h
      exact ok_str h.1 h.2
    · cases h
  | T, .var i, X, W, e, c, tk, h => by
    simp only [chkE] at h
    split at h
    · simp only [Bool.and_eq_true, decide_eq_true_eq] at h
      exact ok_var h.1.1 h.1.2 h.2
    · cases h
  | T, .lrg1 m b, X, W, e, c, tk, h => by
    simp only [chkE] at h
    split at h
    · simp only [Bool.and_eq_true, decide_eq_true_eq] at h
      obtain ⟨⟨⟨⟨⟨⟨h1, rfl⟩, h3⟩, rfl⟩, h5⟩, h6⟩, h7⟩ := h
      exact ok_lrg1 c (Option.isNone_iff_eq_none.mp h1) h3 h5 h6 (okE T b X W _ c tk h7)
    · cases h
  | T, .lrg2 m a b, X, W, e, c, tk, h => by
    simp only [chkE] at h
    split at h
    · simp only [Bool.and_eq_true, decide_eq_true_eq] at h
      obtain ⟨⟨⟨⟨⟨⟨⟨⟨h1, rfl⟩, h3⟩, rfl⟩, h5⟩, h6⟩, h7⟩, h8⟩, h9⟩ := h
      exact ok_lrg2 c (Option.isNone_iff_eq_none.mp h1) h3 h5 h6 h7 (okE T a X W _ c tk h8) (okE T b X W _ c tk h9)
    · cases h
  | T, .sft i, X, W, e, c, tk, h => by
    simp only [chkE] at h
    split at h
    · simp only [Bool.and_eq_true, decide_eq_true_eq] at h
      exact ok_sft h.1.1 h.1.2 h.2
    · cases h
  | T, .frz i, X, W, e, c, tk, h => by
    simp only [chkE] at h
    split at h
    · simp only [Bool.and_eq_true, decide_eq_true_eq] at h
      exact ok_frz h.1.1 h.1.2 h.2
    · cases h
  | T, .tix i a, X, W, e, c, tk, h => by
    simp only [chkE] at h
    split at h
    · simp only [Bool.and_eq_true, decide_eq_true_eq] at h
      obtain ⟨⟨⟨⟨⟨⟨rfl, h2⟩, h3⟩, h4⟩, h5⟩, h6⟩, h7⟩ := h
      exact ok_tix c h2 h3 h4 h5 h6 (okE T a X W _ c tk h7)
    · cases h
  | T, .tpn a, X, W, e, c, tk, h => by
    simp only [chkE] at h
    split at h
    · simp only [Bool.and_eq_true, decide_eq_true_eq] at h
      obtain ⟨⟨⟨rfl, h2⟩, h3⟩, h4⟩ := h
      exact ok_tpn c h2 h3 (okE T a X W _ c tk h4)
    · cases h
  | T, .glb k, X, W, e, c, tk, h => by
    simp only [chkE] at h
    split at h
    · simp only [Bool.and_eq_true, decide_eq_true_eq] at h
      exact ok_glb c h.1 h.2
    · cases h
  | T, .bin op m a b, X, W, e, c, tk, h => by
    simp only [chkE] at h
    split at h
    · simp only [Bool.and_eq_true] at h
      have e := isOp_eq h.1.1
      subst e
      exact ok_bin (okE T a X W _ c tk h.1.2) (okE T b X W _ c tk h.2)
    · cases h
  | T, .neg a, X, W, e, c, tk, h => by
    simp only [chkE] at h
    split at h
    · exact ok_neg (okE T a X W _ c tk h)
    · cases h
  | T, .not a, X, W, e, c, tk, h => by
    simp only [chkE] at h
    split at h
    · exact ok_not (okE T a X W _ c tk h)
    · cases h
  | T, .cmp op a b, X, W, e, c, tk, h => by
    simp only [chkE] at h
    split at h
    · simp only [Bool.and_eq_true] at h
      have e := isCo_eq h.1.1.1
      subst e
      exact ok_cmp c h.1.1.2 (okE T a X W _ c tk h.1.2) (okE T b X W _ c tk h.2)
    · cases h
  | T, .isN a, X, W, e, c, tk, h => by
    simp only [chkE] at h
    split at h
    · exact ok_isN (okE T a X W _ c tk h)
    · cases h
  | T, .nsN a, X, W, e, c, tk, h => by
    simp only [chkE] at h
    split at h
    · exact ok_nsN (okE T a X W _ c tk h)
    · cases h
  | T, .isB b a, X, W, e, c, tk, h => by
    simp only [chkE] at h
    split at h
    · simp only [Bool.and_eq_true] at h
      have e := eq_of_beq h.1; subst e
      exact ok_isB (okE T a X W _ c tk h.2)
    · cases h
  | T, .nsB b a, X, W, e, c, tk, h => by
    simp only [chkE] at h
    split at h
    · simp only [Bool.and_eq_true] at h
      have e := eq_of_beq h.1; subst e
      exact ok_nsB (okE T a X W _ c tk h.2)
    · cases h
  | T, .chain o1 o2 a b d, X, W, e, c, tk, h => by
    simp only [chkE] at h
    split at h
    · simp only [Bool.and_eq_true] at h
      obtain ⟨⟨⟨⟨⟨⟨h1, h2⟩, h3⟩, h4⟩, h5⟩, h6⟩, h7⟩ := h
      have e1 := isCo_eq h1
      have e2 := isCo_eq h2
      subst e1 e2
      exact ok_chain c h3 h4 (okE T a X W _ c tk h5) (okE T b X W _ c tk h6) (okE T d X W _ c tk h7)
    · cases h
  | T, .and es, X, W, e, c, tk, h => by
    simp only [chkE] at h
    split at h
    · simp only [Bool.and_eq_true, decide_eq_true_eq] at h
      exact ok_and (okEs T es X W _ c tk h.2) h.1
    · cases h
  | T, .or es, X, W, e, c, tk, h => by
    simp only [chkE] at h
    split at h
    · simp only [Bool.and_eq_true, decide_eq_true_eq] at h
      exact ok_or (okEs T es X W _ c tk h.2) h.1
    · cases h
  | T, .ite d a b, X, W, e, c, tk, h => by
    simp only [chkE] at h
    split at h
    · simp only [Bool.and_eq_true] at h
      exact ok_ite (okE T d X W _ c tk h.1.1) (okE T a X W _ c tk h.1.2) (okE T b X W _ c tk h.2)
    · cases h
  | T, .tup es, X, W, e, c, tk, h => by
    simp only [chkE] at h
    split at h
    · exact ok_tup (okEs T es X W _ c tk h)
    · cases h
  | T, .lst m es, X, W, e, c, tk, h => by
    simp only [chkE] at h
    split at h
    · exact ok_lst (okEs T es X W _ c tk h)
    · cases h
  | T, .call f es, X, W, e, c, tk, h => by
    simp only [chkE] at h
    split at h
    · simp only [Bool.and_eq_true] at h
      obtain ⟨⟨⟨h1, h0⟩, h2⟩, h3⟩ := h
      split at h1
      · rename_i y ps kw hf
        simp only [Bool.and_eq_true, decide_eq_true_eq] at h1
        obtain ⟨rfl, _⟩ := h1
        by_cases hz : T.hot = none
        · exact ok_call c tk hz hf h2 (okEs T es X W _ c tk h3)
        · simp only [Bool.or_eq_true, Bool.and_eq_true, decide_eq_true_eq] at h0
          rcases h0 with h0 | h0
          · exact absurd (Option.isNone_iff_eq_none.mp h0) hz
          · exact ok_callH c tk hz h0.1 h0.2 hf h2 (okEs T es X W _ c tk h3)
      · cases h1
    · cases h
  | T, .callk f es p, X, W, e, c, tk, h => by
    simp only [chkE] at h
    split at h
    · simp only [Bool.and_eq_true] at h
      obtain ⟨⟨⟨h1, h0⟩, h2⟩, h3⟩ := h
      have h0 : T.hot = none := Option.isNone_iff_eq_none.mp h0
      split at h1
      · rename_i y ps kw hf
        simp only [Bool.and_eq_true, decide_eq_true_eq] at h1
        obtain ⟨rfl, h1⟩ := h1
        split at h1
        · rename_i ks hks
          exact ok_callk c tk h0 hf (of_decide_eq_true h1) h2 (okKs T es X W _ _ c tk h3 hks)
        · cases h1
      · cases h1
    · cases h
  | T, .blt b es, X, W, e, c, tk, h => by
    simp only [chkE] at h
    split at h
    · simp only [Bool.and_eq_true, decide_eq_true_eq] at h
      obtain ⟨⟨⟨⟨rfl, h2⟩, h3⟩, h0⟩, h4⟩ := h
      exact ok_blt c h0 h2 (okEs T es X W _ c tk h4) h3
    · cases h
  | T, .isty t m, X, W, e, c, tk, h => by
    simp only [chkE] at h
    split at h
    · simp only [Bool.and_eq_true, decide_eq_true_eq] at h
      obtain ⟨⟨⟨⟨⟨rfl, rfl⟩, h3⟩, h4⟩, h5⟩, h6⟩ := h
      exact ok_isty c h3 h4 h5 (okE T m X W _ c tk h6)
    · cases h
  | T, .meth m o es, X, W, e, c, tk, h => by
    simp only [chkE] at h
    split at h
    · simp only [Bool.and_eq_true, decide_eq_true_eq] at h
      obtain ⟨⟨⟨⟨⟨⟨h1, h0⟩, h2⟩, h3⟩, h4⟩, h5⟩, h6⟩ := h
      subst h1
      exact ok_meth c h2 h3 h4 (okE T o X W _ c tk h5) (okEs T es X W _ c tk h6) (by simpa using h0)
    · cases h
  | T, .idx a b, X, W, e, c, tk, h => by
    simp only [chkE] at h
    split at h
    · simp only [Bool.and_eq_true] at h
      exact ok_idx c h.1.1 (okE T a X W _ c tk h.1.2) (okE T b X W _ c tk h.2)
    · cases h
  | T, .slc m a lo hi, X, W, e, c, tk, h => by
    simp only [chkE] at h
    split at h
    · simp only [Bool.and_eq_true] at h
      exact ok_slc (okE T a X W _ c tk h.1.1) (mkO (fun e he => okE T lo X W e c tk he) h.1.2) (mkO (fun e he => okE T hi X W e c tk he) h.2)
    · cases h
  | T, .rev m a, X, W, e, c, tk, h => by
    simp only [chkE] at h
    split at h
    · exact ok_rev (okE T a X W _ c tk h)
    · cases h
  | T, .nd tt j it own, X, W, e, c, tk, h => by
    simp only [chkE] at h
    split at h
    · simp only [Bool.and_eq_true, decide_eq_true_eq] at h
      obtain ⟨⟨⟨⟨⟨⟨⟨⟨⟨rfl, h1⟩, h2⟩, h3⟩, h4⟩, h5⟩, h6⟩, h7⟩, h8⟩, h9⟩ := h
      have h2 : T.hot = none := Option.isNone_iff_eq_none.mp h2
      refine ok_nd c h2 h1 (okIt T it X W _ c tk h4 _) h3 h5 h7 h8 fun s H C cl fp => ?_
      split at h9
      · simp only [Bool.and_eq_true, decide_eq_true_eq] at h9
        exact ok_var (X := X.blk s H _ (compEnvC _ cl C X.env) fp) h9.1.1 h9.1.2 h9.2
      · cases h9
    · cases h
  | T, .lc2 m elt tg it tg1 it1 own own1, X, W, e, c, tk, h => by
    simp only [chkE] at h
    split at h
    · simp only [Bool.and_eq_true, decide_eq_true_eq] at h
      obtain ⟨⟨⟨⟨⟨⟨⟨⟨⟨⟨⟨⟨h0, h1⟩, h1b⟩, h2⟩, h3⟩, h4⟩, h5⟩, h6⟩, h7⟩, h8⟩, h9⟩, h10⟩, h11⟩ := h
      have h0 : T.hot = none := Option.isNone_iff_eq_none.mp h0
      exact ok_lc2 c h0 (okIt T it X W _ c tk h2 _) h1 h1b h3 h5 h6 (fun k hk => of_decide_eq_true (List.all_eq_true.mp h7 k hk)) h9 h10 (fun s H C cl fp => okIt T it1 (X.blk s H _ (compEnvC _ cl C X.env) fp) W0 _ (c.blk h0 _ _ _ _ _) takesN0 h8 _)
        fun s H C cl fp => okE T elt (X.blk s H _ (compEnvC _ cl C X.env) fp) W0 _ (c.blk h0 _ _ _ _ _) takesN0 h11
    · cases h
  | T, .dsp ks es, X, W, e, c, tk, h => by
    simp only [chkE] at h
    split at h
    · simp only [Bool.and_eq_true, decide_eq_true_eq] at h
      obtain ⟨⟨⟨⟨⟨h1, h2⟩, h3⟩, h4⟩, h5⟩, h6⟩ := h
      exact ok_dsp h1 h2 h3 h4 h5 (okEs T es X W _ c tk h6)
    · cases h
  | T, .lc m elt tg it own, X, W, e, c, tk, h => by
    simp only [chkE] at h
    split at h
    · simp only [Bool.and_eq_true, decide_eq_true_eq] at h
      obtain ⟨⟨⟨⟨⟨⟨⟨h0, h1⟩, h2⟩, h3⟩, h4⟩, h5⟩, h6⟩, h7⟩ := h
      by_cases hot : T.hot = none
      · rw [if_pos (Option.isNone_iff_eq_none.mpr hot)] at h7
        rw [hot] at h5
        have h0 := hot
        exact ok_lc c h0 (okIt T it X W _ c tk h2 _) h1 h3 h5 h6 fun s H C cl fp => okE T elt (X.blk s H _ (compEnvC _ cl C X.env) fp) W0 _ (c.blk h0 _ _ _ _ _) takesN0 h7
      · have hn : ¬ T.hot.isNone = true := fun e => hot (Option.isNone_iff_eq_none.mp e)
        rw [if_neg hn] at h7
        have hr : isR1 it = true := by
          rcases Bool.or_eq_true _ _ ▸ h0 with e | e
          · exact absurd e hn
          · exact e
        obtain ⟨p, hp1, hp2⟩ := c.hotc hot
        exact ok_lcH c hot hp1 hp2 (okItH T it X W _ c tk hr h2 _) h1 h3 h5 h6 fun s H C cl fp => okE (blT T) elt (MPK.blkP X p s H _ (compEnvC _ cl C X.env) fp) W0 _ (c.blkH hp1 _ _ _ _ _) takesN0 h7
    · cases h
  | T, .lcf m elt tg it cd own, X, W, e, c, tk, h => by
    simp only [chkE] at h
    split at h
    · simp only [Bool.and_eq_true, decide_eq_true_eq] at h
      obtain ⟨⟨⟨⟨⟨⟨⟨⟨h0, h1⟩, h2⟩, h3⟩, h4⟩, h5⟩, h6⟩, h7⟩, h8⟩ := h
      have h0 : T.hot = none := Option.isNone_iff_eq_none.mp h0
      exact ok_lcf c h0 (okIt T it X W _ c tk h2 _) h1 h3 h5 h6 (fun s H C cl fp => okE T elt (X.blk s H _ (compEnvC _ cl C X.env) fp) W0 _ (c.blk h0 _ _ _ _ _) takesN0 h7)
        fun s H C cl fp => okE T cd (X.blk s H _ (compEnvC _ cl C X.env) fp) W0 _ (c.blk h0 _ _ _ _ _) takesN0 h8
    · cases h
  | T, .exf i f, X, W, e, c, tk, h => by
    simp only [chkE] at h
    split at h
    · simp only [Bool.and_eq_true, decide_eq_true_eq, Bool.not_eq_true'] at h
      obtain ⟨⟨⟨⟨⟨hbl, h1⟩, h2⟩, h3⟩, h4⟩, rfl⟩ := h
      exact ok_exf c hbl (eq_of_beq h1) h2 h3 h4
    · cases h
  | T, .exis i k, X, W, e, c, tk, h => by
    simp only [chkE] at h
    split at h
    · simp only [Bool.and_eq_true, decide_eq_true_eq, Bool.not_eq_true'] at h
      obtain ⟨⟨⟨⟨⟨⟨⟨⟨hbl, h1⟩, rfl⟩, h3⟩, h4⟩, h5⟩, h6⟩, h7⟩, h8⟩ := h
      obtain ⟨⟨z, ns⟩, hk, rfl⟩ := Option.map_eq_some_iff.mp h7
      exact ok_exis c hbl (eq_of_beq h1) h3 h4 h5 h6 hk h8
    · cases h
theorem okEs : ∀ (T : NT) (ms : List Ex) (X : Cx) (W : WX) (es : List Expr), Cok G J T L X → L2N.Takes X W → chkEs T X.N X.env.scope X.fn ms es = true → OkL G J X W ms es
  | T, [], X, W, es, c, tk, h => by
    cases es with
    | nil => exact .nil
    | cons _ _ => simp [chkEs] at h
  | T, m :: ms, X, W, es, c, tk, h => by
    cases es with
    | nil => simp [chkEs] at h
    | cons e es =>
      simp only [chkEs, Bool.and_eq_true] at h
      exact .cons h.1.1 (okE T m X W e c tk h.1.2) (okEs T ms X W es c tk h.2)
theorem okKs : ∀ (T : NT) (ms : List Ex) (X : Cx) (W : WX) (es : List Keyword) (ns : List Str), Cok G J T L X → L2N.Takes X W → chkKs T X.N X.env.scope X.fn ms es = true → kwNames es = some ns → OkK G J X W ms es ns
  | T, [], X, W, es, ns, c, tk, h, hn => by
    cases es with
    | nil => cases hn; exact .nil
    | cons _ _ => simp [chkKs] at h
  | T, m :: ms, X, W, es, ns, c, tk, h, hn => by
    cases es with
    | nil => simp [chkKs] at h
    | cons e es =>
      obtain ⟨n, x, kp⟩ := e
      simp only [chkKs, Bool.and_eq_true] at h
      cases n with
      | none => simp [kwNames] at hn
      | some n =>
        simp only [kwNames, Option.map_eq_some_iff] at hn
        obtain ⟨ns', h1, rfl⟩ := hn
        exact .cons (okE T m X W x c tk h.1) (okKs T ms X W es ns' c tk h.2 h1)
theorem okItH : ∀ (T : NT) (it : It) (X : Cx) (W : WX) (e : Expr), Cok G J T L X → L2N.Takes X W → isR1 it = true → chkIt T X.N X.env.scope X.fn it e = true → ∀ tg, L2H.PIH X tg e (tI G J X W it)
  | T, .rng1 b, X, W, e, c, tk, h0, h => by
    simp only [chkIt] at h
    split at h
    · simp only [Bool.and_eq_true, decide_eq_true_eq] at h
      obtain ⟨⟨⟨rfl, h2⟩, h3⟩, h4⟩ := h
      exact fun tg => ok_itR1H c h2 h3 (okE T b X W _ c tk h4)
    · cases h
  | T, .ex _, _, _, _, _, _, h0, _ => by cases h0
  | T, .rng2 _ _, _, _, _, _, _, h0, _ => by cases h0
  | T, .enum _, _, _, _, _, _, h0, _ => by cases h0
  | T, .zip _ _, _, _, _, _, _, h0, _ => by cases h0
theorem okIt : ∀ (T : NT) (it : It) (X : Cx) (W : WX) (e : Expr), Cok G J T L X → L2N.Takes X W → chkIt T X.N X.env.scope X.fn it e = true → ∀ tg, PI X tg e (tI G J X W it)
  | T, .ex m, X, W, e, c, tk, h => by
    simp only [chkIt] at h
    exact fun tg => ok_itEx (okE T m X W e c tk h)
  | T, .rng1 b, X, W, e, c, tk, h => by
    simp only [chkIt] at h
    split at h
    · simp only [Bool.and_eq_true, decide_eq_true_eq] at h
      obtain ⟨⟨⟨rfl, h2⟩, h3⟩, h4⟩ := h
      exact fun tg => ok_itR1 c h2 h3 (okE T b X W _ c tk h4)
    · cases h
  | T, .rng2 a b, X, W, e, c, tk, h => by
    simp only [chkIt] at h
    split at h
    · simp only [Bool.and_eq_true, decide_eq_true_eq] at h
      obtain ⟨⟨⟨⟨⟨rfl, h2⟩, h3⟩, h4⟩, h5⟩, h6⟩ := h
      exact fun tg => ok_itR2 c h2 h3 h4 (okE T a X W _ c tk h5) (okE T b X W _ c tk h6)
    · cases h
  | T, .enum e', X, W, e, c, tk, h => by simp [chkIt] at h
  | T, .zip a b, X, W, e, c, tk, h => by simp [chkIt] at h
end
end
end MP
/-! an own error whose __init__ says super().__init__("..") and keeps fields: walked -/
namespace MPX
open PySem PySem.Spec PySem.W PySem.Calls PyProof.Rows PySem.HandSPX

/-- super().__init__("..") -/
abbrev supS (p0 p1 p2 p3 p4 p5 : Pos) (t : Str) (j : Nat) : Stmt := .Expr (.Call (.Attribute (.Call (.Name "super" p0) [] [] p1) "__init__" p2) [.Constant (.str t) j p3] [] p4) p5
/-- self.f = f -/
abbrev setF (f : Str) (p1 p2 p3 p4 : Pos) : Stmt := .Assign [.Attribute (.Name "self" p1) f p2] (.Name f p3) p4
/-- an __init__'s body that keeps these fields -/
def setsB : List Str → List Stmt → Bool
  | [], [] => true
  | f :: fs, .Assign [.Attribute (.Name s _) g _] (.Name h _) _ :: r => s == ("self" : Str) && g == f && h == f && setsB fs r
  | _, _ => false
def bodyB (fs : List Str) : List Stmt → Bool
  | .Expr (.Call (.Attribute (.Call (.Name s _) [] [] _) i p2) [.Constant (.str _) _ _] [] p4) _ :: r => s == ("super" : Str) && (p2.endLine == p4.line) && i == ("__init__" : Str) && setsB fs r
  | _ => false
def scopeB (fs : List Str) (sc : Scope) : Bool :=
  (sc.kind == .function) && !sc.isCoroutine && !sc.isGenerator && (sc.names.all fun x => !(x.2 == .cell)) && (sc.names.lookup ("super" : Str) == some .globalImplicit) && (sc.names.lookup ("__class__" : Str) == some .free) &&
  (sc.names.lookup ("self" : Str) == some .local) && (fs.all fun f => sc.names.lookup f == some .local && !(f == ("self" : Str)) && !(f == ("__debug__" : Str))) && decide fs.Nodup
structure ErrTxt (P : Program) (K : Frag) (mg : Str → Option Value) (C fI : Addr) (nm : Str) (fs : List Str) : Prop where
  gC : mg nm = some (.ref C)
  ox : L2.OexC K C
  noN : ∀ f ∈ fs, findIn K (.ref C) f = some none
  iC : findIn K (.ref C) "__init__" = some (some (.ref fI))
  tC : typeIn K (.ref fI) = some (.type "function")
  sup : nsIn K mainGlobals "super" = some none
  seer : nsIn K cStatics "thirdparty.any" = some none
  supI : ks_superIn K C C "__init__" = some (some (.builtin "ValueError.__init__"))
  subB : subIn K (.ref C) (.type "ValueError") = some true
  selfC : mroIn K C (.ref C) = some true
  htop : (P.main.scope.names.lookup ("super" : Str)).isSome = false
  fn : ∃ (oc : Value) (od : Option Addr) (qual : Str) (params : Arguments) (body : List Stmt) (scope : Scope) (dV kV doc pm ct : Value) (an : Option Addr) (cda cc : Addr) (osl : Array (Option Value)) (file : Str) (tf : Tok) (vs : Array Value) (ccl cl : Value) (cdd cld : Option Addr) (ccs csl : Array (Option Value)),
    K.lookup fI = some ⟨oc, od, .func (ksFn "__init__" qual params body scope dV kV doc pm an (.ref cda) ct cc), osl⟩ ∧ codeIn K (.ref cda) qual = true ∧ K.lookup cda = some ⟨ccl, cdd, .fields vs, ccs⟩ ∧ vs[2]? = some (.str file tf) ∧
    ((P.main.file : Str) == file) = true ∧ K.lookup cc = some ⟨cl, cld, .cell (some (.ref C)), csl⟩ ∧ ((params.posonlyargs ++ params.args).head?.map (·.arg)) = some ("self" : Str) ∧
    (∀ (s : Shared) (us : List Value), us.length = fs.length + 1 → BindsTo s (ksFn "__init__" qual params body scope dV kV doc pm an (.ref cda) ct cc) ⟨us, []⟩ ((("self" : Str) :: fs).zip us)) ∧ bodyB fs body = true ∧ scopeB fs scope = true
  n1 : fs ≠ []
  n2 : fs.length ≤ 900

section
variable {prog : Program} {w : World} {A : Around} {E : Value → Shared → Prop} {h : Heap} {g : Array GenState} {d : Drawn} {t : Nat} {os : OsState}
variable {nm q : Str} {C N : Addr} {bs bm : List Value} {hdct : Bool} {sn : List Str} {sub : List Value} {ab : Bool} {col : Option Bool} {dd : Option Addr} {k0 k1 k2 k3 k5 : Option Value}
/-- ValueError.__init__ bound, called -/
theorem call_vw {u e t0 : Addr} {rest : List Value} {Q : Value → Shared → Prop}
    (hC : h.get? C = some (excClassObj nm q C N bs bm hdct sn sub ab col dd k0 k1 k2 k3 k5 "ValueError.__new__")) (he : h.get? e = some (excO C t0)) (hu : h.get? u = some (kxs_mw "ValueError.__init__" e)) (hrest : rest.length ≤ sizeLine)
    (hq : ∀ h' t1, (∀ b o, b ≠ e → h.get? b = some o → h'.get? b = some o) → h'.get? e = some (excO C t1) → Q .none ⟨h', g, d, t, os⟩) :
    wpAny (model prog w) A (call (.ref u) rest) Q E ⟨h, g, d, t, os⟩ := by
  refine wpAny_call (codeAny_of_tree ?_)
  show wpAny _ A.in1 (callAny (.ref u) ⟨rest, []⟩) _ _ _
  simp only [callAny]
  refine wpAny_bind (wpAny_load hu ?_)
  simp only [kxs_mw, show (Value.type "method-wrapper" == Value.type "method" || Value.type "method-wrapper" == Value.type "builtin_function_or_method" || Value.type "method-wrapper" == Value.type "method-wrapper") = true by decide, if_true]
  refine KFB.if_so (by decide) ?_
  refine wpAny_bind (check_bound_init F.excBase_ValueError.toExcCallFacts hC he rfl ?_)
  refine wpAny_bind (wpAny_pure (wpAny_pure ?_))
  refine ⟨plainId_quiet F.excBase_ValueError.init.plain _, codeAny_builtin F.excBase_ValueError.initEntry ?_⟩
  exact exc_init_tree (cls := .ref C) (t0 := t0) (dv := none) (c2 := .none) (c3 := .none) (b4 := .bool false) he hrest fun h' k e' _ => hq h' _ k e'
end
section
variable {prog : Program} {w : World} {A : Around} {E : Value → Shared → Prop} {s : Shared} {K : Frag} {mg mb : Str → Option Value} {m : Str → Option Value}
theorem sup_eq {env : Env} {p0 p1 p2 p3 p4 : Pos} {tx : Str} {j : Nat} (hp : (p2.endLine == p4.line) = true) :
    eval (.Call (.Attribute (.Call (.Name "super" p0) [] [] p1) "__init__" p2) [.Constant (.str tx) j p3] [] p4) env = (do
      let ov ← attributeBase (.Call (.Name "super" p0) [] [] p1) "__init__" env (eval (.Call (.Name "super" p0) [] [] p1) env)
      standAt p2.atName
      let (f, first) ← holding [ov] (getMethod ov "__init__" (do return (← importBound (.Call (.Name "super" p0) [] [] p1) env).getD true))
      callWith p4 f first (backTo p4 (starEach [.Constant (.str tx) j p3] env)) []) := by
  have e : ∀ ov, methodCall (.Call (.Name "super" p0) [] [] p1) "__init__" p2 p4 env ov 1 (backTo p4 (starEach [.Constant (.str tx) j p3] env)) (backToKw p4 (keywordEach [] env)) = (do
      let (f, first) ← holding [ov] (getMethod ov "__init__" (do return (← importBound (.Call (.Name "super" p0) [] [] p1) env).getD true))
      callWith p4 f first (backTo p4 (starEach [.Constant (.str tx) j p3] env)) []) := fun ov => by
    unfold methodCall methodCallPos
    rw [hp, Bool.or_true, if_pos rfl]
    rfl
  show (do
    let ov ← attributeBase (.Call (.Name "super" p0) [] [] p1) "__init__" env (eval (.Call (.Name "super" p0) [] [] p1) env)
    standAt p2.atName
    methodCall (.Call (.Name "super" p0) [] [] p1) "__init__" p2 p4 env ov 1 (backTo p4 (starEach [.Constant (.str tx) j p3] env)) (backToKw p4 (keywordEach [] env))) = _
  simp only [e]
/-- super().__init__("..") -/
theorem sup_step {body : List Stmt} {qual : Str} {scope : Scope} {L f cda cc C x t0 : Addr} {fd : FuncData} {ar : Arg} {vs : Array Value} {file : Str} {tf : Tok} {oc ccl cl : Value} {od cdd cld : Option Addr} {osl ccs csl : Array (Option Value)} {p0 p1 p2 p3 p4 p5 : Pos} {tx : Str} {j : Nat} {Q : Flow → Shared → Prop}
    (X : K.In s.heap) (ox : L2.OexC K C) (hg : s.heap.Ns mainGlobals mg) (hmg : mg "super" = none) (hb : s.heap.Ns builtinsNs mb) (hmb : mb "super" = some (.type "super")) (hL : s.heap.Ns L m) (hx : s.heap.get? x = some (excO C t0)) (hxL : L ≠ x)
    (hv : m ("self" : Str) = some (.ref x)) (hf : K.lookup f = some ⟨oc, od, .func fd, osl⟩) (hp : (fd.params.posonlyargs ++ fd.params.args).head? = some ar) (har : ar.arg = ("self" : Str))
    (hcode : K.lookup cda = some ⟨ccl, cdd, .fields vs, ccs⟩) (hvs : vs[2]? = some (.str file tf)) (hfile : ((prog.main.file : Str) == file) = true) (hcell : K.lookup cc = some ⟨cl, cld, .cell (some (.ref C)), csl⟩)
    (hsub : mroIn K C (.ref C) = some true) (seer : nsIn K cStatics "thirdparty.any" = some none) (supI : ks_superIn K C C "__init__" = some (some (.builtin "ValueError.__init__"))) (subB : subIn K (.ref C) (.type "ValueError") = some true)
    (htop : (prog.main.scope.names.lookup ("super" : Str)).isSome = false)
    (hks : scope.names.lookup ("super" : Str) = some .globalImplicit) (hkc : scope.names.lookup ("__class__" : Str) = some .free) (hka : scope.names.lookup ("self" : Str) = some .local) (hk : scope.kind = .function)
    (hpos : (p2.endLine == p4.line) = true)
    (h : ∀ h' t' t1, (∀ b o, b ≠ x → s.heap.get? b = some o → h'.get? b = some o) → h'.get? x = some (excO C t1) → Q .next { s with heap := h', toks := t' }) :
    _root_.PySem.wpAt (model prog w) A (.func body (ksEnv qual scope L f (.ref cda) cc)) (exec (supS p0 p1 p2 p3 p4 p5 tx j) (ksEnv qual scope L f (.ref cda) cc)) Q E s := by
  obtain ⟨nm, q, N, bs, bm, sn, sub, ab, col, dd, k0, k1, k2, k3, k5, hC, hbm⟩ := ox.cls
  have hcl : clsIn K C = some { name := nm, bases := bs, mro := .ref C :: bm, ns := N, qualname := q, hasDict := true, slotNames := sn, subclasses := sub, abstract := ab, collection := col, hasDel := false } := by unfold clsIn; rw [hC] <;> rfl
  refine ks_wpAt_Expr_any (ks_wpAt_MethodCall ?_ (sup_eq hpos)) (by show (scope.kind == .module && _) = false; rw [hk]; rfl) (by rfl)
  obtain ⟨hp', g, d, t, os⟩ := s
  have hC' := X _ _ hC
  refine ks_wpAt_super_base (env := ksEnv qual scope L f (.ref cda) cc) hks hkc rfl rfl (X _ _ hf) rfl hp rfl (X _ _ hcode) rfl hvs hfile htop ?_
  refine ks_loadName_global hk hks (loadGlobal_builtin (env := ksEnv qual scope L f (.ref cda) cc) hg hmg hb hmb ⟨rfl, ?_⟩)
  refine wpAny_loadName_free hk hkc rfl ⟨_, X _ _ hcell, rfl⟩ ?_
  refine wpAny_loadName_local hk (by rw [har]; exact hka) hL (by rw [har]; exact hv) ?_
  refine ks_wpAny_isType_cls hC' rfl ⟨rfl, ?_⟩
  refine ks_wpAny_call_super hC' rfl hx rfl (fun c e => by cases e) (looks_mroIn X hsub) (fun h2 e k => ?_)
  have X2 : K.In h2 := X.keeps k
  have hx2 := k _ _ hx
  have I2 : InstAt h2 x (excO C t0) C none := ⟨hx2, rfl, rfl, trivial⟩
  have hI : Looks (model prog w) h2 (isInstance (.ref x) (.type "ValueError")) true := I2.type.andThen (looks_subIn X2 subB)
  unfold ks_superIn at supI
  rw [hcl] at supI
  refine kxs_getMethod kxs_ValueError e (looks_opaque X2 seer) (l₀ := .ref C :: bm) (fun A Q E s k q => wpAny_bind ((looks_clsIn X2 hcl) A _ E s k (wpAny_pure q))) rfl X2 supI hI (ks_ne X2 I2 hcl) rfl ?_
  have k3 : ∀ b o, h2.get? b = some o → (h2.push (kxs_mw "ValueError.__init__" x)).get? b = some o := fun b o e => Heap.get?_push_of_some _ e
  have hu : (h2.push (kxs_mw "ValueError.__init__" x)).get? h2.objs.size = some (kxs_mw "ValueError.__init__" x) := Heap.get?_push_at rfl rfl
  refine kxs_callWith (i := "ValueError.__init__") (x := x) (by rfl) (evalArgs_plain (spliced_cons (wpAny_Constant_str (k := j) (pos := p3) (spliced_nil ?_))))
  refine ⟨hu, ?_⟩
  exact call_vw (k3 _ _ (k _ _ hC')) (k3 _ _ hx2) hu (by rw [sizeLine_eq]; exact (by decide : 1 ≤ 16777216)) fun h' t1 k4 e4 => h h' _ t1 (fun b o hb e => k4 b o hb (k3 b o (k b o e))) e4
theorem ldN {M : Model} {A : Around} {E : Value → Shared → Prop} {s : Shared} {qual : Str} {scope : Scope} {L f cc : Addr} {cd : Value} {m : Str → Option Value} {x : Str} {pos : Pos} {v : Value} {Q : Value → Shared → Prop} (hk : scope.kind = .function) (hl : scope.names.lookup x = some .local) (hd : (x == ("__debug__" : Str)) = false)
    (hn : s.heap.Ns L m) (hv : m x = some v) (h : Q v s) : wpAny M A (eval (.Name x pos) (ksEnv qual scope L f cd cc)) Q E s := wpAny_Name (wpAny_loadName_local hk hl hn hv h) hd
abbrev xob (C t1 : Addr) (d : Option Addr) : Obj := { cls := .ref C, dict := d, data := .fields #[.ref t1, .none, .none, .none, .bool false, .none] }
theorem lookup_cons (f g : Str) (y : Value) (fs : List (Str × Value)) : ((f, y) :: fs).lookup g = if g = f then some y else fs.lookup g := by
  by_cases h : g = f
  · subst h; simp [List.lookup]
  · have e : (g == f) = false := by simpa using h
    rw [if_neg h]; simp [List.lookup, e]
theorem within_lookup : ∀ (fs : List (Str × Value)), Within (fun y => fs.lookup y) (fs.map (·.1))
  | [] => fun y hy => absurd rfl hy
  | (f, v) :: fs => fun y hy => by
    have hy' : ((f, v) :: fs).lookup y ≠ none := hy
    rw [lookup_cons] at hy'
    by_cases e : y = f
    · subst e; exact List.mem_cons_self ..
    · rw [if_neg e] at hy'
      exact List.mem_cons_of_mem _ (within_lookup fs y hy')
theorem setsB_inv {f : Str} {fs : List Str} {body : List Stmt} (h : setsB (f :: fs) body = true) : ∃ p1 p2 p3 p4 r, body = setF f p1 p2 p3 p4 :: r ∧ setsB fs r = true := by
  unfold setsB at h
  split at h
  · contradiction
  · rename_i ef
    injection ef with e0 e1
    subst e0; subst e1
    simp only [Bool.and_eq_true, beq_iff_eq] at h
    obtain ⟨⟨⟨e1, e2⟩, e3⟩, hb⟩ := h
    subst e1; subst e2; subst e3
    exact ⟨_, _, _, _, _, rfl, hb⟩
  · cases h
/-- the further fields -/
theorem sets_old {qual : Str} {scope : Scope} {L f cc C x t1 dx : Addr} {cd : Value} {Q : Flow → Shared → Prop} (ox : L2.OexC K C) (hk : scope.kind = .function) (hself : scope.names.lookup ("self" : Str) = some .local) (hv : m ("self" : Str) = some (.ref x)) (hxL : L ≠ x) (hdL : L ≠ dx) (hdx : dx ≠ x) :
    ∀ (fs : List Str) (vs : List Value) (body : List Stmt) (acc : List (Str × Value)) (s : Shared), setsB fs body = true → fs.length = vs.length → acc.length + fs.length ≤ 900 → (∀ y ∈ fs, findIn K (.ref C) y = some none) →
      (∀ y ∈ fs, scope.names.lookup y = some .local ∧ (y == ("__debug__" : Str)) = false) → (∀ p ∈ fs.zip vs, m p.1 = some p.2) → K.In s.heap → K.lookup x = none → K.lookup dx = none → s.heap.Ns L m → s.heap.get? x = some (xob C t1 (some dx)) → s.heap.Ns1 dx (fun y => acc.lookup y) →
      (∀ h' t', (∀ b o, b ≠ x → b ≠ dx → s.heap.get? b = some o → h'.get? b = some o) → h'.get? x = some (xob C t1 (some dx)) → h'.Ns1 dx (fun y => ((fs.zip vs).reverse ++ acc).lookup y) → Q .next { s with heap := h', toks := t' }) →
      wpAny (model prog w) A (execs body (ksEnv qual scope L f cd cc)) Q E s
  | [], vs, body, acc, s, hb, hl, ha, hno, hsc, hm, X, kx, kd, hL, hx, hd, h => by
    cases body with
    | cons a b => simp [setsB] at hb
    | nil => exact wpAny_execs_nil (h s.heap s.toks (fun _ _ _ _ e => e) hx hd)
  | y :: fs, vs, body, acc, s, hb, hl, ha, hno, hsc, hm, X, kx, kd, hL, hx, hd, h => by
    obtain ⟨q1, q2, q3, q4, r, rfl, hb2⟩ := setsB_inv hb
    cases vs with
    | nil => simp at hl
    | cons v vs =>
      refine wpAny_execs_cons (plainObj_wpAny_Assign_Attribute ?_)
      have hy := hsc y (List.mem_cons_self ..)
      refine ldN hk hy.1 hy.2 hL (hm (y, v) (List.mem_cons_self ..)) (ldN hk hself (by decide) hL hv ?_)
      obtain ⟨nm, q, N, bs, bm, sn, sub, ab, col, dd, k0, k1, k2, k3, k5, hC, hbm⟩ := ox.cls
      have hcl : clsIn K C = some { name := nm, bases := bs, mro := .ref C :: bm, ns := N, qualname := q, hasDict := true, slotNames := sn, subclasses := sub, abstract := ab, collection := col, hasDel := false } := by unfold clsIn; rw [hC] <;> rfl
      obtain ⟨hp, g, d, t, os⟩ := s
      have hw := within_lookup acc
      obtain ⟨oD, esD, epD, hoD, _, _⟩ := hd.count hw
      refine set_plain X (ox := xob C t1 (some dx)) (od := some oD) ⟨hx, rfl, rfl, hoD⟩ ox.sa ?_
      refine PySem.OEX.osa_old X hx hd hw (by rw [List.length_map]; simp at ha; omega) hcl (show refsVE (.ref C :: bm) = true from hbm) rfl (hno y (List.mem_cons_self ..)) (fun h' tk' k hn => ?_)
      have X' : K.In h' := fun a o e => k a o (fun z => by rw [z, kd] at e; cases e) (X a o e)
      have hL' : h'.Ns L m := hL.at fun o e => k L o hdL e
      refine sets_old ox hk hself hv hxL hdL hdx fs vs r ((y, v) :: acc) ⟨h', g, d, tk', os⟩ hb2 (by simpa using hl) (by simp at ha ⊢; omega) (fun z hz => hno z (List.mem_cons_of_mem _ hz)) (fun z hz => hsc z (List.mem_cons_of_mem _ hz))
        (fun p hp => hm p (List.mem_cons_of_mem _ hp)) X' kx kd hL' (k _ _ (Ne.symm hdx) hx) ?_ (fun h2 t2 k2 hx2 hn2 => ?_)
      · have e : (fun z => ((y, v) :: acc).lookup z) = fun z => if z = y then some v else acc.lookup z := by funext z; exact lookup_cons ..
        rw [e]; exact hn
      · refine h h2 t2 (fun b o b1 b2 e => k2 b o b1 b2 (k b o b2 e)) hx2 ?_
        have e : ((y :: fs).zip (v :: vs)).reverse ++ acc = (fs.zip vs).reverse ++ (y, v) :: acc := by simp
        rw [e]; exact hn2
theorem lookup_mem : ∀ {l : List (Str × Value)} {p : Str × Value}, (l.map (·.1)).Nodup → p ∈ l → l.lookup p.1 = some p.2
  | [], p, _, h => by cases h
  | (f, v) :: l, p, hn, h => by
    rw [lookup_cons]
    rw [List.map_cons, List.nodup_cons] at hn
    rcases List.mem_cons.mp h with e | e
    · subst e; rw [if_pos rfl]
    · rw [if_neg]
      · exact lookup_mem hn.2 e
      · intro z
        have k : p.1 ∈ l.map (·.1) := List.mem_map_of_mem e
        rw [z] at k
        exact hn.1 k
theorem zip_fst : ∀ {fs : List Str} {vs : List Value}, fs.length = vs.length → (fs.zip vs).map (·.1) = fs
  | [], vs, _ => by simp
  | f :: fs, [], h => by simp at h
  | f :: fs, v :: vs, h => by simp [zip_fst (fs := fs) (vs := vs) (by simpa using h)]
theorem lookup_rev {l : List (Str × Value)} {p : Str × Value} (hn : (l.map (·.1)).Nodup) (h : p ∈ l) : l.reverse.lookup p.1 = some p.2 :=
  lookup_mem (by rw [List.map_reverse]; exact (List.reverse_perm _).nodup_iff.mpr hn) (List.mem_reverse.mpr h)
theorem bodyB_inv {fs : List Str} {body : List Stmt} (h : bodyB fs body = true) : ∃ p0 p1 p2 p3 p4 p5 tx j r, body = supS p0 p1 p2 p3 p4 p5 tx j :: r ∧ (p2.endLine == p4.line) = true ∧ setsB fs r = true := by
  unfold bodyB at h
  split at h
  · simp only [Bool.and_eq_true] at h
    obtain ⟨⟨⟨e1, e2⟩, e3⟩, hb⟩ := h
    have e1 := eq_of_beq e1
    have e3 := eq_of_beq e3
    subst e1; subst e3
    exact ⟨_, _, _, _, _, _, _, _, _, rfl, e2, hb⟩
  · cases h
/-- what __init__ leaves of a fresh exception at x -/
structure InitEnd (h h' : Heap) (x C dx t1 : Addr) (fvs : List (Str × Value)) : Prop where
  keep : ∀ b o, b ≠ x → h.get? b = some o → h'.get? b = some o
  obj : h'.get? x = some (xob C t1 (some dx))
  dbig : h.objs.size ≤ dx
  dne : dx ≠ x
  ns : h'.Ns1 dx (fun y => fvs.lookup y)
theorem own_init {fI C x t0 : Addr} {nm : Str} {fs : List Str} {us : List Value} {R : Result → Shared → Prop} (T : ErrTxt prog K mg C fI nm fs) (X : K.In s.heap) (hlim : s.heap.NoLimit) (hg : s.heap.Ns mainGlobals mg) (hmg : mg "super" = none) (hb : s.heap.Ns builtinsNs mb) (hmb : mb "super" = some (.type "super"))
    (hx : s.heap.get? x = some (excO C t0)) (hnx : K.lookup x = none) (hroom : A.depth < recursionLimit) (hl : fs.length = us.length)
    (hq : ∀ h' tk dx t1, InitEnd s.heap h' x C dx t1 (fs.zip us).reverse → R (.ok (.ret .none)) { s with heap := h', toks := tk }) :
    codeAny (model prog w) A (.call (.ref fI) ⟨.ref x :: us, []⟩) R s := by
  obtain ⟨oc, od, qual, params, body, scope, dV, kV, doc, pm, ct, an, cda, cc, osl, file, tf, vs, ccl, cl, cdd, cld, ccs, csl, ho, hcd, hcode, hvs, hfile, hcell, hhead, hbind, hbody, hsc⟩ := T.fn
  unfold scopeB at hsc
  simp only [Bool.and_eq_true, Bool.not_eq_true', beq_iff_eq, decide_eq_true_eq, List.all_eq_true] at hsc
  obtain ⟨⟨⟨⟨⟨⟨⟨⟨s1, s2⟩, s3⟩, s4⟩, s5⟩, s6⟩, s7⟩, s8⟩, s9⟩ := hsc
  obtain ⟨p0, p1, p2, p3, p4, p5, tx, j, r, rfl, hpos, hsets⟩ := bodyB_inv hbody
  have nd : (((("self" : Str) :: fs).zip (.ref x :: us)).map (·.1)).Nodup := by
    rw [zip_fst (by simp [hl]), List.nodup_cons]
    exact ⟨fun z => (by have := (s8 _ z).1.2; simp at this), s9⟩
  obtain ⟨ar, har1, har2⟩ : ∃ ar, (params.posonlyargs ++ params.args).head? = some ar ∧ ar.arg = ("self" : Str) := by
    cases hh : (params.posonlyargs ++ params.args).head? with
    | none => rw [hh] at hhead; cases hhead
    | some ar => rw [hh] at hhead; exact ⟨ar, rfl, by simpa using hhead⟩
  have hxs : s.heap.objs.size ≠ x := Nat.ne_of_gt (Heap.lt_size hx)
  refine ks_codeAny_call_defAt (fd := ksFn "__init__" qual params (supS p0 p1 p2 p3 p4 p5 tx j :: r) scope dV kV doc pm an (.ref cda) ct cc) (binds := (("self" : Str) :: fs).zip (.ref x :: us)) hroom (X _ _ ho) rfl hlim (codeRec_of X hcd) rfl
    (hbind s (.ref x :: us) (by simp [hl])) (fun y hy => by have := s4 y hy; simpa using this) (fun y hy => ?_) (fun h₁ hns hk₁ => ?_) s2 s3 s1
  · have hm : y.1 ∈ ((("self" : Str) :: fs).zip (.ref x :: us)).map (·.1) := List.mem_map_of_mem hy
    rw [zip_fst (by simp [hl])] at hm
    rcases List.mem_cons.mp hm with e | e
    · rw [e]; exact s7
    · exact (s8 _ e).1.1
  · have X₁ : K.In h₁ := X.keeps hk₁
    have hx₁ := hk₁ _ _ hx
    have hself : ((("self" : Str) :: fs).zip (.ref x :: us)).reverse.lookup ("self" : Str) = some (.ref x) := lookup_rev nd (p := (("self" : Str), .ref x)) (by simp)
    refine ks_wpAt_execs_cons ?_
    refine sup_step (K := K) (mg := mg) (mb := mb) (m := fun y => ((("self" : Str) :: fs).zip (.ref x :: us)).reverse.lookup y) (t0 := t0) X₁ T.ox (hg.keeps hk₁) hmg (hb.keeps hk₁) hmb hns hx₁ hxs hself ho har1 har2 hcode hvs hfile hcell T.selfC T.seer T.supI T.subB T.htop s5 s6 s7 s1 hpos (fun h2 t2 t1 k2 hx2 => ?_)
    refine wpAt_of_wpAny ?_
    have X₂ : K.In h2 := fun a o e => k2 a o (fun z => by rw [z, hnx] at e; cases e) (X₁ a o e)
    obtain ⟨nm', q, N, bs, bm, sn, sub, ab, col, dd, k0, k1, kk2, k3, k5, hC, hbm⟩ := T.ox.cls
    have hcl : clsIn K C = some { name := nm', bases := bs, mro := .ref C :: bm, ns := N, qualname := q, hasDict := true, slotNames := sn, subclasses := sub, abstract := ab, collection := col, hasDel := false } := by unfold clsIn; rw [hC] <;> rfl
    cases fs with
    | nil => exact absurd rfl T.n1
    | cons y fs =>
    cases us with
    | nil => simp at hl
    | cons v us =>
    obtain ⟨q1, q2, q3, q4, rr, rfl, hb2⟩ := setsB_inv hsets
    have hy := s8 y (List.mem_cons_self ..)
    have hvy : (((("self" : Str) :: y :: fs).zip (.ref x :: v :: us)).reverse.lookup y) = some v := lookup_rev nd (p := (y, v)) (by simp)
    have hL2 : h2.Ns s.heap.objs.size (fun z => ((("self" : Str) :: y :: fs).zip (.ref x :: v :: us)).reverse.lookup z) := hns.at fun o e => k2 _ o hxs e
    refine wpAny_execs_cons (plainObj_wpAny_Assign_Attribute ?_)
    refine ldN s1 hy.1.1 (by simpa using hy.2) hL2 hvy (ldN s1 s7 (by decide) hL2 hself ?_)
    refine set_plain X₂ (ox := excO C t1) (od := none) ⟨hx2, rfl, rfl, trivial⟩ T.ox.sa ?_
    refine exc_osa X₂ hx2 hcl (show refsVE (.ref C :: bm) = true from hbm) rfl (T.noN y (List.mem_cons_self ..)) (fun h₃ tk₃ dx k₃ dn dne hx₃ hn₃ => ?_)
    have hsz : s.heap.objs.size < h₁.objs.size := hns.lt
    have hsz2 : s.heap.objs.size < h2.objs.size := hL2.lt
    have hdL : s.heap.objs.size ≠ dx := Nat.ne_of_lt (Nat.lt_of_lt_of_le hsz2 dn)
    have kd : K.lookup dx = none := by
      cases e : K.lookup dx with
      | none => rfl
      | some o => exact absurd (Nat.lt_of_lt_of_le (Heap.lt_size (X₂ _ _ e)) dn) (Nat.lt_irrefl _)
    have X₃ : K.In h₃ := fun a o e => k₃ a o (fun z => by rw [z, hnx] at e; cases e) (X₂ a o e)
    refine sets_old (m := fun z => ((("self" : Str) :: y :: fs).zip (.ref x :: v :: us)).reverse.lookup z) (t1 := t1) T.ox s1 s7 hself hxs hdL dne fs us rr [(y, v)] ⟨h₃, _, _, _, _⟩ hb2 (by simpa using hl) (by have := T.n2; simp at this ⊢; omega) (fun z hz => T.noN z (List.mem_cons_of_mem _ hz))
      (fun z hz => ⟨(s8 z (List.mem_cons_of_mem _ hz)).1.1, by simpa using (s8 z (List.mem_cons_of_mem _ hz)).2⟩) (fun p hp => lookup_rev nd (by simp; exact .inr (.inr hp))) X₃ hnx kd (hL2.at fun o e => k₃ _ o hxs e) hx₃ ?_ (fun h4 t4 k4 hx4 hn4 => ?_)
    · have e : (fun z => [(y, v)].lookup z) = fun z => if z = y then some v else none := by funext z; rw [lookup_cons]; rfl
      rw [e]; exact hn₃
    · refine hq h4 t4 dx t1 ⟨fun b o hb e => k4 b o hb ?_ (k₃ b o hb (k2 b o hb (hk₁ b o e))), hx4, Nat.le_of_lt (Nat.lt_of_lt_of_le hsz2 dn), dne, ?_⟩
      · exact Nat.ne_of_lt (Nat.lt_trans (Heap.lt_size e) (Nat.lt_of_lt_of_le hsz2 dn))
      · have e : ((y :: fs).zip (v :: us)).reverse = (fs.zip us).reverse ++ [(y, v)] := by simp
        rw [e]; exact hn4
end
end MPX
/-! an own error made: the rule -/
namespace MP
open PySem PySem.Spec PyProof.Rows L2

def PR : List (Str × V) → List (Str × Value) → Prop
  | [], [] => True
  | (f, v) :: l, (g, u) :: l' => f = g ∧ RelV v u ∧ PR l l'
  | _, _ => False
theorem PR.append : ∀ {a : List (Str × V)} {a' : List (Str × Value)} {b b'}, PR a a' → PR b b' → PR (a ++ b) (a' ++ b')
  | [], [], _, _, _, h => h
  | (f, v) :: l, (g, u) :: l', _, _, ⟨h1, h2, h3⟩, h => ⟨h1, h2, PR.append h3 h⟩
  | [], _ :: _, _, _, h, _ => h.elim
  | (_, _) :: _, [], _, _, h, _ => h.elim
theorem PR.reverse : ∀ {a : List (Str × V)} {a' : List (Str × Value)}, PR a a' → PR a.reverse a'.reverse
  | [], [], _ => True.intro
  | (f, v) :: l, (g, u) :: l', ⟨h1, h2, h3⟩ => by
    rw [List.reverse_cons, List.reverse_cons]
    exact (PR.reverse h3).append ⟨h1, h2, True.intro⟩
  | [], _ :: _, h => h.elim
  | (_, _) :: _, [], h => h.elim
theorem PR.zip : ∀ (fs : List Str) {vs : List V} {us : List Value}, Paired RelV vs us → PR (fs.zip vs) (fs.zip us)
  | [], _, _, _ => by simp [PR]
  | f :: fs, _, _, h => by
    cases h with
    | nil => simp [PR]
    | cons h1 h2 => exact ⟨rfl, h1, PR.zip fs h2⟩
theorem PR.look : ∀ {a : List (Str × V)} {a' : List (Str × Value)}, PR a a' → ∀ f, RelO (a.lookup f) (a'.lookup f)
  | [], [], _, _ => True.intro
  | (f, v) :: l, (g, u) :: l', ⟨h1, h2, h3⟩, y => by
    subst h1
    rw [lookup_put, MPX.lookup_cons]
    by_cases e : y = f
    · rw [if_pos e, if_pos e]; exact h2
    · rw [if_neg e, if_neg e]; exact PR.look h3 y
  | [], _ :: _, h, _ => h.elim
  | (_, _) :: _, [], h, _ => h.elim

/-- C(..) -/
def tMkE (C : Addr) (fs : List Str) (ta : TA) : L2.St → Hp → XK → Prop := fun σ H Q => ta σ H fun vs H1 => vs.length = fs.length ∧ ∀ d, H1 d = none → Q (.ref C) (some d) (upd H1 d (.xd (fs.zip vs).reverse))
section
variable {X : Cx} {C fI : Addr} {nm : Str} {fs : List Str}
theorem pmk_err {e : Expr} {es : List Expr} {ta : TA} {p pos : Pos} {k : Nat} (T : MPX.ErrTxt X.prog X.K X.mg C fI nm fs) (hr : Room k X.A) (ha : PA X (e :: es) ta) (hg : Gl X nm) (hdb : (nm == ("__debug__" : Str)) = false)
    (he : starEach (e :: es) X.env = (false, eval e X.env) :: starEach es X.env) (hpl : (backTo pos (starEach es X.env)).any (·.1) = false) :
    L2N.PMk X (.Call (.Name nm p) (e :: es) [] pos) (tMkE C fs ta) := by
  intro pins s σ H Q I h
  refine wpAny_Call_Name_kw (ld_glob I hg T.gC ?_ hdb)
  refine PySem.W.callWith_K (h₀ := X.base) I.ok.mod.kin T.ox.kC (thn (ha.run pos pins s σ H _ I h) fun us s1 hh => ?_) he hpl
  obtain ⟨vs, H1, I1, r1, hl, q1⟩ := hh
  refine ⟨I1.kIn, ?_⟩
  have hlu : fs.length = us.length := by rw [← hl]; exact Paired.length r1
  have hlim := I1.nolimit
  have n2 := T.n2
  obtain ⟨nm', q, N, bs, bm, sn, sub, ab, col, dd, k0, k1, kk2, k3, k5, hC, hbm⟩ := T.ox.cls
  obtain ⟨mb, hb1, hb2⟩ := I1.ok.mod.blt
  have hmb : mb "super" = some (.type "super") := (hb2 _ (by decide +kernel)).trans (by first | rfl | kernel_rfl | decide +kernel)
  have hmg := PySem.W.mg_none_of (n := "super") I1.ok.mod.kin I1.ok.mod.glob T.sup
  show wpAny _ _ (call (.ref C) us) _ _ _
  have hb1' := hb1.keeps I1.bk
  have hg1' := I1.ok.mod.glob.keeps I1.bk
  have hK := I1.kIn
  obtain ⟨hp, g, dr, tk, os⟩ := s1
  have hus : us.length ≤ sizeLine := by rw [sizeLine_eq]; omega
  have kk : ∀ b o, hp.get? b = some o → ((hp.push (PySem.W.kdv_tup us)).push (PySem.HandSPX.excO C hp.objs.size)).get? b = some o := fun b o e => Heap.get?_push_of_some _ (Heap.get?_push_of_some _ e)
  have hget : ((hp.push (PySem.W.kdv_tup us)).push (PySem.HandSPX.excO C hp.objs.size)).get? (hp.objs.size + 1) = some (PySem.HandSPX.excO C hp.objs.size) := by heap_get
  have hnx : X.K.lookup (hp.objs.size + 1) = none := by
    cases e : X.K.lookup (hp.objs.size + 1) with
    | none => rfl
    | some o =>
      have z : hp.get? (hp.objs.size + 1) = some o := hK _ _ e
      exact absurd (Nat.lt_of_succ_lt (Heap.lt_size z)) (Nat.lt_irrefl _)
  refine wpAny_call (PySem.HandSPX.call_own F.excBase_ValueError (fun X => PySem.HandSPX.refsVE_contains X bm hbm) (hK _ _ hC) (PySem.W.looks_findIn hK T.iC) (fun self => PySem.W.bind_fn hK self T.tC) hus ?_)
  refine MPX.own_init (s := ⟨(hp.push (PySem.W.kdv_tup us)).push (PySem.HandSPX.excO C hp.objs.size), g, dr, tk, os⟩) T (hK.keeps kk) (hlim.keeps kk) (hg1'.keeps kk) hmg (hb1'.keeps kk) hmb hget hnx ?_ hlu fun h' tk' dx t1 M => ?_
  · have := hr.dp
    show X.A.depth + 1 < recursionLimit
    omega
  · refine ⟨rfl, ?_⟩
    show L2N.MkP X pins σ Q (.ref (hp.objs.size + 1)) ⟨h', g, dr, tk', os⟩
    have dbig : hp.objs.size ≤ dx := by
      have := M.dbig
      have e : ((hp.push (PySem.W.kdv_tup us)).push (PySem.HandSPX.excO C hp.objs.size)).objs.size = hp.objs.size + 1 + 1 := by simp [Heap.size_push]
      rw [e] at this
      omega
    have old0 : ∀ b o, hp.get? b = some o → h'.get? b = some o := fun b o e => M.keep b o (Nat.ne_of_lt (Nat.lt_succ_of_lt (Heap.lt_size e))) (kk b o e)
    obtain ⟨G', g1, g2⟩ := restrict h' fun b => decide (b ≠ hp.objs.size + 1)
    have gk : ∀ b, b ≠ hp.objs.size + 1 → G'.get? b = h'.get? b := fun b hb => g1 b (decide_eq_true hb)
    have ge : G'.get? (hp.objs.size + 1) = none := g2 _ (by simp)
    have old : ∀ b o, hp.get? b = some o → G'.get? b = some o := fun b o q => (gk b (Nat.ne_of_lt (Nat.lt_succ_of_lt (Heap.lt_size q)))).trans (old0 b o q)
    have ob : ObjOk X.prog X.w (upd H1 dx (.xd (fs.zip vs).reverse)) G' dx (.xd (fs.zip vs).reverse) :=
      ⟨_, M.ns.at (fun o q => (gk dx M.dne).trans q), fun f => (PR.zip fs r1).reverse.look f⟩
    have J : Inv X pins σ (upd H1 dx (.xd (fs.zip vs).reverse)) ⟨G', g, dr, tk', os⟩ := I1.laid (t' := tk') old dbig ob
    refine ⟨_, _, _, ⟨G', g, dr, tk', os⟩, _, .ref C, some dx, rfl, J, fun b o q => ?_, ge, M.obj, ⟨rfl, rfl, fun vs e => by cases e; rfl⟩, rfl, rfl, ?_, rfl, I1.bare, raises_own T.ox.exC T.ox.tyC, q1 dx (I1.hok.fresh dbig)⟩
    · by_cases hb : b = hp.objs.size + 1
      · have q' : G'.get? b = some o := q
        rw [hb, ge] at q'; cases q'
      · exact (gk b hb).symm.trans q
    · rw [upd_ne (Ne.symm M.dne)]
      exact I1.hok.fresh (Nat.le_succ _)
end
end MP
/-! try with several clauses, each with or without a name -/
namespace MP
open PySem PySem.Spec PyProof.Rows L2 L2N

abbrev HK := Value × Option Nat × (Addr → Value → Option Addr → TS)
def endI (i : Nat) (D : Ends) : Ends := { nx := fun σ' H' => D.nx (σ'.set i none) H', rt := D.rt, bk := fun σ' H' => D.bk (σ'.set i none) H', ct := fun σ' H' => D.ct (σ'.set i none) H' }
def wManyA (K : PySem.W.Frag) (Wout : WX) (D : Ends) : List HK → WX
  | [] => Wout
  | (c, none, ts) :: r => fun cls d σ H => ∃ b, PySem.W.exmOne K cls c = some b ∧ (b = true → ∀ a, H a = none → ts a cls d D σ H) ∧ (b = false → wManyA K Wout D r cls d σ H)
  | (c, some i, ts) :: r => fun cls d σ H => ∃ b, PySem.W.exmOne K cls c = some b ∧ (b = true → ∀ a, H a = none → ts a cls d (endI i D) (σ.set i (some (.ref a))) H) ∧ (b = false → wManyA K Wout D r cls d σ H)
inductive HdsA (X : Cx) : List ExceptHandler → List HK → Prop
  | nil : HdsA X [] []
  | cons {x : Str} {c : Value} {ts : Addr → Value → Option Addr → TS} {b₀ : Stmt} {suite : List Stmt} {np pos' : Pos} {hds : List ExceptHandler} {l : List HK} (hc : Names X x c)
      (hsu : ∀ (a : Addr) (oe : Obj) (cls : Value) (d : Option Addr) (pn : List (Addr × Obj)), Zn cls d oe → (∃ vs, oe.data = .fields vs) → PSs (X.suite a ((a, oe) :: pn)) (b₀ :: suite) (ts a cls d)) (r : HdsA X hds l) :
      HdsA X (.ExceptHandler (some (.Name x np)) none (b₀ :: suite) pos' :: hds) ((c, none, ts) :: l)
  | as {x n : Str} {i : Nat} {c : Value} {ts : Addr → Value → Option Addr → TS} {b₀ : Stmt} {suite : List Stmt} {np pos' : Pos} {hds : List ExceptHandler} {l : List HK} (hc : Names X x c) (hi : X.N[i]? = some n) (hln : X.env.kindOf n = some .local)
      (hsu : ∀ (a : Addr) (oe : Obj) (cls : Value) (d : Option Addr) (pn : List (Addr × Obj)), Zn cls d oe → (∃ vs, oe.data = .fields vs) → PSs (X.suite a ((a, oe) :: pn)) (b₀ :: suite) (ts a cls d)) (r : HdsA X hds l) :
      HdsA X (.ExceptHandler (some (.Name x np)) (some n) (b₀ :: suite) pos' :: hds) ((c, some i, ts) :: l)
section
variable {X : Cx} {body : List Stmt} {h₀ : ExceptHandler} {hds : List ExceptHandler} {l : List HK} {pos : Pos} {tb : WX → TS} {Wout : WX}
theorem ps_try_manyA (hs : X.stack = X.env :: X.outer) (hf : X.env.frame = some X.env.locals) (hN : X.N.Nodup) (tk : L2N.Takes X Wout)
    (hb : ∀ (W : WX) (pn : List (Addr × Obj)) (xe : Value → Shared → Prop), L2N.Takes (X.tr pn xe) W → PassesOwn (model X.prog X.w) X.A X.env xe → PSs (X.tr pn xe) body (tb W))
    (hh : HdsA X (h₀ :: hds) l) : PS X (.Try body (h₀ :: hds) [] [] pos) (fun D σ H => tb (wManyA X.K Wout D l) D σ H) := by
  refine ⟨fun pins s σ H D I h => ?_⟩
  have ok := I.ok
  have hfr : X.A.frames = some (X.env :: X.outer) := by rw [ok.frames, hs]
  refine wpAny_Try_except ?_
  refine wpAny_mono ((hb (wManyA X.K Wout D l) (X.pn ++ pins) (fun e s₁ => wpAny (model X.prog X.w) X.A (noteFrame e X.env) (fun _ s₂ => wpAny (model X.prog X.w) X.A (setFlight e none) (fun _ s₃ =>
    wpAny (model X.prog X.w) X.A (handleBy e X.env (h₀ :: hds)) (SP X pins D) X.xe s₃) X.xe s₂) X.xe s₁) (fun u s' xx => ?_) PassesOwn.looking).run [] s σ H D (I.toTry _) h) (fun f s1 hsp => ?_) (fun e s1 he => he)
  · -- the catch
    obtain ⟨a, B, sI, pins', σ', H', cls, d, rfl, J', nb, up, sky, na, os, ag, w⟩ := xx
    have J : Inv X pins σ' H' sI := J'.ofTry ok
    have sky' : Sky B (X.env :: X.outer) a (Zn cls d) X.env.locals s'.heap := by rw [← hs]; exact sky
    show wpAny (model X.prog X.w) X.A (noteFrame (.ref a) X.env) _ _ _
    refine L2N.Sky.land Zn.steady hfr hf sky' fun h3 fl3 up3 => ?_
    have J3 : Inv X pins σ' H' { s' with heap := h3 } := J.landed nb fl3.1 (up.trans up3) os ag
    obtain ⟨oe3, vs3, he3, hz3, hd3⟩ := fl3.there
    have notFr : ∀ {h : Heap} {o : Obj} {vs : Array Value}, h.FunFrames B (X.env :: X.outer) → h.get? a = some o → o.data = .fields vs → a ∉ frs (X.env :: X.outer) := fun {h o vs} ff e dd hm => by
      obtain ⟨_, o', e', hnf⟩ := ff.mem hm
      rw [e] at e'; cases e'
      exact hnf _ dd
    have nfr := notFr fl3.2.2.1 he3 hd3
    have nL : a ≠ X.env.locals := fun z => nfr (List.mem_filterMap.mpr ⟨X.env, List.mem_cons_self, by rw [hf, z]⟩)
    have nF : a ∉ X.fs := fun hm => by
      obtain ⟨e, he, q⟩ := List.mem_filterMap.mp hm
      exact nfr (List.mem_filterMap.mpr ⟨e, List.mem_cons_of_mem _ he, q⟩)
    have S3 := J3.suite he3 hd3 na nL nF
    have LT : PySem.W.Looks (model X.prog X.w) h3 (typeOf (.ref a)) cls := fun A Q E s k q => wpAny_typeOf_ref (k _ _ he3) (by rw [hz3.1]; exact q)
    have test : ∀ {x : Str} {c : Value} {np : Pos} {Q : Value → Shared → Prop} {E : Value → Shared → Prop}, Names X x c → Q c { s' with heap := h3 } → wpAny (model X.prog X.w) (X.A.mark (some (.ref a))) (eval (.Name x np) X.env) Q E { s' with heap := h3 } := fun {x c np Q E} hc q => by
      obtain ⟨hg, hdbg, hm | ⟨hm, hv, hnn⟩⟩ := hc
      · exact ld_glob (X := X.suite a ((a, oe3) :: (X.pn ++ pins))) S3 hg hm q hdbg
      · exact ld_blt (X := X.suite a ((a, oe3) :: (X.pn ++ pins))) S3 hg hm hv q hnn hdbg
    have go : ∀ {hds' : List ExceptHandler} {l' : List HK}, HdsA X hds' l' → wManyA X.K Wout D l' cls d σ' H' →
        wpAny (model X.prog X.w) X.A (handleBy (.ref a) X.env hds') (SP X pins D) X.xe { s' with heap := h3 } := by
      intro hds' l' hk
      induction hk with
      | nil =>
        intro w
        refine wpAny_handleBy_nil ?_
        obtain ⟨k1, k2, k3, oe, vs, T, oT, ts', he, hz, hd, h1, hr⟩ := id fl3
        unfold PySem.passOn
        refine wpAny_bind (wpAny_field he hd h1 ?_)
        rw [if_neg (show ¬ ((Value.ref T == Value.none) = true) from by simp)]
        have fin : wpAny (model X.prog X.w) X.A (setFlight (.ref a) X.env.frame) (fun _ s4 => wpAny (model X.prog X.w) X.A (throw (.ref a) : Sem Flow) (SP X pins D) X.xe s4) X.xe { s' with heap := h3 } := by
          rw [hf]
          refine HandSPX.setFlight_upZ fl3 fun h4 hh4 up4 => wpAny_throw (tk _ _ ?_)
          exact ⟨a, B, sI, pins, σ', H', cls, d, rfl, J, nb, (up.trans up3).trans up4, .inr (.inr (by rw [hs]; exact hh4)), na, os, ag, w⟩
        first
          | exact wpAny_bind (wpAny_pure (wpAny_bind fin))
          | exact wpAny_bind fin
      | @cons x c ts b₀ suite np pos' hds2 l2 hc hsu r ih =>
        intro w
        obtain ⟨b, hb1, hyes, hno⟩ := w
        refine wpAny_handleBy_cons (codeAny_handlers_test ?_) (by intro q; cases q)
        have LM := PySem.W.exm_one (M := model X.prog X.w) (J3.kIn) LT hb1
        refine test hc (LM.here ?_)
        cases b with
        | true =>
          refine codeAny_handlers_suite ?_
          refine HandSPX.lands_againZ fl3 fun h4 fl4 up4 => ?_
          have J4 : Inv X pins σ' H' { s' with heap := h4 } := J.landed nb fl4.1 ((up.trans up3).trans up4) os ag
          obtain ⟨oe4, vs4, he4, hz4, hd4⟩ := fl4.there
          have S4 := J4.suite he4 hd4 na nL nF
          refine wpAny_mono ((hsu a oe4 cls d (X.pn ++ pins) hz4 ⟨_, hd4⟩).run [] _ _ H' _ S4 (hyes rfl a na)) (fun f s6 hsp => ?_) (fun _ _ z => False.elim z)
          cases f with
          | next =>
            obtain ⟨σ6, H6, S6, q6⟩ := hsp
            exact ⟨_, _, S6.unsuite ok, q6⟩
          | brk =>
            obtain ⟨σ6, H6, S6, q6⟩ := hsp
            exact ⟨_, _, S6.unsuite ok, q6⟩
          | cont =>
            obtain ⟨σ6, H6, S6, q6⟩ := hsp
            exact ⟨_, _, S6.unsuite ok, q6⟩
          | ret u =>
            obtain ⟨v6, σ6, H6, S6, r6, q6⟩ := hsp
            exact ⟨_, _, _, S6.unsuite ok, r6, q6⟩
        | false =>
          show wpAny _ X.A (handleBy (.ref a) X.env hds2) _ _ _
          exact ih (hno rfl)
      | @as x n i c ts b₀ suite np pos' hds2 l2 hc hi hln hsu r ih =>
        intro w
        obtain ⟨b, hb1, hyes, hno⟩ := w
        have hloc : Loc X.env.scope n := .inl hln
        refine wpAny_handleBy_cons (codeAny_handlers_test ?_) (by intro q; cases q)
        have LM := PySem.W.exm_one (M := model X.prog X.w) (J3.kIn) LT hb1
        refine test hc (LM.here ?_)
        cases b with
        | true =>
          refine codeAny_handlers_suite_as ?_
          refine HandSPX.lands_againZ fl3 fun h4 fl4 up4 => ?_
          have J4 : Inv X pins σ' H' { s' with heap := h4 } := J.landed nb fl4.1 ((up.trans up3).trans up4) os ag
          obtain ⟨oe4, vs4, he4, hz4, hd4⟩ := fl4.there
          have S4 := J4.suite he4 hd4 na nL nF
          refine store_ok (X := X.suite a ((a, oe4) :: (X.pn ++ pins))) (v := .ref a) S4 hN hi hloc rfl (fun s5 S5 => ?_) (.inr hln)
          refine wpAny_mono ((hsu a oe4 cls d (X.pn ++ pins) hz4 ⟨_, hd4⟩).run [] s5 _ H' _ S5 (hyes rfl a na)) (fun f s6 hsp => ?_) (fun _ _ z => False.elim z)
          have end_ : ∀ {σ6 : L2.St} {H6 : Hp} {Q : Shared → Prop}, Inv (X.suite a ((a, oe4) :: (X.pn ++ pins))) [] σ6 H6 s6 → (∀ s7, Inv X pins (σ6.set i none) H6 s7 → Q s7) →
              wpAny (model X.prog X.w) X.A (do bindName X.env n .none; unbindBehindTheSuite X.env n pos') (fun _ s7 => Q s7) X.xe s6 := fun {σ6 H6 Q} S6 hq => gone_ok (S6.unsuite ok) hN hi hln hq
          cases f with
          | next =>
            obtain ⟨σ6, H6, S6, q6⟩ := hsp
            exact end_ S6 fun s7 J7 => ⟨_, _, J7, q6⟩
          | brk =>
            obtain ⟨σ6, H6, S6, q6⟩ := hsp
            exact end_ S6 fun s7 J7 => ⟨_, _, J7, q6⟩
          | cont =>
            obtain ⟨σ6, H6, S6, q6⟩ := hsp
            exact end_ S6 fun s7 J7 => ⟨_, _, J7, q6⟩
          | ret u =>
            obtain ⟨v6, σ6, H6, S6, r6, q6⟩ := hsp
            exact end_ S6 fun s7 J7 => ⟨_, _, _, J7, r6, q6⟩
        | false =>
          show wpAny _ X.A (handleBy (.ref a) X.env hds2) _ _ _
          exact ih (hno rfl)
    exact go hh w
  · cases f with
    | next =>
      obtain ⟨σ', H', J', q⟩ := hsp
      exact wpAny_execs_nil ⟨σ', H', J'.ofTry ok, q⟩
    | brk =>
      obtain ⟨σ', H', J', q⟩ := hsp
      exact ⟨σ', H', J'.ofTry ok, q⟩
    | cont =>
      obtain ⟨σ', H', J', q⟩ := hsp
      exact ⟨σ', H', J'.ofTry ok, q⟩
    | ret u =>
      obtain ⟨v, σ', H', J', r, q⟩ := hsp
      exact ⟨v, σ', H', J'.ofTry ok, r, q⟩
end
end MP
/-! statements: the look -/
namespace MP
open PySem PySem.Spec PyProof.Rows L2

def noComp : Expr → Bool
  | .ListComp .. => false
  | .SetComp .. => false
  | .DictComp .. => false
  | _ => true
def noTup : Expr → Bool
  | .Tuple .. => false
  | _ => true
def isLc : Ex → Bool
  | .lc .. => true
  | .lcf .. => true
  | _ => false
/-- name = [..] on one line -/
def swapB (sc : Scope) (y : Str) (py : Pos) : Expr → Bool
  | .ListComp _ _ scope pos => (sc.names.lookup y == some .local) && (py.line == pos.line) && !(scope.names.any fun (n, k) => n == y && (k == .local || k == .cell))
  | _ => false
/-- a name that is shared with a comprehension -/
def celT (sc : Scope) : Expr → Bool
  | .Name y _ => !(sc.names.lookup y == some .local)
  | _ => false
def isIp : Bop → Operator → Bool
  | .add, .Add => true
  | .sub, .Sub => true
  | _, _ => false
def handlerP : ExceptHandler → Option (Str × Option Str × List Stmt)
  | .ExceptHandler (some (.Name x _)) n b _ => some (x, n, b)
  | _ => none
mutual
def chkS (T : NT) (N : List Str) (sc : Scope) (fb : Str → Bool) : Sm → Stmt → Bool
  | .expr e, s0 => match s0 with
    | .Expr x _ => noComp x && chkE T N sc fb e x
    | _ => false
  | .asg tg e, s0 => match s0 with
    | .Assign [t] x _ => if (isLc e && !celT sc t) = true then (match tg, t with
        | .nm i, .Name y py => T.hot.isNone && decide (N[i]? = some y) && swapB sc y py x && chkE T N sc fb e x
        | _, _ => false)
      else noStar t && (noComp x || celT sc t) && (noTup t || noTup x) && chkTg T.hot N sc fb tg t && chkE T N sc fb e x
    | _ => false
  | .asgI o i e, s0 => match s0 with
    | .Assign [.Subscript x y _] z _ => noSlice y && noComp z && chkE T N sc fb o x && chkE T N sc fb i y && chkE T N sc fb e z
    | _ => false
  | .aug i op e, s0 => match s0 with
    | .AugAssign (.Name x _) o y _ => isIp op o && !(T.hot == some i) && decide (N[i]? = some x) && (match sc.names.lookup x with | some .local => true | some .cell => fb x | _ => false) && chkE T N sc fb e y
    | _ => false
  | .ifs c a b, s0 => match s0 with
    | .If t x y _ => chkE T N sc fb c t && chkB T N sc fb a x && chkB T N sc fb b y
    | _ => false
  | .for tg it body, s0 => match s0 with
    | .For t i x [] _ => (T.hot.isNone || (T.hb && isR1 it && chkTg T.hot N sc fb tg t)) && noSet i && chkTg none N sc fb tg t && chkIt T N sc fb it i && chkB T N sc fb body x
    | _ => false
  | .whl c body, s0 => match s0 with
    | .While t x [] _ => T.hot.isNone && chkE T N sc fb c t && chkB T N sc fb body x
    | _ => false
  | .ret _ e, s0 => match s0 with
    | .Return (some x) _ => chkE T N sc fb e x
    | _ => false
  | .retN, s0 => match s0 with
    | .Return none _ => true
    | _ => false
  | .brk, s0 => match s0 with
    | .Break _ => true
    | _ => false
  | .cont, s0 => match s0 with
    | .Continue _ => true
    | _ => false
  | .pass, s0 => match s0 with
    | .Pass _ => true
    | _ => false
  | .raise c ns es, s0 => match s0 with
    | .Raise (some (.Call (.Name x _) xs [] _)) none _ => T.hot.isNone && decide (T.excs[c]? = some (x, ns)) && decide (ns ≠ []) && decide (ns.length = es.length) && glB sc x && chkEs T N sc fb es xs
    | _ => false
  | .tr body hs, s0 => match s0 with
    | .Try b (h :: hds) [] [] _ => T.hot.isNone && chkB T N sc fb body b && chkHs T N sc fb hs (h :: hds)
    | _ => false
def chkB (T : NT) (N : List Str) (sc : Scope) (fb : Str → Bool) : List Sm → List Stmt → Bool
  | [], [] => true
  | m :: ms, s :: ss => chkS T N sc fb m s && chkB T N sc fb ms ss
  | _, _ => false
def chkHs (T : NT) (N : List Str) (sc : Scope) (fb : Str → Bool) : List Hd → List ExceptHandler → Bool
  | [], [] => true
  | h :: hs, e :: es => chkH T N sc fb h e && chkHs T N sc fb hs es
  | _, _ => false
def chkH (T : NT) (N : List Str) (sc : Scope) (fb : Str → Bool) : Hd → ExceptHandler → Bool
  | .mk c i body, .ExceptHandler (some (.Name x _)) n (b0 :: b) _ => glB sc x && decide ((T.excs[c]?.map (·.1)) = some x) && (match i, n with
      | none, none => true
      | some i, some n => decide (N[i]? = some n) && (sc.names.lookup n == some .local)
      | _, _ => false) && chkB { T with hot := some (i.getD N.length), hb := false } N sc fb body (b0 :: b)
  | _, _ => false
end
end MP
/-! statements: what the look is worth, one by one -/
namespace MP
open PySem PySem.Spec PyProof.Rows L2

/-- the ends as the machine has them -/
structure FinC (J : JE) (K : PySem.W.Frag) (W : WX) (S : Sto) (F : Fz) (H : Hp) (C : Ct) (D : Ends) : Prop where
  nx : ∀ ρ' σ' S' F' H', Grow S F H S' F' H' → RelR J.hx F' K H' ρ' σ' → RelS F' K J.cl S' H' → C.nx ρ' S' → D.nx σ' H'
  rt : ∀ d S' F' v H', Grow S F H S' F' H' → RelS F' K J.cl S' H' → Rep F' K H' d v → C.rt d S' → D.rt v H'
  bk : ∀ ρ' σ' S' F' H', Grow S F H S' F' H' → RelR J.hx F' K H' ρ' σ' → RelS F' K J.cl S' H' → C.bk ρ' S' → D.bk σ' H'
  ct : ∀ ρ' σ' S' F' H', Grow S F H S' F' H' → RelR J.hx F' K H' ρ' σ' → RelS F' K J.cl S' H' → C.ct ρ' S' → D.ct σ' H'
  ex : ∀ x ρ' σ' S' F' H' C0 d fs, Grow S F H S' F' H' → RelR J.hx F' K H' ρ' σ' → RelS F' K J.cl S' H' → J.xa x.c = some C0 → (∀ n ∈ x.ns, PySem.W.findIn K (.ref C0) n = some none) → F' d → H' d = some (.xd fs) → fs.map (·.1) = x.ns →
    RepL F' K H' x.fs (fs.map (·.2)) → C.ex x ρ' S' → W (.ref C0) (some d) σ' H'
section
variable {J : JE} {K : PySem.W.Frag} {W : WX} {S S' : Sto} {F F' : Fz} {H H' : Hp} {C : Ct} {D : Ends} {ρ : Rho} {σ : L2.St}
theorem FinC.grow (f : FinC J K W S F H C D) (g : Grow S F H S' F' H') : FinC J K W S' F' H' C D :=
  ⟨fun _ _ _ _ _ h => f.nx _ _ _ _ _ (g.trans h), fun _ _ _ _ _ h => f.rt _ _ _ _ _ (g.trans h), fun _ _ _ _ _ h => f.bk _ _ _ _ _ (g.trans h), fun _ _ _ _ _ h => f.ct _ _ _ _ _ (g.trans h), fun _ _ _ _ _ _ _ _ _ h => f.ex _ _ _ _ _ _ _ _ _ (g.trans h)⟩
theorem FinC.x (f : FinC J K W S F H C D) (hρ : RelR J.hx F K H ρ σ) (hS : RelS F K J.cl S H) : FinX J K S F H (fun x S1 => C.ex x ρ S1) (fun c d H' => W c d σ H') :=
  fun x S' F' H' C0 d fs g rs h1 h2 h3 h4 h5 h6 q => f.ex x ρ σ S' F' H' C0 d fs g (hρ.grow g hS) rs h1 h2 h3 h4 h5 h6 q
theorem FinC.with (f : FinC J K W S F H C D) {nx : Rho → Sto → Prop} {nxD : L2.St → Hp → Prop} (h : ∀ ρ' σ' S' F' H', Grow S F H S' F' H' → RelR J.hx F' K H' ρ' σ' → RelS F' K J.cl S' H' → nx ρ' S' → nxD σ' H') :
    FinC J K W S F H { nx := nx, rt := C.rt, bk := C.bk, ct := C.ct, ex := C.ex } { D with nx := nxD } := ⟨h, f.rt, f.bk, f.ct, f.ex⟩
theorem FinC.loop (f : FinC J K W S F H C D) {nx : Rho → Sto → Prop} {nxD : L2.St → Hp → Prop} (h : ∀ ρ' σ' S' F' H', Grow S F H S' F' H' → RelR J.hx F' K H' ρ' σ' → RelS F' K J.cl S' H' → nx ρ' S' → nxD σ' H') :
    FinC J K W S F H { nx := nx, rt := C.rt, bk := C.nx, ct := nx, ex := C.ex } { D with nx := nxD, ct := nxD, bk := D.nx } := ⟨h, f.rt, f.nx, h, f.ex⟩
end
section
variable (G : GE) (J : JE) (K : PySem.W.Frag) (W : WX)
def tS (m : Sm) : TS := fun D σ H => ∃ ρ S F C, RelR J.hx F K H ρ σ ∧ RelS F K J.cl S H ∧ wpS G m ρ S C ∧ FinC J K W S F H C D
def tB (ms : List Sm) : TS := fun D σ H => ∃ ρ S F C, RelR J.hx F K H ρ σ ∧ RelS F K J.cl S H ∧ wpB G ms ρ S C ∧ FinC J K W S F H C D
end
theorem _root_.L2.PS.imp {X : Cx} {e : Stmt} {t t' : TS} (h : PS X e t) (i : ∀ D σ H, t' D σ H → t D σ H) : PS X e t' := ⟨fun pins s σ H Q I q => h.run pins s σ H Q I (i Q σ H q)⟩
theorem _root_.L2.PSs.imp {X : Cx} {e : List Stmt} {t t' : TS} (h : PSs X e t) (i : ∀ D σ H, t' D σ H → t D σ H) : PSs X e t' := ⟨fun pins s σ H Q I q => h.run pins s σ H Q I (i Q σ H q)⟩
/-- what statements want further -/
structure CokS (G : GE) (J : JE) (T : NT) (L : Nat) (X : Cx) : Prop where
  e : Cok G J T L X
  kind : X.env.scope.kind = .function
  stk : T.hot = none → X.stack = X.env :: X.outer
  fr : T.hot = none → X.env.frame = some X.env.locals
  own : T.hot = none → PassesOwn (model X.prog X.w) X.A X.env X.xe
  own2 : T.hb = true → PassesOwn (model X.prog X.w) X.A X.env X.xe
  mkx : ∀ k x ns, T.excs[k]? = some (x, ns) → ns ≠ [] → ∃ C fI, J.xa k = some C ∧ MPX.ErrTxt X.prog X.K X.mg C fI x ns
section
variable {G : GE} {J : JE} {T : NT} {L : Nat} {X : Cx} {W : WX}
theorem noswap {x : Expr} (h : noComp x = true) (t : Option Expr) (l : Nat) (env : Env) : swapsWith x t l env = pure false := by
  cases x <;> first | rfl | cases h
theorem noswapC {x t : Expr} {env : Env} (h : (noComp x || celT env.scope t) = true) (l : Nat) : swapsWith x (some t) l env = pure false := by
  rcases Bool.or_eq_true _ _ ▸ h with h | h
  · exact noswap h _ _ _
  · match t, h with
    | .Name y p, h =>
      have h2 : (env.kindOf y == some NameKind.local) = false := by
        unfold celT at h
        unfold Env.kindOf
        simpa using h
      unfold swapsWith
      cases x <;> first | rfl | (simp only [h2, Bool.and_false, Bool.false_and, pure_bind]) | (simp [h2])
theorem ok_sexpr {m : Ex} {e : Expr} {pos : Pos} (hn : noComp e = true) (h : Ok G J X W m e) : PS X (.Expr e pos) (tS G J X.K W (.expr m)) :=
  (ps_expr h.pe (noswap hn _ _ _)).imp fun D σ H ⟨ρ, S, F, C, hρ, hS, hw, fin⟩ =>
    ⟨ρ, S, F, _, _, hρ, hS, hw, fun d S' F' v H' g rs rp q => fin.nx ρ σ S' F' H' g (hρ.grow g hS) rs q, fin.x hρ hS⟩
theorem noswaps {t x : Expr} (h : (noTup t || noTup x) = true) (env : Env) (hl : ∀ (ts : List Expr) (p : Pos), t ≠ .List ts p) : swappedStores [t] x env = pure none := by
  unfold swappedStores
  cases t <;> first
    | rfl
    | exact absurd rfl (hl _ _)
    | (cases x <;> first | rfl | (simp [noTup] at h))
theorem nolist {ht : Option Nat} {N : List Str} {sc : Scope} {fb : Str → Bool} {tg : Tg} {t : Expr} (h : chkTg ht N sc fb tg t = true) (ts : List Expr) (p : Pos) : t ≠ .List ts p := fun e => by
  subst e; cases tg <;> simp [chkTg] at h
theorem one_ass {t : Expr} (h : noStar t = true) (env : Env) : (assignEach [t] env).map (·.2) = [assign t env] := by
  cases t <;> first | rfl | cases h
theorem asg_imp {tg : Tg} {e : Ex} {te : TE} (hte : ∀ σ H Q, tE G J X W e σ H Q → te σ H Q) : ∀ D σ H, tS G J X.K W (.asg tg e) D σ H → tAsg te (tG J X tg) D σ H := fun D σ H ⟨ρ, S, F, C, hρ, hS, hw, fin⟩ => by
  refine hte σ H _ ⟨ρ, S, F, _, _, hρ, hS, hw, fun d S' F' v H' g rs rp q => ?_, fin.x hρ hS⟩
  obtain ⟨ρ1, e1, q⟩ := q
  exact ⟨ρ, S', F', d, ρ1, hρ.grow g hS, rs, rp, e1, fun σ1 r1 _ => fin.nx ρ1 σ1 S' F' H' g r1 rs q⟩
theorem ok_asg (c : Cok G J T L X) {tg : Tg} {m : Ex} {t x : Expr} {pos : Pos} (h1 : noStar t = true) (h2 : (noComp x || celT X.env.scope t) = true) (h3 : (noTup t || noTup x) = true) (h4 : chkTg T.hot X.N X.env.scope X.fn tg t = true) (h : Ok G J X W m x) :
    PS X (.Assign [t] x pos) (tS G J X.K W (.asg tg m)) :=
  (ps_asg h.pe (okTg (J := J) c.nd c.calm c.hx tg t h4) (noswapC h2 _) (noswaps h3 _ (nolist h4)) (one_ass h1 _)).imp (asg_imp fun _ _ _ q => q)
theorem ok_asgN (c : Cok G J T L X) {i : Nat} {m : Ex} {y : Str} {py : Pos} {x : Expr} {pos : Pos} (ht : T.hot = none) (h : PS X (.Assign [.Name y py] x pos) (tAsg (tE G J X W m) (gName i))) : PS X (.Assign [.Name y py] x pos) (tS G J X.K W (.asg (.nm i) m)) :=
  h.imp fun D σ H ⟨ρ, S, F, C, hρ, hS, hw, fin⟩ => by
    refine ⟨ρ, S, F, _, _, hρ, hS, hw, fun d S' F' v H' g rs rp q => ?_, fin.x hρ hS⟩
    obtain ⟨ρ1, e1, q⟩ := q
    simp only [setT, Option.some.injEq] at e1
    subst e1
    exact fin.nx _ _ S' F' H' g ((hρ.grow g hS).set i rp (c.hx i d (by rw [ht]; exact fun z => nomatch z))) rs q
theorem ass_sub {o i : Expr} {pos : Pos} (h : noSlice i = true) (env : Env) (v : Value) : assign (.Subscript o i pos) env v = (do
      let ov ← holding [v] (eval o env)
      let iv ← holding [v, ov] (eval i env)
      standAt pos
      holding [v, ov, iv] (setItem ov iv v)
      release [v, ov, iv] []) := by
  cases i <;> first | rfl | cases h
theorem ok_asgI (c : Cok G J T L X) {mo mi me : Ex} {o i e : Expr} {p pos : Pos} (h1 : noSlice i = true) (h2 : noComp e = true) (ho : Ok G J X W mo o) (hi : Ok G J X W mi i) (he : Ok G J X W me e) : PS X (.Assign [.Subscript o i p] e pos) (tS G J X.K W (.asgI mo mi me)) := by
  refine (ps_asg he.pe (pg_sub ho.pe hi.pe (set_both (by have := hu70 c; omega)) (ass_sub h1 _)) (noswap h2 (some (.Subscript o i p)) pos.line X.env) rfl rfl).imp fun D σ H ⟨ρ, S, F, C, hρ, hS, hw, fin⟩ => ?_
  refine ⟨ρ, S, F, _, _, hρ, hS, hw, fun d1 S1 F1 v1 H1 g1 r1 p1 q1 => ?_, fin.x hρ hS⟩
  refine ⟨ρ, S1, F1, _, _, hρ.grow g1 hS, r1, q1, fun d2 S2 F2 v2 H2 g2 r2 p2 q2 => ?_, (fin.grow g1).x (hρ.grow g1 hS) r1⟩
  refine ⟨ρ, S2, F2, _, _, (hρ.grow g1 hS).grow g2 r1, r2, q2, fun d3 S3 F3 v3 H3 g3 r3 p3 q3 => ?_, ((fin.grow g1).grow g2).x ((hρ.grow g1 hS).grow g2 r1) r2⟩
  have p2' := p2.grow g3 r2
  have p1' := (p1.grow g2 r1).grow g3 r2
  have hrho := (((hρ.grow g1 hS).grow g2 r1).grow g3 r2)
  have ggg := (g1.trans g2).trans g3
  by_cases hstr : ∃ s, d3 = .str s
  · obtain ⟨s, rfl⟩ := hstr
    obtain ⟨p, kvs, rfl, h5, h6, q⟩ : ∃ p kvs, d2 = .ref p ∧ S3 p = some (.dct kvs) ∧ kvs.length < sizeLine ∧ C.nx ρ (supd S3 p (.dct (putD kvs (.inr s) d1))) := q3
    simp only [Rep] at p2' p3
    obtain ⟨wvs, hv, hk, hr⟩ := r3.ob p _ h5
    have hl : wvs.length = kvs.length := by have := congrArg List.length hk; simpa using this
    obtain ⟨k1, k2⟩ := putD_at (k := .inr s) p1' hk hr
    have g4 := grow_set (F := F3) (H := H3) h5 (.dK (putK wvs (keyV (.inr s)) v1)) (.dct (putD kvs (.inr s) d1))
    refine .inr ⟨p, _, p2', .inl ⟨wvs, keyV (.inr s), hv, p3.1, by omega, rfl⟩, ?_⟩
    have r4 : RelS F3 X.K J.cl (supd S3 p (.dct (putD kvs (.inr s) d1))) (upd H3 p (.dK (putK wvs (keyV (.inr s)) v1))) := r3.setOb h5 ⟨_, upd_same, k1, k2.mono (fun b f => f) fun b o f e => by
      rw [upd_ne]; exact e
      intro z; subst z; rw [r3.nf b f] at h5; cases h5⟩
    exact fin.nx _ _ _ _ _ (ggg.trans g4) (hrho.grow g4 r3) r4 q
  obtain ⟨n, rfl⟩ : ∃ n, d3 = .int n := by
    cases d3 with
    | int n => exact ⟨n, rfl⟩
    | str s => exact absurd ⟨s, rfl⟩ hstr
    | _ => exact False.elim q3
  obtain ⟨p, xs, j, rfl, h5, h6, q⟩ : ∃ p xs j, d2 = .ref p ∧ S3 p = some (.lst xs) ∧ ixN xs.length n = some j ∧ C.nx ρ (supd S3 p (.lst (xs.set j d1))) := q3
  simp only [Rep] at p2' p3
  obtain ⟨vs, hv, hr⟩ := r3.ob p _ h5
  refine .inl ⟨p, vs, n, j, p2', p3, hv, by rw [← hr.length]; exact h6, ?_⟩
  have g4 := grow_set (F := F3) (H := H3) h5 (.lst (vs.set j v1)) (.lst (xs.set j d1))
  have r4 := r3.setL h5 (hr.set j p1')
  have gg := ((g1.trans g2).trans g3).trans g4
  exact fin.nx _ _ _ _ _ gg (((((hρ.grow g1 hS).grow g2 r1).grow g3 r2)).grow g4 r3) r4 q
/-- the values of an augmented assignment -/
def ipD (K : PySem.W.Frag) (cl : Nat → Option Addr) (op : Bop) : TIp := fun x y H Q => ∃ dx dy S F Qd, Rep F K H dx x ∧ Rep F K H dy y ∧ RelS F K cl S H ∧ augR op dx dy S Qd ∧ Fin K cl S F H Qd Q
theorem ip_ok {cl : Nat → Option Addr} {op : Bop} {o : Operator} (h : isIp op o = true) : PIp X o (ipD X.K cl op) := by
  intro pins s σ H x y v u Q I rx ry ⟨dx, dy, S, F, Qd, h1, h2, hS, hw, fin⟩
  have intc : ∀ {i j : Int} {dx dy : D}, Rep F X.K H (.int i) x → Rep F X.K H (.int j) y → x = .int i ∧ y = .int j := fun {i j dx dy} a b => by
    simp only [Rep] at a b; exact ⟨a, b⟩
  unfold isIp at h
  split at h
  · unfold augR at hw
    split at hw
    · rename_i i j _
      obtain ⟨e1, e2⟩ := intc (dx := .non) (dy := .non) h1 h2
      exact ip_add pins s σ H x y v u Q I rx ry ⟨i, j, e1, e2, fin.here hS rep_int hw⟩
    · rename_i i j hh; cases hh
    · rename_i a b hh
      simp only [Rep] at h1 h2
      refine iop_add_str pins s σ H x y v u Q I rx ry ⟨mkS a, mkS b, h1.1, h2.1, ?_, ?_⟩
      · rw [mkS_length, mkS_length, sizeLine_eq]; have := hw.1; unfold LIM at this; omega
      · rw [mkS_append]
        refine fin.here hS (rep_str ⟨by rw [List.length_append]; exact hw.1, fun c hc => ?_⟩) hw.2
        rcases List.mem_append.mp hc with q | q
        · exact h1.2.2 c q
        · exact h2.2.2 c q
    · exact hw.elim
  · unfold augR at hw
    split at hw
    · rename_i hh; cases hh
    · rename_i i j _
      obtain ⟨e1, e2⟩ := intc (dx := .non) (dy := .non) h1 h2
      exact ip_sub pins s σ H x y v u Q I rx ry ⟨i, j, e1, e2, fin.here hS rep_int hw⟩
    · rename_i hh; cases hh
    · exact hw.elim
  · cases h
theorem ok_aug (c : Cok G J T L X) {i : Nat} {op : Bop} {o : Operator} {m : Ex} {x : Str} {e : Expr} {p pos : Pos} (h1 : isIp op o = true) (h2 : T.hot ≠ some i) (h3 : X.N[i]? = some x) (h4 : Loc X.env.scope x ∧ (X.fn x = true ∨ X.env.scope.names.lookup x = some .local)) (h : Ok G J X W m e) :
    PS X (.AugAssign (.Name x p) o e pos) (tS G J X.K W (.aug i op m)) :=
  (ps_aug c.nd h3 h4.1 h.pe (ip_ok (cl := J.cl) h1) h4.2).imp fun D σ H ⟨ρ, S, F, C, hρ, hS, ⟨x0, hx0, hw⟩, fin⟩ => by
    obtain ⟨v0, e1, e2, _⟩ := hρ.2 i x0 hx0
    refine ⟨v0, e1, ρ, S, F, _, _, hρ, hS, hw, fun d S' F' v H' g rs rp q => ?_, fin.x hρ hS⟩
    refine ⟨x0, d, S', F', _, e2.grow g hS, rp, rs, q, fun d2 S2 F2 v2 H2 g2 r2 p2 q2 => ?_⟩
    exact fin.nx _ _ S2 F2 H2 (g.trans g2) (((hρ.grow g hS).grow g2 rs).set i p2 (c.hx i d2 h2)) r2 q2
theorem ok_ifs {m : Ex} {a b : List Sm} {e : Expr} {x y : List Stmt} {pos : Pos} (h : Ok G J X W m e) (ha : PSs X x (tB G J X.K W a)) (hb : PSs X y (tB G J X.K W b)) : PS X (.If e x y pos) (tS G J X.K W (.ifs m a b)) :=
  (ps_if h.pt ha hb).imp fun D σ H ⟨ρ, S, F, C, hρ, hS, hw, fin⟩ => by
    refine ⟨ρ, S, F, fun k S1 => if k = true then wpB G a ρ S1 C else wpB G b ρ S1 C, _, hρ, hS, hw, fun k S' F' H' g rs q => ?_, fin.x hρ hS⟩
    cases k with
    | true =>
      rw [if_pos rfl] at q ⊢
      exact ⟨ρ, S', F', C, hρ.grow g hS, rs, q, fin.grow g⟩
    | false =>
      rw [if_neg Bool.false_ne_true] at q ⊢
      exact ⟨ρ, S', F', C, hρ.grow g hS, rs, q, fin.grow g⟩
theorem ok_ret {fr : Bool} {m : Ex} {e : Expr} {pos : Pos} (h : Ok G J X W m e) : PS X (.Return (some e) pos) (tS G J X.K W (.ret fr m)) :=
  (ps_ret h.pe).imp fun D σ H ⟨ρ, S, F, C, hρ, hS, hw, fin⟩ => by
    refine ⟨ρ, S, F, _, _, hρ, hS, hw, fun d S' F' v H' g rs rp q => ?_, fin.x hρ hS⟩
    cases fr with
    | false => exact fin.rt d S' F' v H' g rs rp q
    | true =>
      rw [if_pos rfl] at q
      obtain ⟨p, xs, rfl, hp, q⟩ := q
      simp only [Rep] at rp
      subst rp
      obtain ⟨vs, hv, hr⟩ := rs.ob p _ hp
      have g2 : Grow S' F' H' (sdel S' p) (fadd F' p) H' := by
        refine ⟨fun b f => .inl f, fun b o e k => ⟨e, ?_⟩, fun b f => ?_⟩
        · unfold sdel; split
          · rfl
          · exact k
        · rcases f with f | f
          · exact .inl f
          · subst f; exact .inr (.inr (by rw [hp]; exact fun z => nomatch z))
      have r2 : RelS (fadd F' p) X.K J.cl (sdel S' p) H' := by
        refine ⟨fun a o e => ?_, fun a f => ?_, fun a f => ?_⟩
        · have hne : a ≠ p := fun z => by subst z; rw [sdel_same] at e; cases e
          rw [sdel_ne hne] at e
          exact (rs.ob a o e).mono (fun b f => .inl f) (fun b o f q => q) fun o q => q
        · rcases f with f | f
          · unfold sdel; split
            · rfl
            · exact rs.nf a f
          · subst f; exact sdel_same
        · rcases f with f | f
          · exact rs.fh a f
          · subst f; rw [hv]; exact fun z => nomatch z
      refine fin.rt (.lst xs) (sdel S' p) (fadd F' p) (.ref p) H' (g.trans g2) r2 ?_ q
      simp only [Rep]
      exact ⟨p, vs, rfl, .inr rfl, hv, RepL.mono (fun b f => .inl f) (fun b o f q => q) xs vs hr⟩
theorem ok_while (cs : CokS G J T L X) (ht : T.hot = none) {m : Ex} {body : List Sm} {e : Expr} {x : List Stmt} {pos : Pos} (h : Ok G J X W m e) (hb : PSs X x (tB G J X.K W body)) : PS X (.While e x [] pos) (tS G J X.K W (.whl m body)) :=
  (ps_while (cs.own ht) h.pt hb).imp fun D σ H ⟨ρ, S, F, C, hρ, hS, ⟨Wd, ⟨m0, w0⟩, turn⟩, fin⟩ => by
    refine ⟨fun n σ' H' => ∃ ρ' S' F', Grow S F H S' F' H' ∧ RelR J.hx F' X.K H' ρ' σ' ∧ RelS F' X.K J.cl S' H' ∧ Wd n ρ' S', ⟨m0, ρ, S, F, .refl, hρ, hS, w0⟩, ?_⟩
    rintro n σ1 H1 ⟨ρ1, S1, F1, g1, r1, s1, w1⟩
    refine ⟨ρ1, S1, F1, fun k S2 => if k = true then wpB G body ρ1 S2 _ else C.nx ρ1 S2, _, r1, s1, turn n ρ1 S1 w1, fun k S2 F2 H2 g2 s2 q => ?_, (fin.grow g1).x r1 s1⟩
    cases k with
    | true =>
      rw [if_pos rfl] at q ⊢
      refine ⟨fun σ' H' => ∃ m', m' < n ∧ ∃ ρ' S' F', Grow S F H S' F' H' ∧ RelR J.hx F' X.K H' ρ' σ' ∧ RelS F' X.K J.cl S' H' ∧ Wd m' ρ' S', fun σ' H' z => z, ?_⟩
      refine ⟨ρ1, S2, F2, _, r1.grow g2 s1, s2, q, ((fin.grow g1).grow g2).loop fun ρ' σ' S' F' H' g3 r3 s3 ⟨m', hm, w⟩ => ⟨m', hm, ρ', S', F', (g1.trans g2).trans g3, r3, s3, w⟩⟩
    | false =>
      rw [if_neg Bool.false_ne_true] at q ⊢
      exact fin.nx ρ1 σ1 S2 F2 H2 (g1.trans g2) (r1.grow g2 s1) s2 q
theorem for_imp {tg : Tg} {it : It} {body : List Sm} : ∀ (D : Ends) (σ : L2.St) (H : Hp), tS G J X.K W (.for tg it body) D σ H → tFor (tI G J X W it) (tG J X tg) (tB G J X.K W body) D σ H := fun D σ H ⟨ρ, S, F, C, hρ, hS, hw, fin⟩ => by
  refine ⟨ρ, S, F, _, _, hρ, hS, hw, fun src xs S1 F1 H1 I g1 s1 hI q => ?_, fin.x hρ hS⟩
  refine ⟨fun k n σ' H' => n = xs.length - k ∧ k ≤ xs.length ∧ ∃ ρ' S' F', Grow S1 F1 H1 S' F' H' ∧ RelR J.hx F' X.K H' ρ' σ' ∧ RelS F' X.K J.cl S' H' ∧ forW src xs tg (wpB G body) C (xs.drop k) ρ' S', ⟨_, rfl, Nat.zero_le _, ρ, S1, F1, .refl, hρ.grow g1 hS, s1, q⟩, ?_⟩
  rintro k n σ2 H2 ⟨rfl, hk, ρ2, S2, F2, g2, r2, s2, q2⟩
  have stab : Stab src xs S2 := by
    cases e : xs.drop k with
    | nil => rw [e] at q2; exact q2.1
    | cons d r => rw [e] at q2; exact q2.1
  obtain ⟨stop, go⟩ := hI S2 F2 H2 k g2.fz (fun b o f e => (g2.keep b o e (s1.nf b f)).1) s2 stab
  cases hx : xs[k]? with
  | none =>
    have e : xs.drop k = [] := List.drop_eq_nil_of_le (List.getElem?_eq_none_iff.mp hx)
    rw [e] at q2
    exact .inl ⟨stop hx, fin.nx ρ2 σ2 S2 F2 H2 (g1.trans g2) r2 s2 q2.2⟩
  | some d =>
    obtain ⟨hlt, hd⟩ := List.getElem?_eq_some_iff.mp hx
    have e : xs.drop k = d :: xs.drop (k + 1) := by rw [List.drop_eq_getElem_cons hlt, hd]
    rw [e] at q2
    obtain ⟨_, ρ3, hset, q3⟩ := q2
    obtain ⟨go1, go2⟩ := go d hx
    refine .inr ⟨go1, fun σ' H' => xs.length - (k + 1) = xs.length - (k + 1) ∧ k + 1 ≤ xs.length ∧ ∃ ρ' S' F', Grow S1 F1 H1 S' F' H' ∧ RelR J.hx F' X.K H' ρ' σ' ∧ RelS F' X.K J.cl S' H' ∧ forW src xs tg (wpB G body) C (xs.drop (k + 1)) ρ' S',
      fun σ' H' z => ⟨xs.length - (k + 1), by omega, z⟩, fun y H3 hy => ?_⟩
    obtain ⟨F3, g3, s3, p3⟩ := go2 y H3 hy
    refine ⟨ρ2, S2, F3, d, ρ3, r2.grow g3 s2, s3, p3, hset, fun σ3 r3 _ => ?_⟩
    refine ⟨ρ3, S2, F3, _, r3, s3, q3, ((fin.grow g1).grow (g2.trans g3)).loop fun ρ' σ' S' F' H' g4 r4 s4 q4 => ⟨rfl, hlt, ρ', S', F', (g2.trans g3).trans g4, r4, s4, q4⟩⟩
theorem ok_for (cs : CokS G J T L X) (ht : T.hot = none) {tg : Tg} {it : It} {body : List Sm} {t i : Expr} {x : List Stmt} {pos : Pos} (hn : noSet i = true) (htg : chkTg none X.N X.env.scope X.fn tg t = true) (hi : PI X t i (tI G J X W it)) (hb : PSs X x (tB G J X.K W body)) :
    PS X (.For t i x [] pos) (tS G J X.K W (.for tg it body)) :=
  (ps_for (cs.own ht) (cs.e.calm ht) hi (okTg (J := J) (ht := none) cs.e.nd (fun _ => cs.e.calm ht) (fun i d _ => cs.e.hx i d (by rw [ht]; exact fun z => nomatch z)) tg t htg) hb (folded_of hn _)).imp for_imp
theorem ok_forH (cs : CokS G J T L X) (ht : T.hot ≠ none) (hbb : T.hb = true) {tg : Tg} {it : It} {body : List Sm} {t i : Expr} {x : List Stmt} {pos : Pos} (hn : noSet i = true) (htg : chkTg T.hot X.N X.env.scope X.fn tg t = true) (hi : L2H.PIH X t i (tI G J X W it)) (hb : PSs X x (tB G J X.K W body)) :
    PS X (.For t i x [] pos) (tS G J X.K W (.for tg it body)) :=
  (L2H.ps_forH (cs.own2 hbb) (cs.e.hotc ht) hi (okTg (J := J) cs.e.nd cs.e.calm cs.e.hx tg t htg) hb (folded_of hn _)).imp for_imp
end
end MP
/-! statements: raise, try, all -/
namespace MP
open PySem PySem.Spec PyProof.Rows L2
section
variable {G : GE} {J : JE} {T : NT} {L : Nat} {X : Cx} {W : WX}
theorem zip_fstV : ∀ {fs : List Str} {vs : List V}, fs.length = vs.length → (fs.zip vs).map (·.1) = fs ∧ (fs.zip vs).map (·.2) = vs
  | [], [], _ => ⟨rfl, rfl⟩
  | [], _ :: _, h => by simp at h
  | f :: fs, [], h => by simp at h
  | f :: fs, v :: vs, h => by
    obtain ⟨h1, h2⟩ := zip_fstV (fs := fs) (vs := vs) (by simpa using h)
    exact ⟨by simp [h1], by simp [h2]⟩
theorem ok_raise (cs : CokS G J T L X) (ht : T.hot = none) (tk : L2N.Takes X W) {c : Nat} {ns : List Str} {ms : List Ex} {x : Str} {es : List Expr} {p pos pos2 : Pos} (h1 : T.excs[c]? = some (x, ns)) (h2 : ns ≠ []) (h3 : ns.length = ms.length) (hg : glB X.env.scope x = true) (h : OkL G J X W ms es) :
    PS X (.Raise (some (.Call (.Name x p) es [] pos)) none pos2) (tS G J X.K W (.raise c ns ms)) := by
  obtain ⟨C, fI, hC, TX⟩ := cs.mkx c x ns h1 h2
  obtain ⟨g1, g2⟩ := gl_of hg
  cases h with
  | nil => simp at h3; exact absurd h3 h2
  | cons hn k1 k2 =>
    have hh : OkL G J X W _ _ := .cons hn k1 k2
    refine (L2N.ps_raise (cs.e.calm ht) tk (pmk_err TX (cs.e.room ht) hh.pa g1 g2 (star_cons hn _) (k2.star _ _).1)).imp fun D σ H ⟨ρ, S, F, C', hρ, hS, hw, fin⟩ => ?_
    simp only [wpS] at hw
    refine ⟨ρ, S, F, _, _, hρ, hS, wpEs_len _ hw, fun ds S1 F1 vs H1 g r q ⟨hl, q1⟩ => ?_, fin.x hρ hS⟩
    have hlen : ns.length = vs.length := by rw [← q.length, hl, h3]
    refine ⟨hlen.symm, fun d hd => ?_⟩
    obtain ⟨z1, z2⟩ := zip_fstV hlen
    have g3 : Grow S1 F1 H1 S1 (fadd F1 d) (upd H1 d (.xd (ns.zip vs).reverse)) := grow_new hd _
    have r3 := r.new hd (.xd (ns.zip vs).reverse)
    refine fin.ex ⟨c, ns.reverse, ds.reverse⟩ ρ σ S1 (fadd F1 d) _ C d _ (g.trans g3) ((hρ.grow g hS).grow g3 r) r3 hC (fun n hn => TX.noN n (List.mem_reverse.mp hn)) (.inr rfl) upd_same ?_ ?_ q1
    · rw [List.map_reverse, z1]
    · rw [List.map_reverse, z2]
      exact (q.grow g3 r).reverse

/-! ### except suites -/
def hotJ (J : JE) (K : PySem.W.Frag) (n i : Nat) (a d0 C : Addr) : JE := { J with hx := fun j dd => j = i → i < n → ∃ c ns fs, dd = .exc a d0 c ns fs ∧ J.xa c = some C ∧ ∀ n ∈ ns, PySem.W.findIn K (.ref C) n = some none }
def hotT (T : NT) (i : Nat) : NT := { T with hot := some i, hb := false }
theorem cok_suite (cs : CokS G J T L X) (ht : T.hot = none) (i : Nat) {a d0 C : Addr} {oe : Obj} {pn : List (Addr × Obj)} (hz : L2N.Zn (.ref C) (some d0) oe) (hf : ∃ vs, oe.data = .fields vs) :
    CokS G (hotJ J X.K X.N.length i a d0 C) (hotT T i) L (X.suite a ((a, oe) :: pn)) where
  e := {
    nd := cs.e.nd
    calm := fun z => nomatch z
    room := fun z => nomatch z
    un := cs.e.un
    fn := fun j nm ps kw e => ⟨(cs.e.fn j nm ps kw e).ex⟩
    con := cs.e.con
    blt := cs.e.blt
    hx := fun j d hj e _ => by subst e; exact absurd rfl hj
    ht := fun _ j e hj => by
      cases e
      exact ⟨X, a, d0, C, oe, pn, rfl, hz, hf, fun d q => q rfl hj⟩
    xcs := cs.e.xcs
    xok := cs.e.xok
    hotc := fun _ => ⟨(a, oe), ⟨rfl, let ⟨vs, e⟩ := hf; ⟨vs, e, hz.2.2 vs e⟩⟩, List.mem_cons_self ..⟩
    roomh := ⟨cs.e.roomh.dp, cs.e.roomh.un⟩
    fnh := fun j nm ps kw h1 h2 => ⟨(cs.e.fnh j nm ps kw h1 h2).ex⟩ }
  kind := cs.kind
  stk := fun z => nomatch z
  fr := fun z => nomatch z
  own := fun z => nomatch z
  own2 := fun z => nomatch z
  mkx := cs.mkx
theorem RelR.hx' {hx hx' : Nat → D → Prop} {F : Fz} {K : PySem.W.Frag} {H : Hp} {ρ : Rho} {σ : L2.St} (h : RelR hx F K H ρ σ) (q : ∀ i d, ρ[i]? = some (some d) → hx' i d) : RelR hx' F K H ρ σ := ⟨h.1, fun i d e => let ⟨v, e1, e2, _⟩ := h.2 i d e; ⟨v, e1, e2, q i d e⟩⟩
/-- what a suite is to keep -/
def tsA (G : GE) (J : JE) (K : PySem.W.Frag) (n i : Nat) (b : List Sm) : Addr → Value → Option Addr → TS := fun a cls d D σ H => ∃ d0 C, d = some d0 ∧ cls = .ref C ∧ tB G (hotJ J K n i a d0 C) K W0 b D σ H
/-- what the clauses are to say of an exception -/
def HdW (G : GE) (J : JE) (K : PySem.W.Frag) (W : WX) (hs : List Hd) (l : List HK) : Prop := ∀ (x : Exn) (D : Ends) (σ : L2.St) (H : Hp) (ρ : Rho) (S : Sto) (F : Fz) (C : Ct) (C0 d : Addr) (fs : List (Str × V)), RelR J.hx F K H ρ σ → RelS F K J.cl S H → J.xa x.c = some C0 →
  (∀ n ∈ x.ns, PySem.W.findIn K (.ref C0) n = some none) → F d → H d = some (.xd fs) → fs.map (·.1) = x.ns → RepL F K H x.fs (fs.map (·.2)) → wpHs G hs x ρ S C → FinC J K W S F H C D → wManyA K W D l (.ref C0) (some d) σ H
theorem hd_nil : HdW G J X.K W [] [] := fun x D σ H ρ S F C C0 d fs hρ hS h1 h2 h3 h4 h5 h6 hw fin => fin.ex x ρ σ S F H C0 d fs .refl hρ hS h1 h2 h3 h4 h5 h6 hw
theorem hd_none (cs : CokS G J T L X) (ht : T.hot = none) {c : Nat} {cv : Value} {b : List Sm} {hs : List Hd} {l : List HK}  (hx : ∀ c' C, J.xa c' = some C → PySem.W.exmOne X.K (.ref C) cv = some (G.anc c' c) ∧ PySem.W.kitOne X.K (.ref C) cv = some (G.anc c' c)) (h : HdW G J X.K W hs l) :
    HdW G J X.K W (.mk c none b :: hs) ((cv, none, tsA G J X.K X.N.length X.N.length b) :: l) := fun x D σ H ρ S F C C0 d fs hρ hS h1 h2 h3 h4 h5 h6 hw fin => by
  simp only [wpHs, wpH] at hw
  refine ⟨G.anc x.c c, (hx x.c C0 h1).1, fun e a ha => ?_, fun e => ?_⟩
  · rw [if_pos e] at hw
    refine ⟨d, C0, rfl, rfl, ρ, S, F, _, hρ.hx' fun j dd _ e1 e2 => absurd e2 (Nat.lt_irrefl _), hS, hw, ?_⟩
    have back : ∀ {ρ' : Rho} {σ' : L2.St} {F' : Fz} {H' : Hp}, RelR (hotJ J X.K X.N.length X.N.length a d C0).hx F' X.K H' ρ' σ' → RelR J.hx F' X.K H' ρ' σ' := fun r => r.hx' fun j dd _ => cs.e.hx j dd (by rw [ht]; exact fun z => nomatch z)
    exact ⟨fun ρ' σ' S' F' H' g r s q => fin.nx ρ' σ' S' F' H' g (back r) s q, fun dd S' F' v H' g s p q => fin.rt dd S' F' v H' g s p q, fun ρ' σ' S' F' H' g r s q => fin.bk ρ' σ' S' F' H' g (back r) s q,
      fun ρ' σ' S' F' H' g r s q => fin.ct ρ' σ' S' F' H' g (back r) s q, fun _ _ _ _ _ _ _ _ _ _ _ _ _ _ _ _ _ _ z => z.elim⟩
  · rw [if_neg (by rw [e]; exact Bool.false_ne_true)] at hw
    exact h x D σ H ρ S F C C0 d fs hρ hS h1 h2 h3 h4 h5 h6 hw fin
theorem hd_some (cs : CokS G J T L X) (ht : T.hot = none) {c i : Nat} {cv : Value} {b : List Sm} {hs : List Hd} {l : List HK}
    (hx : ∀ c' C, J.xa c' = some C → PySem.W.exmOne X.K (.ref C) cv = some (G.anc c' c) ∧ PySem.W.kitOne X.K (.ref C) cv = some (G.anc c' c)) (h : HdW G J X.K W hs l) :
    HdW G J X.K W (.mk c (some i) b :: hs) ((cv, some i, tsA G J X.K X.N.length i b) :: l) := fun x D σ H ρ S F C C0 d fs hρ hS h1 h2 h3 h4 h5 h6 hw fin => by
  simp only [wpHs, wpH] at hw
  refine ⟨G.anc x.c c, (hx x.c C0 h1).1, fun e a ha => ?_, fun e => ?_⟩
  · rw [if_pos e] at hw
    have hw := hw a d
    refine ⟨d, C0, rfl, rfl, ρ.set i (some (.exc a d x.c x.ns x.fs)), S, F, _, ?_, hS, hw, ?_⟩
    · have r0 : RelR (hotJ J X.K X.N.length i a d C0).hx F X.K H (ρ.set i none) (σ.set i none) := (hρ.unset i).hx' fun j dd e e1 _ => by
        subst e1
        by_cases hl : j < ρ.length
        · rw [List.getElem?_set_self hl] at e; cases e
        · rw [List.getElem?_eq_none (by simpa using hl)] at e; cases e
      have r1 := r0.set i (d := .exc a d x.c x.ns x.fs) (v := .ref a) (by unfold Rep; exact ⟨rfl, h3, fs, h4, h5, h6⟩) (fun _ _ => ⟨x.c, x.ns, x.fs, rfl, h1, h2⟩)
      rw [List.set_set, List.set_set] at r1
      exact r1
    · have back : ∀ {ρ' : Rho} {σ' : L2.St} {F' : Fz} {H' : Hp}, RelR (hotJ J X.K X.N.length i a d C0).hx F' X.K H' ρ' σ' → RelR J.hx F' X.K H' (ρ'.set i none) (σ'.set i none) := fun r => (r.unset i).hx' fun j dd _ => cs.e.hx j dd (by rw [ht]; exact fun z => nomatch z)
      exact ⟨fun ρ' σ' S' F' H' g r s q => fin.nx _ _ S' F' H' g (back r) s q, fun dd S' F' v H' g s p q => fin.rt dd S' F' v H' g s p q, fun ρ' σ' S' F' H' g r s q => fin.bk _ _ S' F' H' g (back r) s q,
        fun ρ' σ' S' F' H' g r s q => fin.ct _ _ S' F' H' g (back r) s q, fun _ _ _ _ _ _ _ _ _ _ _ _ _ _ _ _ _ _ z => z.elim⟩
  · rw [if_neg (by rw [e]; exact Bool.false_ne_true)] at hw
    exact h x D σ H ρ S F C C0 d fs hρ hS h1 h2 h3 h4 h5 h6 hw fin
theorem CokS.tr {X : Cx} (cs : CokS G J T L X) (ht : T.hot = none) {pn : List (Addr × Obj)} {xe : Value → Shared → Prop} (h : PassesOwn (model X.prog X.w) X.A X.env xe) : CokS G J T L (X.tr pn xe) where
  e := ⟨cs.e.nd, cs.e.calm, cs.e.room, cs.e.un, fun j nm ps kw e => ⟨(cs.e.fn j nm ps kw e).ex⟩, cs.e.con, cs.e.blt, cs.e.hx, fun _ j e => (by rw [ht] at e; cases e), cs.e.xcs, cs.e.xok, fun e => absurd ht e, cs.e.roomh, fun j nm ps kw h1 h2 => ⟨(cs.e.fnh j nm ps kw h1 h2).ex⟩⟩
  kind := cs.kind
  stk := cs.stk
  fr := cs.fr
  own := fun _ => h
  own2 := fun _ => h
  mkx := cs.mkx
theorem ok_try (cs : CokS G J T L X) (ht : T.hot = none) (tk : L2N.Takes X W) {body : List Sm} {hs : List Hd} {b : List Stmt} {h0 : ExceptHandler} {hds : List ExceptHandler} {l : List HK} {pos : Pos}
    (hb : ∀ (W : WX) (pn : List (Addr × Obj)) (xe : Value → Shared → Prop), L2N.Takes (X.tr pn xe) W → PassesOwn (model X.prog X.w) X.A X.env xe → PSs (X.tr pn xe) b (tB G J X.K W body))
    (hh : HdsA X (h0 :: hds) l) (hw : HdW G J X.K W hs l) : PS X (.Try b (h0 :: hds) [] [] pos) (tS G J X.K W (.tr body hs)) :=
  (ps_try_manyA (tb := fun W => tB G J X.K W body) (cs.stk ht) (cs.fr ht) cs.e.nd tk hb hh).imp fun D σ H ⟨ρ, S, F, C, hρ, hS, hw1, fin⟩ => by
    simp only [wpS] at hw1
    refine ⟨ρ, S, F, _, hρ, hS, hw1, ?_⟩
    exact ⟨fin.nx, fin.rt, fin.bk, fin.ct, fun x ρ' σ' S' F' H' C0 d fs g r s h1 h2 h3 h4 h5 h6 q => hw x D σ' H' ρ' S' F' C C0 d fs r s h1 h2 h3 h4 h5 h6 q (fin.grow g)⟩
theorem bnil : PSs X [] (tB G J X.K W []) := pss_nil.imp fun D σ H ⟨ρ, S, F, C, hρ, hS, hw, fin⟩ => by
  simp only [wpB] at hw
  exact fin.nx ρ σ S F H .refl hρ hS hw
theorem bcons {m : Sm} {ms : List Sm} {s : Stmt} {ss : List Stmt} (h1 : PS X s (tS G J X.K W m)) (h2 : PSs X ss (tB G J X.K W ms)) : PSs X (s :: ss) (tB G J X.K W (m :: ms)) :=
  (pss_cons h1 h2).imp fun D σ H ⟨ρ, S, F, C, hρ, hS, hw, fin⟩ => by
    simp only [wpB] at hw
    refine ⟨ρ, S, F, _, hρ, hS, hw, fin.with fun ρ' σ' S' F' H' g r s q => ⟨ρ', S', F', C, r, s, q, fin.grow g⟩⟩
mutual
theorem okSt : ∀ (m : Sm) (T : NT) (J : JE) (X : Cx) (W : WX) (s : Stmt), CokS G J T L X → L2N.Takes X W → chkS T X.N X.env.scope X.fn m s = true → PS X s (tS G J X.K W m)
  | .expr e, T, J, X, W, s, c, tk, h => by
    simp only [chkS] at h
    split at h
    · simp only [Bool.and_eq_true] at h
      exact ok_sexpr h.1 (okE _ e X W _ c.e tk h.2)
    · cases h
  | .asg tg e, T, J, X, W, s, c, tk, h => by
    simp only [chkS] at h
    split at h
    · split at h
      · split at h
        · simp only [Bool.and_eq_true, decide_eq_true_eq] at h
          obtain ⟨⟨⟨h1, h2⟩, h3⟩, h4⟩ := h
          have h1 : T.hot = none := Option.isNone_iff_eq_none.mp h1
          cases e with
          | lc m elt tg2 it own =>
            simp only [chkE] at h4
            split at h4
            · unfold swapB at h3
              rw [h1] at h4
              simp only [Bool.and_eq_true, decide_eq_true_eq, Bool.not_eq_true', Option.isNone_none, if_true] at h3 h4
              obtain ⟨⟨⟨⟨⟨⟨⟨_, a1⟩, a2⟩, a3⟩, a4⟩, a5⟩, a6⟩, a7⟩ := h4
              exact ok_asgN c.e h1 (set_lc c.e h1 c.kind h2 (eq_of_beq h3.1.1) h3.1.2 h3.2 (okIt _ it X W _ c.e tk a2 _) a1 a3 a5 a6 fun s H C cl fp => okE _ elt (X.blk s H _ (compEnvC _ cl C X.env) fp) W0 _ (c.e.blk h1 _ _ _ _ _) takesN0 a7)
            · cases h4
          | lcf m elt tg2 it cd own =>
            simp only [chkE] at h4
            split at h4
            · unfold swapB at h3
              simp only [Bool.and_eq_true, decide_eq_true_eq, Bool.not_eq_true'] at h3 h4
              obtain ⟨⟨⟨⟨⟨⟨⟨⟨_, a1⟩, a2⟩, a3⟩, a4⟩, a5⟩, a6⟩, a7⟩, a8⟩ := h4
              exact ok_asgN c.e h1 (set_lcf c.e h1 c.kind h2 (eq_of_beq h3.1.1) h3.1.2 h3.2 (okIt _ it X W _ c.e tk a2 _) a1 a3 a5 a6 (fun s H C cl fp => okE _ elt (X.blk s H _ (compEnvC _ cl C X.env) fp) W0 _ (c.e.blk h1 _ _ _ _ _) takesN0 a7)
                fun s H C cl fp => okE _ cd (X.blk s H _ (compEnvC _ cl C X.env) fp) W0 _ (c.e.blk h1 _ _ _ _ _) takesN0 a8)
            · cases h4
          | _ => rename_i q; simp [isLc] at q
        · cases h
      · simp only [Bool.and_eq_true] at h
        obtain ⟨⟨⟨⟨h1, h2⟩, h3⟩, h4⟩, h5⟩ := h
        exact ok_asg c.e h1 h2 h3 h4 (okE _ e X W _ c.e tk h5)
    · cases h
  | .asgI o i e, T, J, X, W, s, c, tk, h => by
    simp only [chkS] at h
    split at h
    · simp only [Bool.and_eq_true] at h
      obtain ⟨⟨⟨⟨h1, h2⟩, h3⟩, h4⟩, h5⟩ := h
      exact ok_asgI c.e h1 h2 (okE _ o X W _ c.e tk h3) (okE _ i X W _ c.e tk h4) (okE _ e X W _ c.e tk h5)
    · cases h
  | .aug i op e, T, J, X, W, s, c, tk, h => by
    simp only [chkS] at h
    split at h
    · simp only [Bool.and_eq_true, decide_eq_true_eq] at h
      obtain ⟨⟨⟨⟨h1, h2⟩, h3⟩, h4⟩, h5⟩ := h
      refine ok_aug c.e h1 (fun z => by rw [z] at h2; simp at h2) h3 ?_ (okE _ e X W _ c.e tk h5)
      split at h4
      · rename_i e; exact ⟨.inl e, .inr e⟩
      · rename_i e; exact ⟨.inr e, .inl h4⟩
      · cases h4
    · cases h
  | .ifs e a b, T, J, X, W, s, c, tk, h => by
    simp only [chkS] at h
    split at h
    · simp only [Bool.and_eq_true] at h
      exact ok_ifs (okE _ e X W _ c.e tk h.1.1) (okB a T J X W _ c tk h.1.2) (okB b T J X W _ c tk h.2)
    · cases h
  | .for tg it body, T, J, X, W, s, c, tk, h => by
    simp only [chkS] at h
    split at h
    · simp only [Bool.and_eq_true] at h
      obtain ⟨⟨⟨⟨h1, h2⟩, h3⟩, h4⟩, h5⟩ := h
      by_cases hz : T.hot = none
      · exact ok_for c hz h2 h3 (okIt _ it X W _ c.e tk h4 _) (okB body T J X W _ c tk h5)
      · simp only [Bool.or_eq_true, Bool.and_eq_true] at h1
        rcases h1 with h1 | h1
        · exact absurd (Option.isNone_iff_eq_none.mp h1) hz
        · obtain ⟨⟨k1, k2⟩, k3⟩ := h1
          cases it with
          | rng1 e =>
            simp only [chkIt] at h4
            split at h4
            · simp only [Bool.and_eq_true, decide_eq_true_eq] at h4
              obtain ⟨⟨⟨rfl, i2⟩, i3⟩, i4⟩ := h4
              exact ok_forH c hz k1 h2 k3 (ok_itR1H c.e i2 i3 (okE _ e X W _ c.e tk i4)) (okB body T J X W _ c tk h5)
            · cases h4
          | _ => cases k2
    · cases h
  | .whl e body, T, J, X, W, s, c, tk, h => by
    simp only [chkS] at h
    split at h
    · simp only [Bool.and_eq_true] at h
      exact ok_while c (Option.isNone_iff_eq_none.mp h.1.1) (okE _ e X W _ c.e tk h.1.2) (okB body T J X W _ c tk h.2)
    · cases h
  | .ret fr e, T, J, X, W, s, c, tk, h => by
    simp only [chkS] at h
    split at h
    · exact ok_ret (okE _ e X W _ c.e tk h)
    · cases h
  | .retN, T, J, X, W, s, c, tk, h => by
    simp only [chkS] at h
    split at h
    · exact ps_retN.imp fun D σ H ⟨ρ, S, F, C, hρ, hS, hw, fin⟩ => fin.rt .non S F .non H .refl hS rep_non hw
    · cases h
  | .brk, T, J, X, W, s, c, tk, h => by
    simp only [chkS] at h
    split at h
    · exact ps_break.imp fun D σ H ⟨ρ, S, F, C, hρ, hS, hw, fin⟩ => fin.bk ρ σ S F H .refl hρ hS hw
    · cases h
  | .cont, T, J, X, W, s, c, tk, h => by
    simp only [chkS] at h
    split at h
    · exact ps_continue.imp fun D σ H ⟨ρ, S, F, C, hρ, hS, hw, fin⟩ => fin.ct ρ σ S F H .refl hρ hS hw
    · cases h
  | .pass, T, J, X, W, s, c, tk, h => by
    simp only [chkS] at h
    split at h
    · exact ps_pass.imp fun D σ H ⟨ρ, S, F, C, hρ, hS, hw, fin⟩ => fin.nx ρ σ S F H .refl hρ hS hw
    · cases h
  | .raise k ns es, T, J, X, W, s, c, tk, h => by
    simp only [chkS] at h
    split at h
    · simp only [Bool.and_eq_true, decide_eq_true_eq] at h
      obtain ⟨⟨⟨⟨⟨h1, h2⟩, h3⟩, h4⟩, h5⟩, h6⟩ := h
      exact ok_raise c (Option.isNone_iff_eq_none.mp h1) tk h2 h3 h4 h5 (okEs _ es X W _ c.e tk h6)
    · cases h
  | .tr body hs, T, J, X, W, s, c, tk, h => by
    simp only [chkS] at h
    split at h
    · simp only [Bool.and_eq_true] at h
      obtain ⟨⟨h1, h2⟩, h3⟩ := h
      have h1 : T.hot = none := Option.isNone_iff_eq_none.mp h1
      obtain ⟨l, hl1, hl2⟩ := okHs hs T J X W _ c h1 h3
      exact ok_try c h1 tk (fun W' pn xe tk' ow => okB body T J (X.tr pn xe) W' _ (c.tr h1 ow) tk' h2) hl1 hl2
    · cases h
theorem okB : ∀ (ms : List Sm) (T : NT) (J : JE) (X : Cx) (W : WX) (ss : List Stmt), CokS G J T L X → L2N.Takes X W → chkB T X.N X.env.scope X.fn ms ss = true → PSs X ss (tB G J X.K W ms)
  | [], T, J, X, W, ss, c, tk, h => by
    cases ss with
    | nil => exact bnil
    | cons _ _ => simp [chkB] at h
  | m :: ms, T, J, X, W, ss, c, tk, h => by
    cases ss with
    | nil => simp [chkB] at h
    | cons s ss =>
      simp only [chkB, Bool.and_eq_true] at h
      exact bcons (okSt m T J X W s c tk h.1) (okB ms T J X W ss c tk h.2)
theorem okHs : ∀ (hs : List Hd) (T : NT) (J : JE) (X : Cx) (W : WX) (es : List ExceptHandler), CokS G J T L X → T.hot = none → chkHs T X.N X.env.scope X.fn hs es = true → ∃ l, HdsA X es l ∧ HdW G J X.K W hs l
  | [], T, J, X, W, es, c, ht, h => by
    cases es with
    | nil => exact ⟨[], .nil, hd_nil⟩
    | cons _ _ => simp [chkHs] at h
  | hd :: hs, T, J, X, W, es, c, ht, h => by
    cases es with
    | nil => simp [chkHs] at h
    | cons e es =>
      simp only [chkHs, Bool.and_eq_true] at h
      obtain ⟨l, l1, l2⟩ := okHs hs T J X W es c ht h.2
      exact okH hd hs T J X W e es l c ht h.1 l1 l2
theorem okH : ∀ (hd : Hd) (hs : List Hd) (T : NT) (J : JE) (X : Cx) (W : WX) (e : ExceptHandler) (es : List ExceptHandler) (l : List HK), CokS G J T L X → T.hot = none → chkH T X.N X.env.scope X.fn hd e = true → HdsA X es l → HdW G J X.K W hs l → ∃ l, HdsA X (e :: es) l ∧ HdW G J X.K W (hd :: hs) l
  | .mk k i body, hs, T, J, X, W, e, es, l, c, ht, h, l1, l2 => by
    cases e with
    | ExceptHandler ty n b p =>
      cases ty with
      | none => simp [chkH] at h
      | some ty =>
        cases ty with
        | Name x np =>
          cases b with
          | nil => simp [chkH] at h
          | cons b0 b =>
            simp only [chkH, Bool.and_eq_true, decide_eq_true_eq] at h
            obtain ⟨⟨⟨h1, h2⟩, h3⟩, h4⟩ := h
            obtain ⟨⟨x', ns⟩, e1, e2⟩ := Option.map_eq_some_iff.mp h2
            have e2 : x' = x := e2
            subst e2
            obtain ⟨v, cv, r1, r2, r3, r4⟩ := c.e.xcs k x' ns e1
            obtain ⟨g1, g2⟩ := gl_of h1
            have nm : Names X x' cv := ⟨g1, g2, r3⟩
            cases i with
            | none =>
              cases n with
              | some _ => simp at h3
              | none =>
                refine ⟨_, .cons (ts := tsA G J X.K X.N.length X.N.length body) nm (fun a oe cls d pn hz hf => ?_) l1, hd_none c ht r4 l2⟩
                refine ⟨fun pins s σ H D I ⟨d0, C, q1, q2, q3⟩ => ?_⟩
                subst q1; subst q2
                exact (okB body (hotT T X.N.length) (hotJ J X.K X.N.length X.N.length a d0 C) (X.suite a ((a, oe) :: pn)) W0 _ (cok_suite c ht X.N.length hz hf) takesN0 h4).run pins s σ H D I q3
            | some i =>
              cases n with
              | none => simp at h3
              | some n =>
                simp only [Bool.and_eq_true, decide_eq_true_eq] at h3
                refine ⟨_, .as (ts := tsA G J X.K X.N.length i body) nm h3.1 (eq_of_beq h3.2) (fun a oe cls d pn hz hf => ?_) l1, hd_some c ht r4 l2⟩
                refine ⟨fun pins s σ H D I ⟨d0, C, q1, q2, q3⟩ => ?_⟩
                subst q1; subst q2
                exact (okB body (hotT T i) (hotJ J X.K X.N.length i a d0 C) (X.suite a ((a, oe) :: pn)) W0 _ (cok_suite c ht i hz hf) takesN0 h4).run pins s σ H D I q3
        | _ => simp [chkH] at h
end
end
end MP
/-! defs and the end -/
namespace MP
open PySem PySem.Spec PyProof.Rows L2

def rho0 (n : Nat) (ds : List D) : Rho := ds.map some ++ List.replicate (n - ds.length) none
/-- what is wanted of a def's body: lists that are met no more may be forgotten -/
def ctEnd (Q : Post) (E : XPost) : Ct where
  nx := fun _ S' => ∃ S'', Sub S'' S' ∧ Q .non S''
  rt := fun d S' => ∃ S'', Sub S'' S' ∧ Q d S''
  bk := fun _ _ => False
  ct := fun _ _ => False
  ex := fun x _ S' => ∃ S'', Sub S'' S' ∧ E x S''
section
variable {F F' : Fz} {K : PySem.W.Frag} {H H' : Hp} {cl : Nat → Option Addr} {S S' S'' : Sto}
theorem RelS.sub (r : RelS F K cl S' H) (h : Sub S'' S') : RelS F K cl S'' H :=
  ⟨fun a o e => r.ob a o (h a o e), fun a f => (by
    cases e : S'' a with
    | none => rfl
    | some o =>
      have q := h a o e
      rw [r.nf a f] at q
      cases q), r.fh⟩
theorem Grow.sub (g : Grow S F H S' F' H') (h : Sub S'' S') : Grow S F H S'' F' H' :=
  ⟨g.fz, fun b o e k => ⟨(g.keep b o e k).1, (by
    cases q : S'' b with
    | none => rfl
    | some u =>
      have q2 := h b u q
      rw [(g.keep b o e k).2] at q2
      cases q2)⟩, g.new⟩
end
/-- what holds of the whole program, whatever def runs -/
structure Bs (G : GE) (J : JE) (T : NT) (L : Nat) (P : Program) (w : World) (K : PySem.W.Frag) (mg : Str → Option Value) (base : Heap) : Prop where
  hot : T.hot = none
  fn : ∀ i nm ps kw, T.fns[i]? = some (nm, ps, kw) → ∃ f fd, mg nm = some (.ref f) ∧ PySem.W.keepIn K (.ref f) = true ∧ Binds K fd ps [] ∧ FnOk P w K mg base (L2N.CX P w) L f fd ps (spD K J (G.sp i)) ∧
    ∀ q ∈ kw, ∀ (s : Shared) (ws : List Value), ws.length = q.1.length → (permV q.2 ws).length = ps.length → BindsTo s fd ⟨[], q.1.zip ws⟩ (ps.zip (permV q.2 ws))
  fnh : ∀ i nm ps kw, i ∈ T.hots → T.fns[i]? = some (nm, ps, kw) → ∃ f fd, mg nm = some (.ref f) ∧ PySem.W.keepIn K (.ref f) = true ∧ Binds K fd ps [] ∧ L2H.FnH P w K mg base (L2N.CX P w) L f fd ps (spD K J (G.sp i))
  hbf : T.hb = false
  con : ∀ i x, T.cons[i]? = some x → ∃ u v, mg x = some u ∧ RelV v u ∧ Rep (fun _ => False) K (fun _ => none) (G.con i) v
  blt : ∀ x ∈ bltNames, mg x = none
  hx : ∀ i d, J.hx i d
  xcs : ∀ k x ns, T.excs[k]? = some (x, ns) → ∃ (v : V) (cv : Value), RelV v cv ∧ (∀ u, RelV v u → u = cv) ∧ (mg x = some cv ∨ (mg x = none ∧ bootBuiltins x = some cv ∧ x ≠ "__name__")) ∧
    ∀ c C, J.xa c = some C → PySem.W.exmOne K (.ref C) cv = some (G.anc c k) ∧ PySem.W.kitOne K (.ref C) cv = some (G.anc c k)
  xok : ∀ c C, J.xa c = some C → XfC K C ∧ ExcC K C
  mkx : ∀ k x ns, T.excs[k]? = some (x, ns) → ns ≠ [] → ∃ C fI, J.xa k = some C ∧ MPX.ErrTxt P K mg C fI x ns
section
variable {G : GE} {J : JE} {T : NT} {L : Nat} {P : Program} {w : World} {K : PySem.W.Frag} {mg : Str → Option Value} {base : Heap}
theorem fn_ok (b : Bs G J T L P w K mg base) {f : Addr} {name qual : Str} {params : Arguments} {body : List Stmt} {scope : Scope} {dV kV doc pm cdv ct oc : Value} {an od : Option Addr} {osl : Array (Option Value)} {N ps : List Str} {sp : SpecD} {ms : List Sm}
    (lk : K.lookup f = some ⟨oc, od, .func (PySem.W.fnOf name qual params body scope dV kV doc pm an cdv ct), osl⟩) (hcd : PySem.W.codeIn K cdv qual = true) (S : FnScope N ps scope) (len : ∀ ds S Q E, sp ds S Q E → ds.length = ps.length)
    (chk : chkB T N scope (fun _ => true) ms body = true) (hw : ∀ ds S Q E, sp ds S Q E → wpB G ms (rho0 N.length ds) S (ctEnd Q E)) :
    FnOk P w K mg base (L2N.CX P w) (L + 1) f (PySem.W.fnOf name qual params body scope dV kV doc pm an cdv ct) ps (spD K J sp) := by
  refine fn_of lk hcd S (fun vs H Q E ⟨ds, S0, F, Qd, Ed, h1, h2, h3, _⟩ => by rw [← h1.length]; exact len ds S0 Qd Ed h3) fun A outer s H vs Q E hr hsp => ?_
  have cs : CokS G J T L (cxOf (L2N.CX P w) P w K mg base N qual scope f cdv A outer s H E) := {
    e := {
      nd := S.nd
      calm := fun _ => rfl
      room := fun _ => hr
      un := by
        have := hr.un
        show (A.deeper (envOfC qual scope s.heap.objs.size f cdv)).units + 70 < cLine
        omega
      fn := fun i nm ps kw e => ⟨b.fn i nm ps kw e⟩
      con := b.con
      blt := b.blt
      hx := fun i d _ => b.hx i d
      ht := fun _ i e => by rw [b.hot] at e; cases e
      xcs := b.xcs
      xok := b.xok
      hotc := fun e => absurd b.hot e
      roomh := L2H.roomH_of hr
      fnh := fun i nm ps kw h1 h2 => ⟨b.fnh i nm ps kw h1 h2⟩ }
    kind := S.kind
    stk := fun _ => rfl
    fr := fun _ => rfl
    own := fun _ => PassesOwn.leaving
    own2 := fun e => (by rw [b.hbf] at e; cases e)
    mkx := b.mkx }
  refine ⟨tB G J K (fun cls d _ H => E cls d H) ms, okB ms T J _ _ body cs (L2N.takes_of rfl rfl rfl rfl) chk, ?_⟩
  obtain ⟨ds, S0, F, Qd, Ed, h1, h2, h3, fin, hx⟩ := hsp
  refine ⟨rho0 N.length ds, S0, F, ctEnd Qd Ed, ?_, h2, hw ds S0 Qd Ed h3, ?_⟩
  · have key : ∀ {ds : List D} {vs : List V} (n : Nat), RepL F K H ds vs → ∀ (i : Nat) (d : D), (ds.map some ++ List.replicate n none)[i]? = some (some d) → ∃ v, (vs.map some ++ List.replicate n none)[i]? = some (some v) ∧ Rep F K H d v := by
      intro ds vs n h i d e
      by_cases hi : i < ds.length
      · rw [List.getElem?_append_left (by simpa using hi), List.getElem?_map, Option.map_eq_some_iff] at e
        obtain ⟨d', e1, e2⟩ := e
        cases e2
        obtain ⟨v, v1, v2⟩ := h.get e1
        refine ⟨v, ?_, v2⟩
        rw [List.getElem?_append_left (by rw [List.length_map, ← h.length]; exact hi), List.getElem?_map, v1]; rfl
      · rw [List.getElem?_append_right (by simpa using hi), List.getElem?_replicate] at e
        split at e <;> cases e
    have hlen := h1.length
    refine ⟨?_, fun i d e => ?_⟩
    · show (L2.start N vs).length = _
      simp [L2.start, rho0, hlen]
    · obtain ⟨v, e1, e2⟩ := key (N.length - ds.length) h1 i d e
      refine ⟨v, ?_, e2, b.hx i d⟩
      show (L2.start N vs)[i]? = _
      unfold L2.start
      rw [← hlen]; exact e1
  · exact ⟨fun ρ' σ' S' F' H' g r s ⟨S'', q1, q2⟩ => fin .non S'' F' .non H' (g.sub q1) (s.sub q1) rep_non q2, fun d S' F' v H' g s p ⟨S'', q1, q2⟩ => fin d S'' F' v H' (g.sub q1) (s.sub q1) p q2, fun _ _ _ _ _ _ _ _ z => z.elim, fun _ _ _ _ _ _ _ _ z => z.elim,
      fun x ρ' σ' S' F' H' C0 d fs g r s a1 a2 a3 a4 a5 a6 ⟨S'', q1, q2⟩ => hx x S'' F' H' C0 d fs (g.sub q1) (s.sub q1) a1 a2 a3 a4 a5 a6 q2⟩
theorem fn_okH (b : Bs G J T L P w K mg base) {f : Addr} {name qual : Str} {params : Arguments} {body : List Stmt} {scope : Scope} {dV kV doc pm cdv ct oc : Value} {an od : Option Addr} {osl : Array (Option Value)} {N ps : List Str} {sp : SpecD} {ms : List Sm}
    (lk : K.lookup f = some ⟨oc, od, .func (PySem.W.fnOf name qual params body scope dV kV doc pm an cdv ct), osl⟩) (hcd : PySem.W.codeIn K cdv qual = true) (S : FnScope N ps scope) (len : ∀ ds S Q E, sp ds S Q E → ds.length = ps.length)
    (hN : N.length ≤ 1000000) (chk : chkB { T with hot := some 1000000, hb := true } N scope (fun _ => true) ms body = true) (hw : ∀ ds S Q E, sp ds S Q E → wpB G ms (rho0 N.length ds) S (ctEnd Q E)) :
    L2H.FnH P w K mg base (L2N.CX P w) (L + 1) f (PySem.W.fnOf name qual params body scope dV kV doc pm an cdv ct) ps (spD K J sp) := by
  refine L2H.fn_ofH lk hcd S (fun vs H Q E ⟨ds, S0, F, Qd, Ed, h1, h2, h3, _⟩ => by rw [← h1.length]; exact len ds S0 Qd Ed h3) fun A outer s H vs Q E p hot hr hsp => ?_
  have cs : CokS G J { T with hot := some 1000000, hb := true } L (L2H.cxH (L2N.CX P w) P w K mg base N qual scope f cdv A outer s H E p) := {
    e := {
      nd := S.nd
      calm := fun z => nomatch z
      room := fun z => nomatch z
      un := by
        have := hr.un
        show (A.deeper (envOfC qual scope s.heap.objs.size f cdv)).units + 70 < cLine
        omega
      fn := fun i nm ps kw e => ⟨b.fn i nm ps kw e⟩
      con := b.con
      blt := b.blt
      hx := fun i d _ => b.hx i d
      ht := fun _ i e hi => (by cases e; exact absurd hi (Nat.not_lt.mpr hN))
      xcs := b.xcs
      xok := b.xok
      hotc := fun _ => ⟨p, hot, List.mem_singleton.mpr rfl⟩
      roomh := hr
      fnh := fun i nm ps kw h1 h2 => ⟨b.fnh i nm ps kw h1 h2⟩ }
    kind := S.kind
    stk := fun z => nomatch z
    fr := fun z => nomatch z
    own := fun z => nomatch z
    own2 := fun _ => PassesOwn.leaving
    mkx := b.mkx }
  refine ⟨tB G J K (fun cls d _ H => E cls d H) ms, okB ms _ J _ _ body cs (L2N.takes_of rfl rfl rfl rfl) chk, ?_⟩
  obtain ⟨ds, S0, F, Qd, Ed, h1, h2, h3, fin, hx⟩ := hsp
  refine ⟨rho0 N.length ds, S0, F, ctEnd Qd Ed, ?_, h2, hw ds S0 Qd Ed h3, ?_⟩
  · have key : ∀ {ds : List D} {vs : List V} (n : Nat), RepL F K H ds vs → ∀ (i : Nat) (d : D), (ds.map some ++ List.replicate n none)[i]? = some (some d) → ∃ v, (vs.map some ++ List.replicate n none)[i]? = some (some v) ∧ Rep F K H d v := by
      intro ds vs n h i d e
      by_cases hi : i < ds.length
      · rw [List.getElem?_append_left (by simpa using hi), List.getElem?_map, Option.map_eq_some_iff] at e
        obtain ⟨d', e1, e2⟩ := e
        cases e2
        obtain ⟨v, v1, v2⟩ := h.get e1
        refine ⟨v, ?_, v2⟩
        rw [List.getElem?_append_left (by rw [List.length_map, ← h.length]; exact hi), List.getElem?_map, v1]; rfl
      · rw [List.getElem?_append_right (by simpa using hi), List.getElem?_replicate] at e
        split at e <;> cases e
    have hlen := h1.length
    refine ⟨?_, fun i d e => ?_⟩
    · show (L2.start N vs).length = _
      simp [L2.start, rho0, hlen]
    · obtain ⟨v, e1, e2⟩ := key (N.length - ds.length) h1 i d e
      refine ⟨v, ?_, e2, b.hx i d⟩
      show (L2.start N vs)[i]? = _
      unfold L2.start
      rw [← hlen]; exact e1
  · exact ⟨fun ρ' σ' S' F' H' g r s ⟨S'', q1, q2⟩ => fin .non S'' F' .non H' (g.sub q1) (s.sub q1) rep_non q2, fun d S' F' v H' g s p ⟨S'', q1, q2⟩ => fin d S'' F' v H' (g.sub q1) (s.sub q1) p q2, fun _ _ _ _ _ _ _ _ z => z.elim, fun _ _ _ _ _ _ _ _ z => z.elim,
      fun x ρ' σ' S' F' H' C0 d fs g r s a1 a2 a3 a4 a5 a6 ⟨S'', q1, q2⟩ => hx x S'' F' H' C0 d fs (g.sub q1) (s.sub q1) a1 a2 a3 a4 a5 a6 q2⟩
end
end MP
/-! what the top has written; defs one after another -/
namespace MP
open PySem PySem.Spec PyProof.Rows L2

/-- a def of the top -/
structure FunSay (K : PySem.W.Frag) (nm : Str) (st : Stmt) : Prop where
  ex : ∃ (f : Addr) (oc : Value) (od : Option Addr) (kV doc pm : Value) (an : Option Addr) (cdv ct : Value) (osl : Array (Option Value)), PySem.W.nsIn K mainGlobals nm = some (some (.ref f)) ∧
    K.lookup f = some ⟨oc, od, .func (PySem.W.fnOf nm nm (defArgs st) (defBody st) (defScope st) .none kV doc pm an cdv ct), osl⟩ ∧ PySem.W.codeIn K cdv nm = true ∧ PySem.W.keepIn K (.ref f) = true
theorem fun_say {K : PySem.W.Frag} {nm : Str} {st : Stmt} {f : Addr} {oc : Value} {od : Option Addr} {kV doc pm : Value} {an : Option Addr} {cdv ct : Value} {osl : Array (Option Value)} (h1 : PySem.W.nsIn K mainGlobals nm = some (some (.ref f)))
    (h2 : K.lookup f = some ⟨oc, od, .func (PySem.W.fnOf nm nm (defArgs st) (defBody st) (defScope st) .none kV doc pm an cdv ct), osl⟩) (h3 : PySem.W.codeIn K cdv nm = true) (h4 : PySem.W.keepIn K (.ref f) = true) : FunSay K nm st := ⟨⟨f, oc, od, kV, doc, pm, an, cdv, ct, osl, h1, h2, h3, h4⟩⟩
/-- how a def binds what it is given -/
structure FunBnd (nm : Str) (st : Stmt) (ps : List Str) (kw : List (List Str × List Nat)) : Prop where
  pos : ∀ (kV doc pm : Value) (an : Option Addr) (cdv ct : Value) (us : List Value), us.length = ps.length → bindArgs (PySem.W.fnOf nm nm (defArgs st) (defBody st) (defScope st) .none kV doc pm an cdv ct) ⟨us, []⟩ = pure (ps.zip us)
  kws : ∀ q ∈ kw, ∀ (kV doc pm : Value) (an : Option Addr) (cdv ct : Value) (us : List Value), us.length = q.1.length → bindArgs (PySem.W.fnOf nm nm (defArgs st) (defBody st) (defScope st) .none kV doc pm an cdv ct) ⟨[], q.1.zip us⟩ = pure (ps.zip (permV q.2 us))
def NT.add (T : NT) (nm : Str) (ps : List Str) (kw : List (List Str × List Nat)) : NT := { T with fns := T.fns ++ [(nm, ps, kw)] }
def GE.put (G : GE) (i : Nat) (sp : SpecD) : GE := { G with sp := fun j => if j = i then sp else G.sp j }
section
variable {G : GE} {J : JE} {T : NT} {L : Nat} {P : Program} {w : World} {K : PySem.W.Frag} {mg : Str → Option Value} {base : Heap}
theorem Bs.mono {L' : Nat} (b : Bs G J T L P w K mg base) (h : L ≤ L') : Bs G J T L' P w K mg base :=
  ⟨b.hot, fun i nm ps kw e => let ⟨f, fd, h1, h2, h3, h4, h5⟩ := b.fn i nm ps kw e; ⟨f, fd, h1, h2, h3, h4.mono h, h5⟩, fun i nm ps kw hi e => let ⟨f, fd, h1, h2, h3, h4⟩ := b.fnh i nm ps kw hi e; ⟨f, fd, h1, h2, h3, ⟨h4.len, fun A o s H as us vs Q E p r => h4.run A o s H as us vs Q E p (r.mono h)⟩⟩, b.hbf, b.con, b.blt, b.hx, b.xcs, b.xok, b.mkx⟩
/-- what a def has to say to be called -/
structure Entry (G : GE) (J : JE) (L : Nat) (P : Program) (w : World) (K : PySem.W.Frag) (mg : Str → Option Value) (base : Heap) (nm : Str) (ps : List Str) (kw : List (List Str × List Nat)) (sp : SpecD) : Prop where
  ex : ∃ f fd, mg nm = some (.ref f) ∧ PySem.W.keepIn K (.ref f) = true ∧ Binds K fd ps [] ∧ FnOk P w K mg base (L2N.CX P w) L f fd ps (spD K J sp) ∧
    ∀ q ∈ kw, ∀ (s : Shared) (ws : List Value), ws.length = q.1.length → (permV q.2 ws).length = ps.length → BindsTo s fd ⟨[], q.1.zip ws⟩ (ps.zip (permV q.2 ws))
structure EntryH (G : GE) (J : JE) (L : Nat) (P : Program) (w : World) (K : PySem.W.Frag) (mg : Str → Option Value) (base : Heap) (nm : Str) (ps : List Str) (sp : SpecD) : Prop where
  ex : ∃ f fd, mg nm = some (.ref f) ∧ PySem.W.keepIn K (.ref f) = true ∧ Binds K fd ps [] ∧ L2H.FnH P w K mg base (L2N.CX P w) L f fd ps (spD K J sp)
theorem Bs.push {L' : Nat} (b : Bs G J T L P w K mg base) (hL : L ≤ L') {nm : Str} {ps : List Str} {kw : List (List Str × List Nat)} {i : Nat} (hi : T.fns.length = i) {sp : SpecD} (e : Entry G J L' P w K mg base nm ps kw sp) (hs : G.sp i = sp) (eh : i ∈ T.hots → EntryH G J L' P w K mg base nm ps sp) : Bs G J (T.add nm ps kw) L' P w K mg base where
  hot := b.hot
  fn := fun j nm' ps' kw' ej => by
    by_cases hj : j < T.fns.length
    · have ej : (T.fns ++ [(nm, ps, kw)])[j]? = some (nm', ps', kw') := ej
      rw [List.getElem?_append_left hj] at ej
      exact (b.mono hL).fn j nm' ps' kw' ej
    · have ej : (T.fns ++ [(nm, ps, kw)])[j]? = some (nm', ps', kw') := ej
      rw [List.getElem?_append_right (Nat.le_of_not_lt hj)] at ej
      have : j - T.fns.length = 0 := by
        cases h : j - T.fns.length with
        | zero => rfl
        | succ n => rw [h] at ej; simp at ej
      rw [this] at ej
      have hji : j = i := by omega
      simp at ej
      obtain ⟨rfl, rfl, rfl⟩ := ej
      rw [hji, hs]
      exact e.ex
  fnh := fun j nm' ps' kw' hm ej => by
    by_cases hj : j < T.fns.length
    · have ej : (T.fns ++ [(nm, ps, kw)])[j]? = some (nm', ps', kw') := ej
      rw [List.getElem?_append_left hj] at ej
      exact (b.mono hL).fnh j nm' ps' kw' hm ej
    · have ej : (T.fns ++ [(nm, ps, kw)])[j]? = some (nm', ps', kw') := ej
      rw [List.getElem?_append_right (Nat.le_of_not_lt hj)] at ej
      have : j - T.fns.length = 0 := by
        cases h : j - T.fns.length with
        | zero => rfl
        | succ n => rw [h] at ej; simp at ej
      rw [this] at ej
      have hji : j = i := by omega
      simp at ej
      obtain ⟨rfl, rfl, rfl⟩ := ej
      rw [hji, hs]
      exact (eh (by rw [← hji]; exact hm)).ex
  hbf := b.hbf
  con := b.con
  blt := b.blt
  hx := b.hx
  xcs := b.xcs
  xok := b.xok
  mkx := b.mkx
/-- other promises of defs that are not there yet -/
theorem Bs.other {G' : GE} (b : Bs G J T L P w K mg base) (hs : ∀ j, j < T.fns.length → G'.sp j = G.sp j) (hc : G'.con = G.con) (ha : G'.anc = G.anc) : Bs G' J T L P w K mg base where
  hot := b.hot
  fn := fun j nm ps kw e => by
    rw [hs j (List.getElem?_eq_some_iff.mp e).1]
    exact b.fn j nm ps kw e
  fnh := fun j nm ps kw hm e => by
    rw [hs j (List.getElem?_eq_some_iff.mp e).1]
    exact b.fnh j nm ps kw hm e
  hbf := b.hbf
  con := by rw [hc]; exact b.con
  blt := b.blt
  hx := b.hx
  xcs := by rw [ha]; exact b.xcs
  xok := b.xok
  mkx := b.mkx
/-- a def's body does what its promise says -/
structure Does (G : GE) (T : NT) (st : Stmt) (N ps : List Str) (ms : List Sm) (sp : SpecD) : Prop where
  sc : FnScope N ps (defScope st)
  chk : chkB T N (defScope st) (fun _ => true) ms (defBody st) = true
  len : ∀ ds S Q E, sp ds S Q E → ds.length = ps.length
  wp : ∀ ds S Q E, sp ds S Q E → wpB G ms (rho0 N.length ds) S (ctEnd Q E)
/-- the same where an exception is handled -/
structure DoesH (T : NT) (st : Stmt) (N : List Str) (ms : List Sm) : Prop where
  nl : N.length ≤ 1000000
  chk : chkB { T with hot := some 1000000, hb := true } N (defScope st) (fun _ => true) ms (defBody st) = true
theorem Bs.entryH {h : Heap} (b : Bs G J T L P w K mg base) (X : K.In h) (Gm : h.Ns mainGlobals mg) {nm : Str} {st : Stmt} {N ps : List Str} {kw : List (List Str × List Nat)} {ms : List Sm} {sp : SpecD} (F : FunSay K nm st) (B : FunBnd nm st ps kw) (D : Does G T st N ps ms sp) (DH : DoesH T st N ms) :
    EntryH G J (L + 1) P w K mg base nm ps sp := by
  obtain ⟨f, oc, od, kV, doc, pm, an, cdv, ct, osl, h1, h2, h3, h4⟩ := F.ex
  exact ⟨⟨f, _, PySem.W.mg_of X Gm h1, h4, .all (B.pos kV doc pm an cdv ct), fn_okH b h2 h3 D.sc D.len DH.nl DH.chk D.wp⟩⟩
theorem Bs.entry {h : Heap} (b : Bs G J T L P w K mg base) (X : K.In h) (Gm : h.Ns mainGlobals mg) {nm : Str} {st : Stmt} {N ps : List Str} {kw : List (List Str × List Nat)} {ms : List Sm} {sp : SpecD} (F : FunSay K nm st) (B : FunBnd nm st ps kw) (D : Does G T st N ps ms sp) :
    Entry G J (L + 1) P w K mg base nm ps kw sp := by
  obtain ⟨f, oc, od, kV, doc, pm, an, cdv, ct, osl, h1, h2, h3, h4⟩ := F.ex
  exact ⟨⟨f, _, PySem.W.mg_of X Gm h1, h4, .all (B.pos kV doc pm an cdv ct), fn_ok b h2 h3 D.sc D.len D.chk D.wp, fun q hq s ws hl hl2 => .of_eq (B.kws q hq kV doc pm an cdv ct ws hl)⟩⟩
theorem Bs.add {h : Heap} (b : Bs G J T L P w K mg base) (X : K.In h) (Gm : h.Ns mainGlobals mg) {nm : Str} {st : Stmt} {N ps : List Str} {kw : List (List Str × List Nat)} {ms : List Sm} {i : Nat} (hi : T.fns.length = i) (F : FunSay K nm st) (B : FunBnd nm st ps kw) (D : Does G T st N ps ms (G.sp i)) (hh : i ∉ T.hots := by decide) :
    Bs G J (T.add nm ps kw) (L + 1) P w K mg base := b.push (Nat.le_succ _) hi (b.entry X Gm F B D) rfl fun z => absurd z hh
theorem Bs.addH {h : Heap} (b : Bs G J T L P w K mg base) (X : K.In h) (Gm : h.Ns mainGlobals mg) {nm : Str} {st : Stmt} {N ps : List Str} {kw : List (List Str × List Nat)} {ms : List Sm} {i : Nat} (hi : T.fns.length = i) (F : FunSay K nm st) (B : FunBnd nm st ps kw) (D : Does G T st N ps ms (G.sp i)) (DH : DoesH T st N ms) :
    Bs G J (T.add nm ps kw) (L + 1) P w K mg base := b.push (Nat.le_succ _) hi (b.entry X Gm F B D) rfl fun _ => b.entryH X Gm F B D DH
/-- a def that calls itself: promises by depth -/
theorem Bs.addRec {h : Heap} (b : Bs G J T L P w K mg base) (X : K.In h) (Gm : h.Ns mainGlobals mg) {nm : Str} {st : Stmt} {N ps : List Str} {kw : List (List Str × List Nat)} {ms : List Sm} {i : Nat} (hi : T.fns.length = i) (F : FunSay K nm st) (B : FunBnd nm st ps kw)
    {spn : Nat → SpecD} (h0 : ∀ ds S Q E, ¬ spn 0 ds S Q E) (D : ∀ n, Does (G.put i (spn n)) (T.add nm ps kw) st N ps ms (spn (n + 1))) {m : Nat} (hm : G.sp i = spn m) (hh : i ∉ T.hots := by decide) : Bs G J (T.add nm ps kw) (L + m) P w K mg base := by
  have bn : ∀ n, Bs (G.put i (spn n)) J T L P w K mg base := fun n => b.other (fun j hj => if_neg (by omega)) rfl rfl
  have en : ∀ n, Entry (G.put i (spn n)) J (L + n) P w K mg base nm ps kw (spn n) := by
    intro n
    induction n with
    | zero =>
      obtain ⟨f, oc, od, kV, doc, pm, an, cdv, ct, osl, h1, h2, h3, h4⟩ := F.ex
      refine ⟨⟨f, _, PySem.W.mg_of X Gm h1, h4, .all (B.pos kV doc pm an cdv ct), ⟨fun vs H Q E ⟨ds, S0, F0, Qd, Ed, a1, a2, a3, _⟩ => absurd a3 (h0 _ _ _ _), fun A outer s H args us vs Q E _ _ _ _ ⟨ds, S0, F0, Qd, Ed, a1, a2, a3, _⟩ => absurd a3 (h0 _ _ _ _)⟩,
        fun q hq s ws hl hl2 => .of_eq (B.kws q hq kV doc pm an cdv ct ws hl)⟩⟩
    | succ n ih =>
      have b2 : Bs (G.put i (spn n)) J (T.add nm ps kw) (L + n) P w K mg base := (bn n).push (Nat.le_add_right _ _) hi ih (if_pos rfl) fun z => absurd z hh
      have e2 := b2.entry X Gm F B (D n)
      exact ⟨e2.ex⟩
  have e3 := en m
  exact b.push (Nat.le_add_right _ _) hi (sp := spn m) ⟨e3.ex⟩ hm fun z => absurd z hh
theorem Bs.addRecH {h : Heap} (b : Bs G J T L P w K mg base) (X : K.In h) (Gm : h.Ns mainGlobals mg) {nm : Str} {st : Stmt} {N ps : List Str} {kw : List (List Str × List Nat)} {ms : List Sm} {i : Nat} (hi : T.fns.length = i) (F : FunSay K nm st) (B : FunBnd nm st ps kw)
    {spn : Nat → SpecD} (h0 : ∀ ds S Q E, ¬ spn 0 ds S Q E) (D : ∀ n, Does (G.put i (spn n)) (T.add nm ps kw) st N ps ms (spn (n + 1))) (DH : DoesH (T.add nm ps kw) st N ms) {m : Nat} (hm : G.sp i = spn m) : Bs G J (T.add nm ps kw) (L + m) P w K mg base := by
  have bn : ∀ n, Bs (G.put i (spn n)) J T L P w K mg base := fun n => b.other (fun j hj => if_neg (by omega)) rfl rfl
  have en : ∀ n, Entry (G.put i (spn n)) J (L + n) P w K mg base nm ps kw (spn n) ∧ EntryH (G.put i (spn n)) J (L + n) P w K mg base nm ps (spn n) := by
    intro n
    induction n with
    | zero =>
      obtain ⟨f, oc, od, kV, doc, pm, an, cdv, ct, osl, h1, h2, h3, h4⟩ := F.ex
      refine ⟨⟨⟨f, _, PySem.W.mg_of X Gm h1, h4, .all (B.pos kV doc pm an cdv ct), ⟨fun vs H Q E ⟨ds, S0, F0, Qd, Ed, a1, a2, a3, _⟩ => absurd a3 (h0 _ _ _ _), fun A outer s H args us vs Q E _ _ _ _ ⟨ds, S0, F0, Qd, Ed, a1, a2, a3, _⟩ => absurd a3 (h0 _ _ _ _)⟩,
        fun q hq s ws hl hl2 => .of_eq (B.kws q hq kV doc pm an cdv ct ws hl)⟩⟩, ⟨⟨f, PySem.W.fnOf nm nm (defArgs st) (defBody st) (defScope st) .none kV doc pm an cdv ct, PySem.W.mg_of X Gm h1, h4, .all (B.pos kV doc pm an cdv ct), ⟨fun vs H Q E ⟨ds, S0, F0, Qd, Ed, a1, a2, a3, _⟩ => absurd a3 (h0 _ _ _ _), fun A outer s H args us vs Q E p _ _ _ _ _ _ ⟨ds, S0, F0, Qd, Ed, a1, a2, a3, _⟩ => absurd a3 (h0 _ _ _ _)⟩⟩⟩⟩
    | succ n ih =>
      have b2 : Bs (G.put i (spn n)) J (T.add nm ps kw) (L + n) P w K mg base := (bn n).push (Nat.le_add_right _ _) hi ih.1 (if_pos rfl) fun _ => ih.2
      exact ⟨⟨(b2.entry X Gm F B (D n)).ex⟩, ⟨(b2.entryH X Gm F B (D n) DH).ex⟩⟩
  have e3 := en m
  exact b.push (Nat.le_add_right _ _) hi (sp := spn m) ⟨e3.1.ex⟩ hm fun _ => ⟨e3.2.ex⟩
/-- the law's own promise: the script, then true -/
theorem law_end {nm : Str} {x : Str} {sp : SpecD} {kw : List (List Str × List Nat)} (e : Entry G J L P w K mg base nm [x] kw sp) {fa : Addr} (hfa : mg nm = some (.ref fa)) : ∃ fd : FuncData, FnOk P w K mg base (L2N.CX P w) L fa fd [x] (spD K J sp) := by
  obtain ⟨f, fd, h1, h2, h3, h4, _⟩ := e.ex
  rw [hfa] at h1
  cases h1
  exact ⟨fd, h4⟩
theorem law_spec {H : Hp} {a : Addr} {ns : List Int} {sp : SpecD} (hS : SqL K H a (ns.map V.int)) (h : sp [.scr (ns.map .int)] (fun _ => none) (fun d _ => d = .bl true) (fun _ _ => False)) : spD K J sp [.ref a] H (fun v _ => v = .bl true) fun _ _ _ => False := by
  have rl : ∀ {F : Fz} {H : Hp} (ns : List Int), RepL F K H (ns.map .int) (ns.map V.int) := by
    intro F H ns
    induction ns with
    | nil => exact .nil
    | cons n ns ih => exact .cons rep_int ih
  refine ⟨_, _, fun b => b = a ∧ H a ≠ none, _, _, .one (v := .ref a) ?_, ?_, h, fun d S' F' v H' g r p q => ?_, fun x S' F' H' C d fs _ _ _ _ _ _ _ _ z => z.elim⟩
  · simp only [Rep]
    refine ⟨a, _, rfl, ?_, rl ns⟩
    rcases hS with hS | hS
    · refine .inl ⟨⟨rfl, ?_⟩, hS⟩
      rcases hS with q | ⟨o, q⟩ <;> rw [q] <;> exact fun z => nomatch z
    · exact .inr (.inr hS)
  · exact ⟨fun a o e => (nomatch e), fun _ _ => rfl, fun b hb => by rw [hb.1]; exact hb.2⟩
  · subst q
    simpa only [Rep] using p
end
end MP
/-! constants, error classes, the start and the end of a law's proof -/
namespace MP
open PySem PySem.Spec PyProof.Rows L2

abbrev veT : List Value := [.type "ValueError", .type "Exception", .type "BaseException", .type "object"]
/-- a constant of the top -/
def ConSay (K : PySem.W.Frag) (x : Str) (d : D) : Prop := ∃ (u : Value) (v : V), PySem.W.nsIn K mainGlobals x = some (some u) ∧ RelV v u ∧ Rep (fun _ => False) K (fun _ => none) d v
theorem con_int {K : PySem.W.Frag} {x : Str} {i : Int} {t : Tok} (h : PySem.W.nsIn K mainGlobals x = some (some (.int i t))) : ConSay K x (.int i) := ⟨_, .int i, h, ⟨t, rfl⟩, rep_int⟩
theorem con_str {K : PySem.W.Frag} {x : Str} {s : List Nat} {y : Str} {t : Tok} (h : PySem.W.nsIn K mainGlobals x = some (some (.str y t))) (e : mkS s = y) (o : okSB s = true) : ConSay K x (.str s) := ⟨_, .str y, h, ⟨t, rfl⟩, by rw [← e]; exact rep_str (okSB_ok o)⟩
def ConAll (K : PySem.W.Frag) : List Str → List D → Prop
  | [], [] => True
  | x :: xs, d :: ds => ConSay K x d ∧ ConAll K xs ds
  | _, _ => False
theorem ConAll.get {K : PySem.W.Frag} : ∀ {xs : List Str} {ds : List D}, ConAll K xs ds → ∀ {i : Nat} {x : Str}, xs[i]? = some x → ConSay K x ((ds[i]?).getD .non)
  | [], [], _, i, x, e => by simp at e
  | [], _ :: _, h, _, _, _ => h.elim
  | _ :: _, [], h, _, _, _ => h.elim
  | _ :: xs, d :: ds, h, 0, x, e => by simp at e; subst e; exact h.1
  | _ :: xs, d :: ds, h, i + 1, x, e => by simpa using ConAll.get h.2 (i := i) (by simpa using e)

/-- an own error class over CiteError, with fields -/
structure ClsSay (P : Program) (K : PySem.W.Frag) (CE C : Addr) (x : Str) (ns : List Str) : Prop where
  gC : PySem.W.nsIn K mainGlobals x = some (some (.ref C))
  cls : ∃ nm q N bs sn sub ab col dd k0 k1 k2 k3 k5, K.lookup C = some (excClassObj nm q C N bs (.ref CE :: veT) true sn sub ab col dd k0 k1 k2 k3 k5 "ValueError.__new__")
  sa : PySem.W.findIn K (.ref C) "__setattr__" = some (some (.builtin "object.__setattr__"))
  ga : PySem.W.findIn K (.ref C) "__getattribute__" = some (some (.builtin "BaseException.__getattribute__"))
  gg : PySem.W.findIn K (.ref C) "__getattr__" = some none
  ca : PySem.W.findIn K (.ref C) "__class__" = some (some (.builtin "object.__class__"))
  noN : ∀ f ∈ ns, PySem.W.findIn K (.ref C) f = some none
  tyC : PySem.W.typeIn K (.ref C) = some (.type "type")
  kC : PySem.W.keepIn K (.ref C) = true
  supI : PySem.W.ks_superIn K C C "__init__" = some (some (.builtin "ValueError.__init__"))
  init : ∃ (fI : Addr) (oc : Value) (od : Option Addr) (qual : Str) (params : Arguments) (body : List Stmt) (scope : Scope) (dV kV doc pm ct : Value) (an : Option Addr) (cda cc : Addr) (osl : Array (Option Value)) (file : Str) (tf : Tok) (vs : Array Value) (ccl cl : Value) (cdd cld : Option Addr) (ccs csl : Array (Option Value)),
    PySem.W.findIn K (.ref C) "__init__" = some (some (.ref fI)) ∧ PySem.W.typeIn K (.ref fI) = some (.type "function") ∧
    K.lookup fI = some ⟨oc, od, .func (PySem.W.ksFn "__init__" qual params body scope dV kV doc pm an (.ref cda) ct cc), osl⟩ ∧ PySem.W.codeIn K (.ref cda) qual = true ∧ K.lookup cda = some ⟨ccl, cdd, .fields vs, ccs⟩ ∧ vs[2]? = some (.str file tf) ∧
    ((P.main.file : Str) == file) = true ∧ K.lookup cc = some ⟨cl, cld, .cell (some (.ref C)), csl⟩ ∧ ((params.posonlyargs ++ params.args).head?.map (·.arg)) = some ("self" : Str) ∧
    (∀ (us : List Value), us.length = ns.length + 1 → bindArgs (PySem.W.ksFn "__init__" qual params body scope dV kV doc pm an (.ref cda) ct cc) ⟨us, []⟩ = pure ((("self" : Str) :: ns).zip us)) ∧ MPX.bodyB ns body = true ∧ MPX.scopeB ns scope = true
/-- what the part of the top that is no class says -/
structure TopSay (P : Program) (K : PySem.W.Frag) : Prop where
  sup : PySem.W.nsIn K mainGlobals "super" = some none
  ve : PySem.W.nsIn K mainGlobals "ValueError" = some none
  seer : PySem.W.nsIn K cStatics "thirdparty.any" = some none
  htop : (P.main.scope.names.lookup ("super" : Str)).isSome = false
  oc : PySem.W.specialIn K (.builtin "object.__class__") "__get__" = some (some (.builtin "getset_descriptor.__get__"))
  ot : PySem.W.takesIn K (.builtin "object.__class__") = some true
  vb : PySem.W.subIn K (.type "ValueError") (.type "BaseException") = some true
  blt : ∀ x ∈ bltNames, PySem.W.nsIn K mainGlobals x = some none
/-- CiteError -/
structure CeSay (K : PySem.W.Frag) (CE : Addr) : Prop where
  gC : PySem.W.nsIn K mainGlobals "CiteError" = some (some (.ref CE))
  cls : PySem.W.isClsIn K CE = true
  tyC : PySem.W.typeIn K (.ref CE) = some (.type "type")
  sub : PySem.W.subIn K (.ref CE) (.type "BaseException") = some true
def AllCls (P : Program) (K : PySem.W.Frag) (CE : Addr) : List (Str × List Str) → List Addr → Prop
  | [], [] => True
  | (x, ns) :: r, C :: cs => (ns ≠ [] ∧ ns.length ≤ 900 ∧ C ≠ CE ∧ ClsSay P K CE C x ns) ∧ AllCls P K CE r cs
  | _, _ => False
theorem AllCls.get {P : Program} {K : PySem.W.Frag} {CE : Addr} : ∀ {r : List (Str × List Str)} {cs : List Addr}, AllCls P K CE r cs → ∀ {i : Nat} {x : Str} {ns : List Str}, r[i]? = some (x, ns) → ∃ C, cs[i]? = some C ∧ ns ≠ [] ∧ ns.length ≤ 900 ∧ C ≠ CE ∧ ClsSay P K CE C x ns
  | [], [], _, i, x, ns, e => by simp at e
  | [], _ :: _, h, _, _, _, _ => h.elim
  | _ :: _, [], h, _, _, _, _ => h.elim
  | (y, ms) :: r, C :: cs, h, 0, x, ns, e => by
    simp at e
    obtain ⟨rfl, rfl⟩ := e
    exact ⟨C, rfl, h.1⟩
  | (y, ms) :: r, C :: cs, h, i + 1, x, ns, e => by
    obtain ⟨D, h1, h2⟩ := AllCls.get h.2 (i := i) (by simpa using e)
    exact ⟨D, by simpa using h1, h2⟩
theorem AllCls.len {P : Program} {K : PySem.W.Frag} {CE : Addr} : ∀ {r : List (Str × List Str)} {cs : List Addr}, AllCls P K CE r cs → r.length = cs.length
  | [], [], _ => rfl
  | [], _ :: _, h => h.elim
  | _ :: _, [], h => h.elim
  | _ :: r, C :: cs, h => by simp [AllCls.len h.2]
/-- exceptions' classes by number: the two that are never made, then the others -/
def jOf (r : List (Str × List Str)) (K : PySem.W.Frag) : JE where
  cl := fun _ => none
  xa := fun c => match c with
    | 0 => none
    | 1 => none
    | c + 2 => match r[c]? with
      | some (x, _) => (match PySem.W.nsIn K mainGlobals x with
        | some (some (.ref C)) => some C
        | _ => none)
      | none => none
  hx := fun _ _ => True
def ancB (c k : Nat) : Bool := c == k || k == 0 || k == 1
section
variable {P : Program} {w : World} {K : PySem.W.Frag} {mg : Str → Option Value} {base : Heap} {CE : Addr} {r : List (Str × List Str)} {cs : List Addr}
theorem ClsSay.mro {C : Addr} {x : Str} {ns : List Str} (h : ClsSay P K CE C x ns) (b : Value) : PySem.W.subIn K (.ref C) b = some ((Value.ref C :: .ref CE :: veT).contains b) ∧ (PySem.W.clsIn K C).isSome = true ∧ PySem.W.hasDictIn K C = true := by
  obtain ⟨nm, q, N, bs, sn, sub, ab, col, dd, k0, k1, k2, k3, k5, hC⟩ := h.cls
  have hcl : PySem.W.clsIn K C = some { name := nm, bases := bs, mro := .ref C :: .ref CE :: veT, ns := N, qualname := q, hasDict := true, slotNames := sn, subclasses := sub, abstract := ab, collection := col, hasDel := false } := by unfold PySem.W.clsIn; rw [hC] <;> rfl
  refine ⟨?_, by rw [hcl]; rfl, by unfold PySem.W.hasDictIn; rw [hcl]; rfl⟩
  show PySem.W.mroIn K C b = _
  unfold PySem.W.mroIn
  rw [hcl]
  rfl
theorem xa_get (A : AllCls P K CE r cs) {c : Nat} {C : Addr} (h : (jOf r K).xa c = some C) : ∃ i x ns, c = i + 2 ∧ r[i]? = some (x, ns) ∧ cs[i]? = some C ∧ ns ≠ [] ∧ ns.length ≤ 900 ∧ C ≠ CE ∧ ClsSay P K CE C x ns := by
  match c, h with
  | 0, h => cases h
  | 1, h => cases h
  | c + 2, h =>
    have h : (match r[c]? with
      | some (x, _) => (match PySem.W.nsIn K mainGlobals x with
        | some (some (.ref C)) => some C
        | _ => none)
      | none => none) = some C := h
    cases e : r[c]? with
    | none => rw [e] at h; cases h
    | some p =>
      obtain ⟨x, ns⟩ := p
      obtain ⟨D, h1, h2, h3, h4, h5⟩ := A.get e
      rw [e] at h
      have h : (match PySem.W.nsIn K mainGlobals x with
        | some (some (.ref C)) => some C
        | _ => none) = some C := h
      rw [h5.gC] at h
      cases h
      exact ⟨c, x, ns, rfl, e, h1, h2, h3, h4, h5⟩
theorem bs_start (X : K.In base) (Gm : base.Ns mainGlobals mg) (T : TopSay P K) (E : CeSay K CE) (A : AllCls P K CE r cs) (nd : cs.Nodup) {cons : List Str} {ds : List D} (Cn : ConAll K cons ds) {hots : List Nat} {G : GE} (hc : ∀ i, G.con i = (ds[i]?).getD .non) (ha : G.anc = ancB) :
    Bs G (jOf r K) ⟨[], cons, ("CiteError", []) :: ("ValueError", []) :: r, none, hots, false, false⟩ 0 P w K mg base where
  hot := rfl
  fn := fun i nm ps kw e => by simp at e
  fnh := fun i nm ps kw _ e => by simp at e
  hbf := rfl
  con := fun i x e => by
    obtain ⟨u, v, h1, h2, h3⟩ := Cn.get e
    exact ⟨u, v, PySem.W.mg_of X Gm h1, h2, by rw [hc i]; exact h3⟩
  blt := fun x hx => PySem.W.mg_none_of X Gm (T.blt x hx)
  hx := fun _ _ => True.intro
  xcs := fun k x ns e => by
    rw [ha]
    match k, e with
    | 0, e =>
      simp at e
      obtain ⟨rfl, rfl⟩ := e
      refine ⟨.ref CE, .ref CE, rfl, fun u h => h, .inl (PySem.W.mg_of X Gm E.gC), fun c C hC => ?_⟩
      obtain ⟨i, y, ms, rfl, h1, h2, h3, h4, h5, h6⟩ := xa_get A hC
      have hs := (h6.mro (.ref CE)).1
      have hcon : (Value.ref C :: Value.ref CE :: veT).contains (.ref CE) = true := by simp
      rw [hcon] at hs
      have hk : PySem.W.kitCls K (.ref C) (.ref CE) = some true := by
        have z : (PySem.W.clsIn K CE).isSome = true := E.cls
        show (if ((PySem.W.clsIn K CE).isSome && PySem.W.typeIn K (.ref CE) == some (.type "type")) = true then _ else _) = _
        rw [z, E.tyC]; exact hs
      have hb : ancB (i + 2) 0 = true := by simp [ancB]
      rw [hb]
      refine ⟨?_, ?_⟩
      · unfold PySem.W.exmOne
        rw [E.sub]; exact hk
      · unfold PySem.W.kitOne
        split
        · rfl
        · exact hk
    | 1, e =>
      simp at e
      obtain ⟨rfl, rfl⟩ := e
      refine ⟨.ty "ValueError", .type "ValueError", rfl, fun u h => h, .inr ⟨PySem.W.mg_none_of X Gm T.ve, by first | rfl | kernel_rfl | decide +kernel, by decide +kernel⟩, fun c C hC => ?_⟩
      obtain ⟨i, y, ms, rfl, h1, h2, h3, h4, h5, h6⟩ := xa_get A hC
      have hs := (h6.mro (.type "ValueError")).1
      have hcon : (Value.ref C :: Value.ref CE :: veT).contains (.type "ValueError") = true := by simp
      rw [hcon] at hs
      have hk : PySem.W.kitCls K (.ref C) (.type "ValueError") = some true := by
        show (if PySem.W.kitMeta "ValueError" = true then PySem.W.subIn K (.ref C) (.type "ValueError") else none) = _
        rw [if_pos (by decide +kernel)]; exact hs
      have hb : ancB (i + 2) 1 = true := by simp [ancB]
      rw [hb]
      refine ⟨?_, ?_⟩
      · unfold PySem.W.exmOne
        rw [T.vb]; exact hk
      · unfold PySem.W.kitOne
        split
        · rfl
        · exact hk
    | k + 2, e =>
      have e : r[k]? = some (x, ns) := by simpa using e
      obtain ⟨D, d1, d2, d3, d4, d5⟩ := A.get e
      refine ⟨.ref D, .ref D, rfl, fun u h => h, .inl (PySem.W.mg_of X Gm d5.gC), fun c C hC => ?_⟩
      obtain ⟨i, y, ms, rfl, h1, h2, h3, h4, h5, h6⟩ := xa_get A hC
      have hs := (h6.mro (.ref D)).1
      have hcon : (Value.ref C :: Value.ref CE :: veT).contains (.ref D) = ancB (i + 2) (k + 2) := by
        by_cases hik : i = k
        · subst hik
          rw [d1] at h2
          cases h2
          simp [ancB]
        · have hne : D ≠ C := fun z => by
            subst z
            obtain ⟨l1, l2⟩ := List.getElem?_eq_some_iff.mp d1
            obtain ⟨l3, l4⟩ := List.getElem?_eq_some_iff.mp h2
            rcases Nat.lt_or_gt_of_ne hik with z | z
            · exact (List.pairwise_iff_getElem.mp nd i k l3 l1 z) (l4.trans l2.symm)
            · exact (List.pairwise_iff_getElem.mp nd k i l1 l3 z) (l2.trans l4.symm)
          simp [ancB, hik, hne, d4]
      rw [hcon] at hs
      have hk : PySem.W.kitCls K (.ref C) (.ref D) = some (ancB (i + 2) (k + 2)) := by
        have z : (PySem.W.clsIn K D).isSome = true := (d5.mro (.ref D)).2.1
        show (if ((PySem.W.clsIn K D).isSome && PySem.W.typeIn K (.ref D) == some (.type "type")) = true then _ else _) = _
        rw [z, d5.tyC]; exact hs
      have hB : PySem.W.subIn K (.ref D) (.type "BaseException") = some true := by
        have := (d5.mro (.type "BaseException")).1
        rw [this]; simp
      refine ⟨?_, ?_⟩
      · unfold PySem.W.exmOne
        rw [hB]; exact hk
      · unfold PySem.W.kitOne
        split
        · rename_i q
          have q : C = D := Value.ref.inj (beq_iff_eq.mp q)
          rw [← hcon, q]; simp
        · exact hk
  xok := fun c C hC => by
    obtain ⟨i, y, ms, rfl, h1, h2, h3, h4, h5, h6⟩ := xa_get A hC
    have hB : PySem.W.subIn K (.ref C) (.type "BaseException") = some true := by
      have := (h6.mro (.type "BaseException")).1
      rw [this]; simp
    have hO : PySem.W.mroIn K C (.type "object") = some true := by
      have := (h6.mro (.type "object")).1
      rw [show PySem.W.mroIn K C (.type "object") = PySem.W.subIn K (.ref C) (.type "object") from rfl, this]; simp
    exact ⟨⟨h6.ga, h6.gg, hB, (h6.mro (.ref C)).2.2⟩, ⟨h6.ga, h6.gg, hB, (h6.mro (.ref C)).2.2, h6.ca, T.oc, T.ot, hO⟩⟩
  mkx := fun k x ns e hn => by
    match k, e with
    | 0, e =>
      simp at e
      obtain ⟨_, rfl⟩ := e
      exact absurd rfl hn
    | 1, e =>
      simp at e
      obtain ⟨_, rfl⟩ := e
      exact absurd rfl hn
    | k + 2, e =>
      have e : r[k]? = some (x, ns) := by simpa using e
      obtain ⟨D, d1, d2, d3, d4, d5⟩ := A.get e
      obtain ⟨fI, oc, od, qual, params, body, scope, dV, kV, doc, pm, ct, an, cda, cc, osl, file, tf, vs, ccl, cl, cdd, cld, ccs, csl, i1, i2, i3, i4, i5, i6, i7, i8, i9, i10, i11, i12⟩ := d5.init
      obtain ⟨nm, q, N, bs, sn, sub, ab, col, dd, k0, k1, k2, k3, k5, hC⟩ := d5.cls
      have hB : PySem.W.subIn K (.ref D) (.type "BaseException") = some true := by
        have := (d5.mro (.type "BaseException")).1
        rw [this]; simp
      have hV : PySem.W.subIn K (.ref D) (.type "ValueError") = some true := by
        have := (d5.mro (.type "ValueError")).1
        rw [this]; simp
      have hS : PySem.W.mroIn K D (.ref D) = some true := by
        have := (d5.mro (.ref D)).1
        rw [show PySem.W.mroIn K D (.ref D) = PySem.W.subIn K (.ref D) (.ref D) from rfl, this]; simp
      have hE : MPX.ErrTxt P K mg D fI x ns := ⟨PySem.W.mg_of X Gm d5.gC, ⟨⟨nm, q, N, bs, _, sn, sub, ab, col, dd, k0, k1, k2, k3, k5, hC, (by show PySem.HandSPX.refsVE veT = true; decide +kernel)⟩, d5.sa, hB, d5.tyC, d5.kC⟩, d5.noN, i1, i2, T.sup, T.seer, d5.supI, hV, hS, T.htop,
        ⟨oc, od, qual, params, body, scope, dV, kV, doc, pm, ct, an, cda, cc, osl, file, tf, vs, ccl, cl, cdd, cld, ccs, csl, i3, i4, i5, i6, i7, i8, i9, fun s us hl => .of_eq (i10 us hl), i11, i12⟩, d2, d3⟩
      refine ⟨D, fI, ?_, hE⟩
      show (match r[k]? with
        | some (x, _) => (match PySem.W.nsIn K mainGlobals x with
          | some (some (.ref C)) => some C
          | _ => none)
        | none => none) = some D
      rw [e]
      show (match PySem.W.nsIn K mainGlobals x with
          | some (some (.ref C)) => some C
          | _ => none) = some D
      rw [d5.gC]
/-- the end -/
theorem walk_law {l : PySem.W.OpenLaw} {n k : Nat} {q : Program} {loose : List Str} {XP : (Str → Option Value) → Heap → Prop} {YP : World → Heap → Prop} {d : DefRec} {K : Params → PySem.W.Frag} {x nm : Str} {sp : SpecD} {r : List (Str × List Str)} {N : List Str} {ms : List Sm} {T : NT} {G : GE}
    (hn : l.most = some n) (hn2 : n ≤ sizeLine) (hdf : d.params.defaults = []) (hr : Room (k + 1) callerA) (hd : d.name = nm) (hY : ∀ (w : World) (h : Heap), YP w h → (K w.params).In h) {st : Stmt} (say : ∀ w : World, FunSay (K w.params) nm st) (bnd : FunBnd nm st [x] [])
    (F : ∀ (w : World) (mg : Str → Option Value) (base : Heap), (K w.params).In base → base.Ns mainGlobals mg → Bs G (jOf r (K w.params)) T k l.prog w (K w.params) mg base) (D : Does G T st N [x] ms sp)
    (hsp : ∀ ns : List Int, ns.length ≤ n → sp [.scr (ns.map .int)] (fun _ => none) (fun d _ => d = .bl true) (fun _ _ => False)) : PySem.W.WalkO q loose XP YP l.row.toRowW d [] (fun f vs => PySem.call f vs) := by
  refine L2.walk_of (l := l) (n := n) (k := k + 1) (x := x) (CX := fun w => L2N.CX l.prog w) (sp := fun w => spD (K w.params) (jOf r (K w.params)) sp) hn hn2 hdf hr hY (fun w mg fa h KX G' hmg => ?_) (fun w H a ns hl hO hS => law_spec hS (hsp ns hl)) (fun w H s e s' ⟨_, _, _, _, _, _, _, _, _, _, _, _, z⟩ => z)
  obtain ⟨f, oc, od, kV, doc, pm, an, cdv, ct, osl, h1, h2, h3, h4⟩ := (say w).ex
  rw [hd, PySem.W.mg_of KX G' h1] at hmg
  cases hmg
  exact ⟨PySem.W.fnOf nm nm (defArgs st) (defBody st) (defScope st) .none kV doc pm an cdv ct, fun s u => .of_eq (bnd.pos kV doc pm an cdv ct [u] rfl), fun base KB GB => fn_ok (F w mg base KB GB) h2 h3 D.sc D.len D.chk D.wp⟩
end
end MP
/-! words for the plain part -/
namespace MP
open PySem PySem.Spec PyProof.Rows L2
def tyB : Ty → D → Bool
  | .int, .bl _ => true
  | .bool, .bl _ => true
  | .int, .int _ => true
  | .str, .str _ => true
  | .tuple, .tup _ => true
  | .list, .lst _ => true
  | .list, .ref _ => true
  | .list, .scr _ => true
  | _, _ => false
theorem isTy_plain {v : D} (h : plain v = true) (S : Sto) (t : Ty) : isTy S t v = some (tyB t v) := by
  cases v <;> first | (cases t <;> rfl) | (simp [plain] at h)
theorem wp_bool {b : Bool} {P Q : Prop} (h1 : b = true → P) (h2 : b = false → Q) : if b = true then P else Q := by
  cases b with
  | true => exact h1 rfl
  | false => exact h2 rfl
theorem supd_at {S : Sto} {a : Addr} {o : Ob} : supd S a o a = some o := if_pos rfl
/-- a comprehension whose turns leave the store as it is -/
theorem lcW_map {src : Option Addr} {all : List D} {ρ : Rho} {el : Rho → Sto → (Option D → Sto → Prop) → Prop} {K : List D → Sto → Prop} {S : Sto} {tg : Tg} (f : D → D) (hst : Stab src all S) : ∀ (xs acc : List D), acc.length + xs.length ≤ sizeLine →
    (∀ x ∈ xs, ∃ ρ1, setT tg x ρ = some ρ1 ∧ ∀ K' : Option D → Sto → Prop, K' (some (f x)) S → el ρ1 S K') → K (acc ++ xs.map f) S → lcW src all tg ρ el K xs acc S
  | [], acc, _, _, h => by simp only [lcW]; exact ⟨hst, by simpa using h⟩
  | x :: xs, acc, hl, hs, h => by
    simp only [lcW]
    obtain ⟨ρ1, h1, h2⟩ := hs x (List.mem_cons_self ..)
    refine ⟨hst, by simp at hl; omega, ρ1, h1, h2 _ ?_⟩
    exact lcW_map f hst xs (acc ++ [f x]) (by simp at hl ⊢; omega) (fun y hy => hs y (List.mem_cons_of_mem _ hy)) (by simpa using h)
/-- a comprehension whose turns go on from store to store -/
theorem lcW_go {src : Option Addr} {all : List D} {ρ : Rho} {el : Rho → Sto → (Option D → Sto → Prop) → Prop} {K : List D → Sto → Prop} {tg : Tg} (I : Sto → Prop) (P : D → Prop) (hst : ∀ S, I S → Stab src all S) : ∀ (xs acc : List D) (S : Sto), acc.length + xs.length ≤ sizeLine → I S → (∀ y ∈ acc, P y) →
    (∀ x ∈ xs, ∃ ρ1, setT tg x ρ = some ρ1 ∧ ∀ S, I S → ∀ K' : Option D → Sto → Prop, (∀ y S', P y → I S' → K' (some y) S') → el ρ1 S K') → (∀ ys S', ys.length = acc.length + xs.length → (∀ y ∈ ys, P y) → I S' → K ys S') → lcW src all tg ρ el K xs acc S
  | [], acc, S, _, hI, ha, _, h => by simp only [lcW]; exact ⟨hst S hI, h acc S (by simp) ha hI⟩
  | x :: xs, acc, S, hl, hI, ha, hs, h => by
    simp only [lcW]
    obtain ⟨ρ1, h1, h2⟩ := hs x (List.mem_cons_self ..)
    refine ⟨hst S hI, by simp at hl; omega, ρ1, h1, h2 S hI _ fun y S' hy hI' => ?_⟩
    refine lcW_go I P hst xs (acc ++ [y]) S' (by simp at hl ⊢; omega) hI' (fun z hz => ?_) (fun z hz => hs z (List.mem_cons_of_mem _ hz)) (fun ys S2 hl2 h3 h4 => h ys S2 (by simp at hl2 ⊢; omega) h3 h4)
    rcases List.mem_append.mp hz with q | q
    · exact ha z q
    · rw [List.mem_singleton.mp q]; exact hy
/-- a loop by an invariant over what is left -/
theorem forW_ind {src : Option Addr} {all : List D} {tg : Tg} {body : Rho → Sto → Ct → Prop} {C : Ct} (I : List D → Rho → Sto → Prop) (h0 : ∀ ρ S, I [] ρ S → Stab src all S ∧ C.nx ρ S)
    (hs : ∀ x xs ρ S, I (x :: xs) ρ S → Stab src all S ∧ ∃ ρ1, setT tg x ρ = some ρ1 ∧ ∀ nx : Rho → Sto → Prop, (∀ ρ' S', I xs ρ' S' → nx ρ' S') → body ρ1 S { nx := nx, rt := C.rt, bk := C.nx, ct := nx, ex := C.ex }) : ∀ (xs : List D) (ρ : Rho) (S : Sto), I xs ρ S → forW src all tg body C xs ρ S
  | [], ρ, S, h => by simp only [forW]; exact h0 ρ S h
  | x :: xs, ρ, S, h => by
    simp only [forW]
    obtain ⟨h1, ρ1, h2, h3⟩ := hs x xs ρ S h
    exact ⟨h1, ρ1, h2, h3 _ fun ρ' S' q => forW_ind I h0 hs xs ρ' S' q⟩
theorem plainL_mem : ∀ {xs : List D}, plainL xs = true → ∀ x ∈ xs, plain x = true
  | [], _, _, h => by cases h
  | y :: ys, h, x, hx => by
    simp only [plainL, Bool.and_eq_true] at h
    rcases List.mem_cons.mp hx with e | e
    · rw [e]; exact h.1
    · exact plainL_mem h.2 x e
theorem plainL_of : ∀ {xs : List D}, (∀ x ∈ xs, plain x = true) → plainL xs = true
  | [], _ => rfl
  | y :: ys, h => by
    simp only [plainL, Bool.and_eq_true]
    exact ⟨h y (List.mem_cons_self ..), plainL_of fun x hx => h x (List.mem_cons_of_mem _ hx)⟩
theorem atI_get {α : Type} {xs : List α} {i : Int} (h0 : 0 ≤ i) (h1 : i < xs.length) : ∃ x, atI xs i = some x ∧ x ∈ xs := by
  obtain ⟨n, rfl⟩ := Int.eq_ofNat_of_zero_le h0
  have hn : n < xs.length := by omega
  refine ⟨xs[n], ?_, List.getElem_mem hn⟩
  have e : xs[n]? = some xs[n] := List.getElem?_eq_getElem hn
  exact atI_nat e
theorem wpB_nil {G : GE} {ρ : Rho} {S : Sto} {C : Ct} : wpB G [] ρ S C = C.nx ρ S := by simp only [wpB]
theorem wpB_cons {G : GE} {s : Sm} {ss : List Sm} {ρ : Rho} {S : Sto} {C : Ct} : wpB G (s :: ss) ρ S C = wpS G s ρ S { nx := fun ρ1 S1 => wpB G ss ρ1 S1 C, rt := C.rt, bk := C.bk, ct := C.ct, ex := C.ex } := by simp only [wpB]
theorem wpB_ret {G : GE} {e : Ex} {ρ : Rho} {S : Sto} {C : Ct} : wpB G [.ret false e] ρ S C = wpE G e ρ S (fun v S1 => C.rt v S1) (fun x S1 => C.ex x ρ S1) := by
  simp only [wpB, wpS, Bool.false_eq_true, if_false]
theorem cut1 {α : Type} {c : α} {r : List α} : cutL (c :: r) (some 1) none = r := by
  unfold cutL
  rw [show (some (1 : Int)) = some ((1 : Nat) : Int) from rfl, HT.sIx_nat, HT.sIx_none, show min 1 (c :: r).length = 1 by simp only [List.length_cons]; omega, List.drop_succ_cons, List.drop_zero]
  exact List.take_of_length_le (by simp)
theorem cutk {α : Type} (xs : List α) (k : Nat) : cutL xs none (some (k : Int)) = xs.take k := by
  unfold cutL
  rw [HT.sIx_nat, HT.sIx_none, List.drop_zero, Nat.sub_zero]
  rcases Nat.le_total k xs.length with h | h
  · rw [Nat.min_eq_left h]
  · rw [Nat.min_eq_right h, List.take_of_length_le h, List.take_of_length_le (Nat.le_refl _)]
theorem cutd {α : Type} (xs : List α) (k : Nat) : cutL xs (some (k : Int)) none = xs.drop k := by
  unfold cutL
  rw [HT.sIx_nat, HT.sIx_none]
  rcases Nat.le_total k xs.length with h | h
  · rw [Nat.min_eq_left h]; exact List.take_of_length_le (by simp)
  · rw [Nat.min_eq_right h, List.drop_of_length_le h, List.drop_of_length_le (Nat.le_refl _)]; simp
theorem sum_le {m : Nat} : ∀ {l : List Nat}, (∀ x ∈ l, x ≤ m) → l.sum ≤ l.length * m
  | [], _ => by simp
  | x :: l, h => by
    have h1 := h x (List.mem_cons_self ..)
    have h2 := sum_le (l := l) fun y hy => h y (List.mem_cons_of_mem _ hy)
    simp only [List.sum_cons, List.length_cons, Nat.add_mul, Nat.one_mul]; omega
theorem spl1 (c : Nat) : ∀ (s acc : List Nat), ∃ w ws, TL.spl [c] 0 acc s = w :: ws ∧ ws.length ≤ s.length ∧ ∀ p ∈ w :: ws, p.length ≤ acc.length + s.length
  | [], acc => ⟨acc, [], TL.spl_nil _ _ _, by simp, fun p hp => by rw [List.mem_singleton.mp hp]; simp⟩
  | x :: s, acc => by
    cases h : TL.pre [c] (x :: s) with
    | true =>
      obtain ⟨w, ws, h1, h2, h3⟩ := spl1 c s []
      refine ⟨acc, w :: ws, by rw [TL.spl_hit h]; show acc :: TL.spl [c] 0 [] s = _; rw [h1], by simp; omega, fun p hp => ?_⟩
      rcases List.mem_cons.mp hp with e | e
      · rw [e]; simp
      · have := h3 p e; simp at this ⊢; omega
    | false =>
      obtain ⟨w, ws, h1, h2, h3⟩ := spl1 c s (acc ++ [x])
      refine ⟨w, ws, by rw [TL.spl_miss h, h1], by simp; omega, fun p hp => ?_⟩
      have := h3 p hp; simp at this ⊢; omega
end MP
/-! what a class has to say, piece by piece -/
namespace MP
open PySem PySem.Spec PyProof.Rows L2
theorem cls_say {P : Program} {K : PySem.W.Frag} {CE C fI cda cc N : Addr} {x nm q : Str} {ns : List Str} {bs : List Value} {sn : List Str} {sub : List Value} {ab : Bool} {col : Option Bool} {dd : Option Addr} {k0 k1 k2 k3 k5 : Option Value} {oc : Value} {od : Option Addr} {qual : Str} {params : Arguments} {body : List Stmt} {scope : Scope}
    {dV kV doc pm ct : Value} {an : Option Addr} {osl : Array (Option Value)} {file : Str} {tf : Tok} {vs : Array Value} {ccl cl : Value} {cdd cld : Option Addr} {ccs csl : Array (Option Value)}
    (gC : PySem.W.nsIn K mainGlobals x = some (some (.ref C))) (l : K.lookup C = some (excClassObj nm q C N bs (.ref CE :: veT) true sn sub ab col dd k0 k1 k2 k3 k5 "ValueError.__new__"))
    (sa : PySem.W.findIn K (.ref C) "__setattr__" = some (some (.builtin "object.__setattr__"))) (ga : PySem.W.findIn K (.ref C) "__getattribute__" = some (some (.builtin "BaseException.__getattribute__"))) (gg : PySem.W.findIn K (.ref C) "__getattr__" = some none) (ca : PySem.W.findIn K (.ref C) "__class__" = some (some (.builtin "object.__class__")))
    (noN : ∀ f ∈ ns, PySem.W.findIn K (.ref C) f = some none) (tyC : PySem.W.typeIn K (.ref C) = some (.type "type")) (kC : PySem.W.keepIn K (.ref C) = true) (supI : PySem.W.ks_superIn K C C "__init__" = some (some (.builtin "ValueError.__init__")))
    (i1 : PySem.W.findIn K (.ref C) "__init__" = some (some (.ref fI))) (i2 : PySem.W.typeIn K (.ref fI) = some (.type "function")) (i3 : K.lookup fI = some ⟨oc, od, .func (PySem.W.ksFn "__init__" qual params body scope dV kV doc pm an (.ref cda) ct cc), osl⟩)
    (i4 : PySem.W.codeIn K (.ref cda) qual = true) (i5 : K.lookup cda = some ⟨ccl, cdd, .fields vs, ccs⟩) (i6 : vs[2]? = some (.str file tf)) (i7 : ((P.main.file : Str) == file) = true) (i8 : K.lookup cc = some ⟨cl, cld, .cell (some (.ref C)), csl⟩)
    (i9 : ((params.posonlyargs ++ params.args).head?.map (·.arg)) = some ("self" : Str)) (i10 : ∀ (us : List Value), us.length = ns.length + 1 → bindArgs (PySem.W.ksFn "__init__" qual params body scope dV kV doc pm an (.ref cda) ct cc) ⟨us, []⟩ = pure ((("self" : Str) :: ns).zip us))
    (i11 : MPX.bodyB ns body = true) (i12 : MPX.scopeB ns scope = true) : ClsSay P K CE C x ns :=
  ⟨gC, ⟨nm, q, N, bs, sn, sub, ab, col, dd, k0, k1, k2, k3, k5, l⟩, sa, ga, gg, ca, noN, tyC, kC, supI, ⟨fI, oc, od, qual, params, body, scope, dV, kV, doc, pm, ct, an, cda, cc, osl, file, tf, vs, ccl, cl, cdd, cld, ccs, csl, i1, i2, i3, i4, i5, i6, i7, i8, i9, i10, i11, i12⟩⟩
theorem cls_one {P : Program} {K : PySem.W.Frag} {CE C : Addr} {x : Str} {ns : List Str} {r : List (Str × List Str)} {cs : List Addr} (h : ClsSay P K CE C x ns) (h1 : ns ≠ []) (h2 : ns.length ≤ 900) (h3 : C ≠ CE) (t : AllCls P K CE r cs) : AllCls P K CE ((x, ns) :: r) (C :: cs) := ⟨⟨h1, h2, h3, h⟩, t⟩
theorem cls_nil {P : Program} {K : PySem.W.Frag} {CE : Addr} : AllCls P K CE [] [] := True.intro
theorem con_one {K : PySem.W.Frag} {x : Str} {d : D} {xs : List Str} {ds : List D} (h : ConSay K x d) (t : ConAll K xs ds) : ConAll K (x :: xs) (d :: ds) := ⟨h, t⟩
theorem con_nil {K : PySem.W.Frag} : ConAll K [] [] := True.intro
theorem blt_nil {K : PySem.W.Frag} : ∀ x ∈ ([] : List Str), PySem.W.nsIn K mainGlobals x = some none := fun _ h => by cases h
theorem blt_one {K : PySem.W.Frag} {y : Str} {l : List Str} (h : PySem.W.nsIn K mainGlobals y = some none) (t : ∀ x ∈ l, PySem.W.nsIn K mainGlobals x = some none) : ∀ x ∈ y :: l, PySem.W.nsIn K mainGlobals x = some none := fun x hx => by
  rcases List.mem_cons.mp hx with e | e
  · rw [e]; exact h
  · exact t x e
theorem no_nil {K : PySem.W.Frag} {C : Addr} : ∀ f ∈ ([] : List Str), PySem.W.findIn K (.ref C) f = some none := fun _ h => by cases h
theorem no_one {K : PySem.W.Frag} {C : Addr} {y : Str} {l : List Str} (h : PySem.W.findIn K (.ref C) y = some none) (t : ∀ f ∈ l, PySem.W.findIn K (.ref C) f = some none) : ∀ f ∈ y :: l, PySem.W.findIn K (.ref C) f = some none := fun x hx => by
  rcases List.mem_cons.mp hx with e | e
  · rw [e]; exact h
  · exact t x e
end MP
/-! the reckoning made plain: rows for simp -/
namespace MP
open PySem PySem.Spec PyProof.Rows L2
section
variable {S : Sto} {Q : Post} {i j : Int} {s t : List Nat} {xs ys : List D} {x y v : D}
theorem datD_plain (h : plain x = true) : datD S x = some x := by cases x <;> first | rfl | (simp [plain] at h)
theorem seqD_lst : seqD S (.lst xs) = some xs := rfl
theorem seqD_tup : seqD S (.tup xs) = some xs := rfl
theorem seqD_scr : seqD S (.scr xs) = some xs := rfl
theorem seqD_ref {S : Sto} {p : Addr} {xs : List D} (h : S p = some (.lst xs)) : seqD S (.ref p) = some xs := by unfold seqD; simp only [h]
theorem seqD_supd {S : Sto} {p : Addr} {xs : List D} : seqD (supd S p (.lst xs)) (.ref p) = some xs := seqD_ref supd_at
theorem listD_lst : listD S (.lst xs) = some xs := rfl
theorem listD_ref {S : Sto} {p : Addr} {xs : List D} (h : S p = some (.lst xs)) : listD S (.ref p) = some xs := by unfold listD; simp only [h]
theorem listD_supd {S : Sto} {p : Addr} {xs : List D} : listD (supd S p (.lst xs)) (.ref p) = some xs := listD_ref supd_at
theorem lenD_str : lenD S (.str s) = some s.length := rfl
theorem lenD_tup : lenD S (.tup xs) = some xs.length := rfl
theorem lenD_lst : lenD S (.lst xs) = some xs.length := rfl
theorem lenD_scr : lenD S (.scr xs) = some xs.length := rfl
theorem lenD_ref {p : Addr} (h : S p = some (.lst xs)) : lenD S (.ref p) = some xs.length := by unfold lenD; simp only [seqD_ref h, Option.map_some]
theorem lenD_supd {p : Addr} : lenD (supd S p (.lst xs)) (.ref p) = some xs.length := lenD_ref supd_at
theorem eqb_ii : eqb (.int i) (.int j) = decide (i = j) := by
  show (i == j) = _
  by_cases h : i = j
  · subst h; simp
  · rw [decide_eq_false h]; exact beq_false_of_ne h
theorem eqb_ss : eqb (.str s) (.str t) = decide (s = t) := by
  show (s == t) = _
  by_cases h : s = t
  · subst h; simp
  · rw [decide_eq_false h]; exact beq_false_of_ne h
theorem eqb_bb {b c : Bool} : eqb (.bl b) (.bl c) = (b == c) := rfl
theorem cmp_eq (hx : plain x = true) (hy : plain y = true) (hd : dep x ≤ 64 ∨ dep y ≤ 64) : cmpR .eq x y S Q = Q (.bl (eqb x y)) S := by
  apply propext
  simp only [cmpR, datD_plain hx, datD_plain hy]
  exact ⟨fun ⟨_, _, h1, h2, _, _, _, h⟩ => by cases h1; cases h2; exact h, fun h => ⟨_, _, rfl, rfl, hx, hy, hd, h⟩⟩
theorem cmp_ne (hx : plain x = true) (hy : plain y = true) (hd : dep x ≤ 64 ∨ dep y ≤ 64) : cmpR .ne x y S Q = Q (.bl (!eqb x y)) S := by
  apply propext
  simp only [cmpR, datD_plain hx, datD_plain hy]
  exact ⟨fun ⟨_, _, h1, h2, _, _, _, h⟩ => by cases h1; cases h2; exact h, fun h => ⟨_, _, rfl, rfl, hx, hy, hd, h⟩⟩
theorem eq_ii : cmpR .eq (.int i) (.int j) S Q = Q (.bl (decide (i = j))) S := by rw [cmp_eq rfl rfl (.inl (Nat.zero_le _)), eqb_ii]
theorem ne_ii : cmpR .ne (.int i) (.int j) S Q = Q (.bl (!decide (i = j))) S := by rw [cmp_ne rfl rfl (.inl (Nat.zero_le _)), eqb_ii]
theorem eq_ss : cmpR .eq (.str s) (.str t) S Q = Q (.bl (decide (s = t))) S := by rw [cmp_eq rfl rfl (.inl (Nat.zero_le _)), eqb_ss]
theorem ne_ss : cmpR .ne (.str s) (.str t) S Q = Q (.bl (!decide (s = t))) S := by rw [cmp_ne rfl rfl (.inl (Nat.zero_le _)), eqb_ss]
theorem eq_bb {b c : Bool} : cmpR .eq (.bl b) (.bl c) S Q = Q (.bl (b == c)) S := by rw [cmp_eq rfl rfl (.inl (Nat.zero_le _)), eqb_bb]
theorem ne_bb {b c : Bool} : cmpR .ne (.bl b) (.bl c) S Q = Q (.bl (!(b == c))) S := by rw [cmp_ne rfl rfl (.inl (Nat.zero_le _)), eqb_bb]
/-- against an int, a text: any plain value -/
theorem eq_pi (hx : plain x = true) : cmpR .eq x (.int j) S Q = Q (.bl (eqb x (.int j))) S := cmp_eq hx rfl (.inr (Nat.zero_le _))
theorem ne_pi (hx : plain x = true) : cmpR .ne x (.int j) S Q = Q (.bl (!eqb x (.int j))) S := cmp_ne hx rfl (.inr (Nat.zero_le _))
theorem eq_ps (hx : plain x = true) : cmpR .eq x (.str t) S Q = Q (.bl (eqb x (.str t))) S := cmp_eq hx rfl (.inr (Nat.zero_le _))
theorem ne_ps (hx : plain x = true) : cmpR .ne x (.str t) S Q = Q (.bl (!eqb x (.str t))) S := cmp_ne hx rfl (.inr (Nat.zero_le _))
theorem lt_ii : cmpR .lt (.int i) (.int j) S Q = Q (.bl (decide (i < j))) S := rfl
theorem le_ii : cmpR .le (.int i) (.int j) S Q = Q (.bl (decide (i ≤ j))) S := rfl
theorem gt_ii : cmpR .gt (.int i) (.int j) S Q = Q (.bl (decide (j < i))) S := rfl
theorem ge_ii : cmpR .ge (.int i) (.int j) S Q = Q (.bl (decide (j ≤ i))) S := rfl
theorem lt_ss : cmpR .lt (.str s) (.str t) S Q = Q (.bl (ltL s t)) S := rfl
theorem le_ss : cmpR .le (.str s) (.str t) S Q = Q (.bl (!ltL t s)) S := rfl
theorem in_ss {c : Nat} : cmpR .isin (.str [c]) (.str t) S Q = Q (.bl (decide (c ∈ t))) S := propext ⟨fun ⟨d, e, h⟩ => by cases e; exact h, fun h => ⟨c, rfl, h⟩⟩
theorem ni_ss {c : Nat} : cmpR .notin (.str [c]) (.str t) S Q = Q (.bl (!decide (c ∈ t))) S := propext ⟨fun ⟨d, e, h⟩ => by cases e; exact h, fun h => ⟨c, rfl, h⟩⟩
theorem in_t (hx : plain x = true) (hy : plainL ys = true) (hd : dep x ≤ 64 ∨ depL ys ≤ 64) : cmpR .isin x (.tup ys) S Q = Q (.bl (ys.any fun z => eqb z x)) S :=
  propext ⟨fun ⟨_, e, _, _, _, h⟩ => by cases e; exact h, fun h => ⟨_, rfl, hx, hy, hd, h⟩⟩
theorem ni_t (hx : plain x = true) (hy : plainL ys = true) (hd : dep x ≤ 64 ∨ depL ys ≤ 64) : cmpR .notin x (.tup ys) S Q = Q (.bl (!ys.any fun z => eqb z x)) S :=
  propext ⟨fun ⟨_, e, _, _, _, h⟩ => by cases e; exact h, fun h => ⟨_, rfl, hx, hy, hd, h⟩⟩
theorem in_l (hx : plain x = true) (hy : plainL ys = true) (hd : dep x ≤ 64 ∨ depL ys ≤ 64) : cmpR .isin x (.lst ys) S Q = Q (.bl (ys.any fun z => eqb z x)) S :=
  propext ⟨fun ⟨_, e, _, _, _, h⟩ => by cases e; exact h, fun h => ⟨_, rfl, hx, hy, hd, h⟩⟩
theorem ni_l (hx : plain x = true) (hy : plainL ys = true) (hd : dep x ≤ 64 ∨ depL ys ≤ 64) : cmpR .notin x (.lst ys) S Q = Q (.bl (!ys.any fun z => eqb z x)) S :=
  propext ⟨fun ⟨_, e, _, _, _, h⟩ => by cases e; exact h, fun h => ⟨_, rfl, hx, hy, hd, h⟩⟩
theorem in_r {p : Addr} (hx : plain x = true) (hy : plainL ys = true) (hd : dep x ≤ 64 ∨ depL ys ≤ 64) : cmpR .isin x (.ref p) (supd S p (.lst ys)) Q = Q (.bl (ys.any fun z => eqb z x)) (supd S p (.lst ys)) :=
  propext ⟨fun ⟨_, e, _, _, _, h⟩ => by rw [seqD_supd] at e; cases e; exact h, fun h => ⟨_, seqD_supd, hx, hy, hd, h⟩⟩
theorem ni_r {p : Addr} (hx : plain x = true) (hy : plainL ys = true) (hd : dep x ≤ 64 ∨ depL ys ≤ 64) : cmpR .notin x (.ref p) (supd S p (.lst ys)) Q = Q (.bl (!ys.any fun z => eqb z x)) (supd S p (.lst ys)) :=
  propext ⟨fun ⟨_, e, _, _, _, h⟩ => by rw [seqD_supd] at e; cases e; exact h, fun h => ⟨_, seqD_supd, hx, hy, hd, h⟩⟩
/-! types -/
theorem ty_int_non : isTy S .int (.non) = some false := rfl
theorem ty_int_bl {b : Bool} : isTy S .int (.bl b) = some true := rfl
theorem ty_int_int : isTy S .int (.int i) = some true := rfl
theorem ty_int_str : isTy S .int (.str s) = some false := rfl
theorem ty_int_tup : isTy S .int (.tup xs) = some false := rfl
theorem ty_int_lst : isTy S .int (.lst xs) = some false := rfl
theorem ty_int_scr : isTy S .int (.scr xs) = some false := rfl
theorem ty_int_supd {p : Addr} : isTy (supd S p (.lst xs)) .int (.ref p) = some false := by simp only [isTy, supd_at]; rfl
theorem ty_str_non : isTy S .str (.non) = some false := rfl
theorem ty_str_bl {b : Bool} : isTy S .str (.bl b) = some false := rfl
theorem ty_str_int : isTy S .str (.int i) = some false := rfl
theorem ty_str_str : isTy S .str (.str s) = some true := rfl
theorem ty_str_tup : isTy S .str (.tup xs) = some false := rfl
theorem ty_str_lst : isTy S .str (.lst xs) = some false := rfl
theorem ty_str_scr : isTy S .str (.scr xs) = some false := rfl
theorem ty_str_supd {p : Addr} : isTy (supd S p (.lst xs)) .str (.ref p) = some false := by simp only [isTy, supd_at]; rfl
theorem ty_bool_non : isTy S .bool (.non) = some false := rfl
theorem ty_bool_bl {b : Bool} : isTy S .bool (.bl b) = some true := rfl
theorem ty_bool_int : isTy S .bool (.int i) = some false := rfl
theorem ty_bool_str : isTy S .bool (.str s) = some false := rfl
theorem ty_bool_tup : isTy S .bool (.tup xs) = some false := rfl
theorem ty_bool_lst : isTy S .bool (.lst xs) = some false := rfl
theorem ty_bool_scr : isTy S .bool (.scr xs) = some false := rfl
theorem ty_bool_supd {p : Addr} : isTy (supd S p (.lst xs)) .bool (.ref p) = some false := by simp only [isTy, supd_at]; rfl
theorem ty_tuple_non : isTy S .tuple (.non) = some false := rfl
theorem ty_tuple_bl {b : Bool} : isTy S .tuple (.bl b) = some false := rfl
theorem ty_tuple_int : isTy S .tuple (.int i) = some false := rfl
theorem ty_tuple_str : isTy S .tuple (.str s) = some false := rfl
theorem ty_tuple_tup : isTy S .tuple (.tup xs) = some true := rfl
theorem ty_tuple_lst : isTy S .tuple (.lst xs) = some false := rfl
theorem ty_tuple_scr : isTy S .tuple (.scr xs) = some false := rfl
theorem ty_tuple_supd {p : Addr} : isTy (supd S p (.lst xs)) .tuple (.ref p) = some false := by simp only [isTy, supd_at]; rfl
theorem ty_list_non : isTy S .list (.non) = some false := rfl
theorem ty_list_bl {b : Bool} : isTy S .list (.bl b) = some false := rfl
theorem ty_list_int : isTy S .list (.int i) = some false := rfl
theorem ty_list_str : isTy S .list (.str s) = some false := rfl
theorem ty_list_tup : isTy S .list (.tup xs) = some false := rfl
theorem ty_list_lst : isTy S .list (.lst xs) = some true := rfl
theorem ty_list_scr : isTy S .list (.scr xs) = some true := rfl
theorem ty_list_supd {p : Addr} : isTy (supd S p (.lst xs)) .list (.ref p) = some true := by simp only [isTy, supd_at]; rfl

/-! built-ins -/
theorem r_len_str : bltR .len [.str s] S Q = Q (.int s.length) S := propext ⟨fun ⟨_, e, h⟩ => by cases e; exact h, fun h => ⟨_, rfl, h⟩⟩
theorem r_len_tup : bltR .len [.tup xs] S Q = Q (.int xs.length) S := propext ⟨fun ⟨_, e, h⟩ => by cases e; exact h, fun h => ⟨_, rfl, h⟩⟩
theorem r_len_lst : bltR .len [.lst xs] S Q = Q (.int xs.length) S := propext ⟨fun ⟨_, e, h⟩ => by cases e; exact h, fun h => ⟨_, rfl, h⟩⟩
theorem r_len_scr : bltR .len [.scr xs] S Q = Q (.int xs.length) S := propext ⟨fun ⟨_, e, h⟩ => by cases e; exact h, fun h => ⟨_, rfl, h⟩⟩
theorem r_len_ref {p : Addr} : bltR .len [.ref p] (supd S p (.lst xs)) Q = Q (.int xs.length) (supd S p (.lst xs)) := propext ⟨fun ⟨_, e, h⟩ => by rw [lenD_supd] at e; cases e; exact h, fun h => ⟨_, lenD_supd, h⟩⟩
theorem r_int_i : bltR .int [.int i] S Q = Q (.int i) S := rfl
theorem r_int_b {b : Bool} : bltR .int [.bl b] S Q = Q (.int (if b = true then 1 else 0)) S := rfl
theorem r_str_i (h : i.natAbs < 10000000000000000000000000000000000000000) : bltR .str [.int i] S Q = Q (.str (decI i)) S := propext ⟨fun h => h.2, fun q => ⟨h, q⟩⟩
theorem r_abs : bltR .abs [.int i] S Q = Q (.int (if i < 0 then -i else i)) S := rfl
theorem r_max : bltR .max2 [.int i, .int j] S Q = Q (.int (if j > i then j else i)) S := rfl
theorem r_min : bltR .min2 [.int i, .int j] S Q = Q (.int (if j < i then j else i)) S := rfl
theorem bmap_inj {α β : Type} {f : β → D} (hf : ∀ a b, f a = f b → a = b) : ∀ {l m : List β}, l.map f = m.map f → l = m
  | [], [], _ => rfl
  | [], _ :: _, h => by simp at h
  | _ :: _, [], h => by simp at h
  | a :: l, b :: m, h => by
    simp only [List.map_cons, List.cons.injEq] at h
    rw [hf a b h.1, bmap_inj (α := α) hf h.2]
theorem r_all {α : Type} {l : List α} {f : α → Bool} : bltR .all [.lst (l.map fun x => .bl (f x))] S Q = Q (.bl (l.all f)) S := by
  apply propext
  have e : (l.map fun x => D.bl (f x)) = (l.map f).map D.bl := by rw [List.map_map]; rfl
  constructor
  · rintro ⟨bs, h1, h2⟩
    rw [listD_lst, e, Option.some.injEq] at h1
    have := bmap_inj (α := α) (fun a b h => by cases h; rfl) h1
    subst this
    rw [List.all_map] at h2; exact h2
  · intro h
    exact ⟨l.map f, by rw [listD_lst, e], by rw [List.all_map]; exact h⟩
theorem r_any {α : Type} {l : List α} {f : α → Bool} : bltR .any [.lst (l.map fun x => .bl (f x))] S Q = Q (.bl (l.any f)) S := by
  apply propext
  have e : (l.map fun x => D.bl (f x)) = (l.map f).map D.bl := by rw [List.map_map]; rfl
  constructor
  · rintro ⟨bs, h1, h2⟩
    rw [listD_lst, e, Option.some.injEq] at h1
    have := bmap_inj (α := α) (fun a b h => by cases h; rfl) h1
    subst this
    rw [List.any_map] at h2; exact h2
  · intro h
    exact ⟨l.map f, by rw [listD_lst, e], by rw [List.any_map]; exact h⟩
theorem r_tup_lst : bltR .tup [.lst xs] S Q = Q (.tup xs) S := propext ⟨fun ⟨_, e, h⟩ => by cases e; exact h, fun h => ⟨_, rfl, h⟩⟩
theorem r_tup_tup : bltR .tup [.tup xs] S Q = Q (.tup xs) S := propext ⟨fun ⟨_, e, h⟩ => by cases e; exact h, fun h => ⟨_, rfl, h⟩⟩
theorem r_tup_ref {p : Addr} : bltR .tup [.ref p] (supd S p (.lst xs)) Q = Q (.tup xs) (supd S p (.lst xs)) := propext ⟨fun ⟨_, e, h⟩ => by rw [seqD_supd] at e; cases e; exact h, fun h => ⟨_, seqD_supd, h⟩⟩
theorem r_lst_lst : bltR (.lst false) [.lst xs] S Q = Q (.lst xs) S := propext ⟨fun ⟨_, e, h⟩ => by cases e; exact h, fun h => ⟨_, rfl, h⟩⟩
theorem r_lst_tup : bltR (.lst false) [.tup xs] S Q = Q (.lst xs) S := propext ⟨fun ⟨_, e, h⟩ => by cases e; exact h, fun h => ⟨_, rfl, h⟩⟩
theorem r_lst_scr : bltR (.lst false) [.scr xs] S Q = Q (.lst xs) S := propext ⟨fun ⟨_, e, h⟩ => by cases e; exact h, fun h => ⟨_, rfl, h⟩⟩
theorem r_sum {α : Type} {l : List α} {f : α → Int} : bltR .sum [.lst (l.map fun x => .int (f x))] S Q = Q (.int (l.map f).sum) S := by
  apply propext
  have e : (l.map fun x => D.int (f x)) = (l.map f).map D.int := by rw [List.map_map]; rfl
  constructor
  · rintro ⟨bs, h1, h2⟩
    rw [listD_lst, e, Option.some.injEq] at h1
    have := bmap_inj (α := α) (fun a b h => by cases h; rfl) h1
    subst this
    exact h2
  · intro h
    exact ⟨l.map f, by rw [listD_lst, e], h⟩
/-! places -/
theorem atI_cast {α : Type} {xs : List α} {k : Nat} : atI xs (k : Int) = xs[k]? := by
  cases h : xs[k]? with
  | some v => exact atI_nat h
  | none =>
    unfold atI ixN
    have := List.getElem?_eq_none_iff.mp h
    rw [if_pos (by omega), if_neg (by omega)]
    rfl
theorem atI_0 {α : Type} {a : α} {xs : List α} : atI (a :: xs) 0 = some a := atI_nat (j := 0) rfl
theorem atI_1 {α : Type} {a b : α} {xs : List α} : atI (a :: b :: xs) 1 = some b := atI_nat (j := 1) rfl
theorem atI_2 {α : Type} {a b c : α} {xs : List α} : atI (a :: b :: c :: xs) 2 = some c := atI_nat (j := 2) rfl
theorem atI_3 {α : Type} {a b c d : α} {xs : List α} : atI (a :: b :: c :: d :: xs) 3 = some d := atI_nat (j := 3) rfl
theorem atI_4 {α : Type} {a b c d e : α} {xs : List α} : atI (a :: b :: c :: d :: e :: xs) 4 = some e := atI_nat (j := 4) rfl
theorem atI_5 {α : Type} {a b c d e f : α} {xs : List α} : atI (a :: b :: c :: d :: e :: f :: xs) 5 = some f := atI_nat (j := 5) rfl
theorem atI_6 {α : Type} {a b c d e f g : α} {xs : List α} : atI (a :: b :: c :: d :: e :: f :: g :: xs) 6 = some g := atI_nat (j := 6) rfl
theorem ix_str {c : Nat} (h : atI s i = some c) : idxR (.str s) (.int i) S Q = Q (.str [c]) S := propext ⟨fun ⟨_, e, q⟩ => by rw [h] at e; cases e; exact q, fun q => ⟨c, h, q⟩⟩
theorem ix_tup (h : atI xs i = some v) : idxR (.tup xs) (.int i) S Q = Q v S := propext ⟨fun ⟨_, _, e, e2, q⟩ => by cases e; rw [h] at e2; cases e2; exact q, fun q => ⟨_, _, rfl, h, q⟩⟩
theorem ix_lst (h : atI xs i = some v) : idxR (.lst xs) (.int i) S Q = Q v S := propext ⟨fun ⟨_, _, e, e2, q⟩ => by cases e; rw [h] at e2; cases e2; exact q, fun q => ⟨_, _, rfl, h, q⟩⟩
theorem ix_scr (h : atI xs i = some v) : idxR (.scr xs) (.int i) S Q = Q v S := propext ⟨fun ⟨_, _, e, e2, q⟩ => by cases e; rw [h] at e2; cases e2; exact q, fun q => ⟨_, _, rfl, h, q⟩⟩
theorem ix_ref {p : Addr} (h : atI xs i = some v) : idxR (.ref p) (.int i) (supd S p (.lst xs)) Q = Q v (supd S p (.lst xs)) := propext ⟨fun ⟨_, _, e, e2, q⟩ => by rw [seqD_supd] at e; cases e; rw [h] at e2; cases e2; exact q, fun q => ⟨_, _, seqD_supd, h, q⟩⟩
/-- one of a display's items -/
theorem pick_lst {n : Int} (hn : (xs.length : Int) = n) (h0 : 0 ≤ i) (h1 : i < n) (h : ∀ x ∈ xs, Q x S) : idxR (.lst xs) (.int i) S Q := by
  obtain ⟨x, h2, h3⟩ := atI_get h0 (by omega : i < xs.length)
  rw [ix_lst h2]; exact h x h3
theorem pick_tup {n : Int} (hn : (xs.length : Int) = n) (h0 : 0 ≤ i) (h1 : i < n) (h : ∀ x ∈ xs, Q x S) : idxR (.tup xs) (.int i) S Q := by
  obtain ⟨x, h2, h3⟩ := atI_get h0 (by omega : i < xs.length)
  rw [ix_tup h2]; exact h x h3
theorem pick_ref {p : Addr} (h0 : 0 ≤ i) (h1 : i < xs.length) (h : ∀ x ∈ xs, Q x (supd S p (.lst xs))) : idxR (.ref p) (.int i) (supd S p (.lst xs)) Q := by
  obtain ⟨x, h2, h3⟩ := atI_get h0 h1
  rw [ix_ref h2]; exact h x h3
theorem pick_str {n : Int} (hn : (s.length : Int) = n) (h0 : 0 ≤ i) (h1 : i < n) (h : ∀ c ∈ s, Q (.str [c]) S) : idxR (.str s) (.int i) S Q := by
  obtain ⟨x, h2, h3⟩ := atI_get h0 (by omega : i < s.length)
  rw [ix_str h2]; exact h x h3
theorem newL_f : newL false xs S Q = Q (.lst xs) S := rfl
theorem newL_t : newL true xs S Q = ∀ p, S p = none → Q (.ref p) (supd S p (.lst xs)) := rfl
theorem supd_comm {S : Sto} {a p : Addr} {x y : Ob} (h : p ≠ a) : supd (supd S a x) p y = supd (supd S p y) a x := by
  funext b
  unfold supd
  by_cases h1 : b = p
  · by_cases h2 : b = a
    · exact absurd (h1.symm.trans h2) h
    · rw [if_pos h1, if_neg h2, if_pos h1]
  · rw [if_neg h1, if_neg h1]
theorem supd_self {S : Sto} {a : Addr} {o : Ob} (h : S a = some o) : supd S a o = S := by
  funext b
  unfold supd
  split
  · rename_i e; subst e; exact h.symm
  · rfl
theorem supd_none {S : Sto} {a p : Addr} {o : Ob} : (supd S a o p = none) = (p ≠ a ∧ S p = none) := by
  apply propext
  by_cases h : p = a
  · subst h; rw [supd_at]; simp
  · rw [supd_ne h]; simp [h]
theorem ret_new {p : Addr} {o : Ob} {d : D} (h : S p = none) (q : Q d S) : ∃ S'', Sub S'' (supd S p o) ∧ Q d S'' := ⟨S, .new h, q⟩
theorem ret_same {d : D} (q : Q d S) : ∃ S'', Sub S'' S ∧ Q d S'' := ⟨S, .refl S, q⟩
end
/-- a comprehension over typed items whose turns leave the store as it is -/
theorem lc_map {α : Type} {src : Option Addr} {all : List D} {tg : Tg} {ρ : Rho} {el : Rho → Sto → (Option D → Sto → Prop) → Prop} {K : List D → Sto → Prop} {S : Sto} (g f : α → D) (l : List α) (hst : Stab src all S) (hl : l.length ≤ sizeLine)
    (h : ∀ x ∈ l, ∃ ρ1, setT tg (g x) ρ = some ρ1 ∧ ∀ K' : Option D → Sto → Prop, K' (some (f x)) S → el ρ1 S K') (hk : K (l.map f) S) : lcW src all tg ρ el K (l.map g) [] S := by
  have key : ∀ (m : List α) (acc : List D), (∀ x ∈ m, x ∈ l) → acc.length + m.length ≤ sizeLine → K (acc ++ m.map f) S → lcW src all tg ρ el K (m.map g) acc S := by
    intro m
    induction m with
    | nil => intro acc _ _ h; simp only [List.map_nil, lcW]; exact ⟨hst, by simpa using h⟩
    | cons x m ih =>
      intro acc hm hl hk
      simp only [List.map_cons, lcW]
      obtain ⟨ρ1, h1, h2⟩ := h x (hm x (List.mem_cons_self ..))
      refine ⟨hst, by simp at hl; omega, ρ1, h1, h2 _ ?_⟩
      exact ih (acc ++ [f x]) (fun y hy => hm y (List.mem_cons_of_mem _ hy)) (by simp at hl ⊢; omega) (by simpa using hk)
  exact key l [] (fun _ h => h) (by simpa using hl) (by simpa using hk)
/-- the same with a test -/
theorem lc_flt {α : Type} {src : Option Addr} {all : List D} {tg : Tg} {ρ : Rho} {el : Rho → Sto → (Option D → Sto → Prop) → Prop} {K : List D → Sto → Prop} {S : Sto} (g f : α → D) (p : α → Bool) (l : List α) (hst : Stab src all S) (hl : l.length ≤ sizeLine)
    (h : ∀ x ∈ l, ∃ ρ1, setT tg (g x) ρ = some ρ1 ∧ ∀ K' : Option D → Sto → Prop, K' (if p x = true then some (f x) else none) S → el ρ1 S K') (hk : K ((l.filter p).map f) S) : lcW src all tg ρ el K (l.map g) [] S := by
  have key : ∀ (m : List α) (acc : List D), (∀ x ∈ m, x ∈ l) → acc.length + m.length ≤ sizeLine → K (acc ++ (m.filter p).map f) S → lcW src all tg ρ el K (m.map g) acc S := by
    intro m
    induction m with
    | nil => intro acc _ _ h; simp only [List.map_nil, lcW]; exact ⟨hst, by simpa using h⟩
    | cons x m ih =>
      intro acc hm hl hk
      simp only [List.map_cons, lcW]
      obtain ⟨ρ1, h1, h2⟩ := h x (hm x (List.mem_cons_self ..))
      refine ⟨hst, by simp at hl; omega, ρ1, h1, h2 _ ?_⟩
      cases hp : p x with
      | true =>
        rw [if_pos rfl]
        exact ih (acc ++ [f x]) (fun y hy => hm y (List.mem_cons_of_mem _ hy)) (by simp at hl ⊢; omega) (by simpa [List.filter_cons, hp] using hk)
      | false =>
        rw [if_neg Bool.false_ne_true]
        exact ih acc (fun y hy => hm y (List.mem_cons_of_mem _ hy)) (by simp at hl ⊢; omega) (by simpa [List.filter_cons, hp] using hk)
  exact key l [] (fun _ h => h) (by simpa using hl) (by simpa using hk)
theorem setT_nm {i : Nat} {d : D} {ρ : Rho} : setT (.nm i) d ρ = some (ρ.set i (some d)) := rfl
theorem setT_tp {ts : List Tg} {xs : List D} {ρ : Rho} : setT (.tp ts) (.tup xs) ρ = setTs ts xs ρ := rfl
theorem setTs_nil {ρ : Rho} : setTs [] [] ρ = some ρ := rfl
theorem setTs_cons {t : Tg} {ts : List Tg} {x : D} {xs : List D} {ρ : Rho} : setTs (t :: ts) (x :: xs) ρ = (setT t x ρ).bind fun ρ1 => setTs ts xs ρ1 := by
  show (match setT t x ρ with | some ρ1 => setTs ts xs ρ1 | none => none) = _
  cases setT t x ρ <;> rfl
theorem LIM_eq : LIM = 4000000 := rfl
theorem pick_l {Γ : Type} {xs : List D} {n : Int} {T : Γ → Sto} {R : Γ → Post} (hn : n.toNat = xs.length) : (∀ (σ : Γ) (r : Int), 0 ≤ r ∧ r < n → idxR (.lst xs) (.int r) (T σ) (R σ)) = ∀ (σ : Γ), ∀ x ∈ xs, R σ x (T σ) := by
  apply propext
  constructor
  · intro h σ x hx
    obtain ⟨j, hj, e⟩ := List.getElem_of_mem hx
    have := h σ (j : Int) ⟨by omega, by omega⟩
    rw [ix_lst (v := x) (by rw [atI_cast, List.getElem?_eq_getElem hj, e])] at this
    exact this
  · intro h σ r ⟨h0, h1⟩
    exact pick_lst (n := n) (by omega) h0 h1 fun x hx => h σ x hx
theorem pick_t {Γ : Type} {xs : List D} {n : Int} {T : Γ → Sto} {R : Γ → Post} (hn : n.toNat = xs.length) : (∀ (σ : Γ) (r : Int), 0 ≤ r ∧ r < n → idxR (.tup xs) (.int r) (T σ) (R σ)) = ∀ (σ : Γ), ∀ x ∈ xs, R σ x (T σ) := by
  apply propext
  constructor
  · intro h σ x hx
    obtain ⟨j, hj, e⟩ := List.getElem_of_mem hx
    have := h σ (j : Int) ⟨by omega, by omega⟩
    rw [ix_tup (v := x) (by rw [atI_cast, List.getElem?_eq_getElem hj, e])] at this
    exact this
  · intro h σ r ⟨h0, h1⟩
    exact pick_tup (n := n) (by omega) h0 h1 fun x hx => h σ x hx
theorem pick_s {Γ : Type} {s : List Nat} {n : Int} {T : Γ → Sto} {R : Γ → Post} (hn : n.toNat = s.length) : (∀ (σ : Γ) (r : Int), 0 ≤ r ∧ r < n → idxR (.str s) (.int r) (T σ) (R σ)) = ∀ (σ : Γ), ∀ c ∈ s, R σ (.str [c]) (T σ) := by
  apply propext
  constructor
  · intro h σ x hx
    obtain ⟨j, hj, e⟩ := List.getElem_of_mem hx
    have := h σ (j : Int) ⟨by omega, by omega⟩
    rw [ix_str (c := x) (by rw [atI_cast, List.getElem?_eq_getElem hj, e])] at this
    exact this
  · intro h σ r ⟨h0, h1⟩
    exact pick_str (n := n) (by omega) h0 h1 fun x hx => h σ x hx
/-- a statement, and what holds behind it -/
theorem wpB_cut {G : GE} {s : Sm} {ss : List Sm} {ρ : Rho} {S : Sto} {C : Ct} (I : Rho → Sto → Prop) (h1 : ∀ R : Rho → Sto → Prop, (∀ ρ S, I ρ S → R ρ S) → wpS G s ρ S { nx := R, rt := C.rt, bk := C.bk, ct := C.ct, ex := C.ex }) (h2 : ∀ ρ S, I ρ S → wpB G ss ρ S C) : wpB G (s :: ss) ρ S C := by
  rw [wpB_cons]; exact h1 _ h2
end MP
/-! rows for simp, each used ahead of its parts -/
namespace MP
open PySem PySem.Spec PyProof.Rows L2
section
theorem soft_plain {d : D} (h : plain d = true) : soft d = d := by cases d <;> first | rfl | (simp [plain] at h)
theorem ix_lit {n k : Nat} (h : k < n) : ixN n (k : Int) = some k := by unfold ixN; rw [if_pos (by omega), if_pos (by omega)]; simp
variable {G : GE} {ρ : Rho} {S : Sto} {Q : Post} {E : XPost} {C : Ct} {i j : Int} {s t : List Nat} {xs ys : List D} {x y v : D}
theorem we_non : wpE G .non ρ S Q E = (Q .non S) := by simp only [wpE]
theorem we_bl {b : Bool} : wpE G (.bl b) ρ S Q E = (Q (.bl b) S) := by simp only [wpE]
theorem we_int : wpE G (.int i) ρ S Q E = (Q (.int i) S) := by simp only [wpE]
theorem we_str : wpE G (.str s) ρ S Q E = (Q (.str s) S) := by simp only [wpE]
theorem we_var0 {d : D} : wpE G (.var 0) (some d :: ρ) S Q E = (Q d S) := by simp only [wpE, List.getElem?_cons_succ, List.getElem?_cons_zero, Option.some.injEq, exists_eq_left']
theorem we_var1 {x0 : Option D} {d : D} : wpE G (.var 1) (x0 :: some d :: ρ) S Q E = (Q d S) := by simp only [wpE, List.getElem?_cons_succ, List.getElem?_cons_zero, Option.some.injEq, exists_eq_left']
theorem we_var2 {x0 x1 : Option D} {d : D} : wpE G (.var 2) (x0 :: x1 :: some d :: ρ) S Q E = (Q d S) := by simp only [wpE, List.getElem?_cons_succ, List.getElem?_cons_zero, Option.some.injEq, exists_eq_left']
theorem we_var3 {x0 x1 x2 : Option D} {d : D} : wpE G (.var 3) (x0 :: x1 :: x2 :: some d :: ρ) S Q E = (Q d S) := by simp only [wpE, List.getElem?_cons_succ, List.getElem?_cons_zero, Option.some.injEq, exists_eq_left']
theorem we_var4 {x0 x1 x2 x3 : Option D} {d : D} : wpE G (.var 4) (x0 :: x1 :: x2 :: x3 :: some d :: ρ) S Q E = (Q d S) := by simp only [wpE, List.getElem?_cons_succ, List.getElem?_cons_zero, Option.some.injEq, exists_eq_left']
theorem we_var5 {x0 x1 x2 x3 x4 : Option D} {d : D} : wpE G (.var 5) (x0 :: x1 :: x2 :: x3 :: x4 :: some d :: ρ) S Q E = (Q d S) := by simp only [wpE, List.getElem?_cons_succ, List.getElem?_cons_zero, Option.some.injEq, exists_eq_left']
theorem we_var6 {x0 x1 x2 x3 x4 x5 : Option D} {d : D} : wpE G (.var 6) (x0 :: x1 :: x2 :: x3 :: x4 :: x5 :: some d :: ρ) S Q E = (Q d S) := by simp only [wpE, List.getElem?_cons_succ, List.getElem?_cons_zero, Option.some.injEq, exists_eq_left']
theorem we_var7 {x0 x1 x2 x3 x4 x5 x6 : Option D} {d : D} : wpE G (.var 7) (x0 :: x1 :: x2 :: x3 :: x4 :: x5 :: x6 :: some d :: ρ) S Q E = (Q d S) := by simp only [wpE, List.getElem?_cons_succ, List.getElem?_cons_zero, Option.some.injEq, exists_eq_left']
theorem we_var8 {x0 x1 x2 x3 x4 x5 x6 x7 : Option D} {d : D} : wpE G (.var 8) (x0 :: x1 :: x2 :: x3 :: x4 :: x5 :: x6 :: x7 :: some d :: ρ) S Q E = (Q d S) := by simp only [wpE, List.getElem?_cons_succ, List.getElem?_cons_zero, Option.some.injEq, exists_eq_left']
theorem we_var9 {x0 x1 x2 x3 x4 x5 x6 x7 x8 : Option D} {d : D} : wpE G (.var 9) (x0 :: x1 :: x2 :: x3 :: x4 :: x5 :: x6 :: x7 :: x8 :: some d :: ρ) S Q E = (Q d S) := by simp only [wpE, List.getElem?_cons_succ, List.getElem?_cons_zero, Option.some.injEq, exists_eq_left']
theorem we_var10 {x0 x1 x2 x3 x4 x5 x6 x7 x8 x9 : Option D} {d : D} : wpE G (.var 10) (x0 :: x1 :: x2 :: x3 :: x4 :: x5 :: x6 :: x7 :: x8 :: x9 :: some d :: ρ) S Q E = (Q d S) := by simp only [wpE, List.getElem?_cons_succ, List.getElem?_cons_zero, Option.some.injEq, exists_eq_left']
theorem we_var11 {x0 x1 x2 x3 x4 x5 x6 x7 x8 x9 x10 : Option D} {d : D} : wpE G (.var 11) (x0 :: x1 :: x2 :: x3 :: x4 :: x5 :: x6 :: x7 :: x8 :: x9 :: x10 :: some d :: ρ) S Q E = (Q d S) := by simp only [wpE, List.getElem?_cons_succ, List.getElem?_cons_zero, Option.some.injEq, exists_eq_left']
theorem we_var12 {x0 x1 x2 x3 x4 x5 x6 x7 x8 x9 x10 x11 : Option D} {d : D} : wpE G (.var 12) (x0 :: x1 :: x2 :: x3 :: x4 :: x5 :: x6 :: x7 :: x8 :: x9 :: x10 :: x11 :: some d :: ρ) S Q E = (Q d S) := by simp only [wpE, List.getElem?_cons_succ, List.getElem?_cons_zero, Option.some.injEq, exists_eq_left']
theorem we_var13 {x0 x1 x2 x3 x4 x5 x6 x7 x8 x9 x10 x11 x12 : Option D} {d : D} : wpE G (.var 13) (x0 :: x1 :: x2 :: x3 :: x4 :: x5 :: x6 :: x7 :: x8 :: x9 :: x10 :: x11 :: x12 :: some d :: ρ) S Q E = (Q d S) := by simp only [wpE, List.getElem?_cons_succ, List.getElem?_cons_zero, Option.some.injEq, exists_eq_left']
theorem we_var14 {x0 x1 x2 x3 x4 x5 x6 x7 x8 x9 x10 x11 x12 x13 : Option D} {d : D} : wpE G (.var 14) (x0 :: x1 :: x2 :: x3 :: x4 :: x5 :: x6 :: x7 :: x8 :: x9 :: x10 :: x11 :: x12 :: x13 :: some d :: ρ) S Q E = (Q d S) := by simp only [wpE, List.getElem?_cons_succ, List.getElem?_cons_zero, Option.some.injEq, exists_eq_left']
theorem we_var15 {x0 x1 x2 x3 x4 x5 x6 x7 x8 x9 x10 x11 x12 x13 x14 : Option D} {d : D} : wpE G (.var 15) (x0 :: x1 :: x2 :: x3 :: x4 :: x5 :: x6 :: x7 :: x8 :: x9 :: x10 :: x11 :: x12 :: x13 :: x14 :: some d :: ρ) S Q E = (Q d S) := by simp only [wpE, List.getElem?_cons_succ, List.getElem?_cons_zero, Option.some.injEq, exists_eq_left']
theorem we_var16 {x0 x1 x2 x3 x4 x5 x6 x7 x8 x9 x10 x11 x12 x13 x14 x15 : Option D} {d : D} : wpE G (.var 16) (x0 :: x1 :: x2 :: x3 :: x4 :: x5 :: x6 :: x7 :: x8 :: x9 :: x10 :: x11 :: x12 :: x13 :: x14 :: x15 :: some d :: ρ) S Q E = (Q d S) := by simp only [wpE, List.getElem?_cons_succ, List.getElem?_cons_zero, Option.some.injEq, exists_eq_left']
theorem we_var17 {x0 x1 x2 x3 x4 x5 x6 x7 x8 x9 x10 x11 x12 x13 x14 x15 x16 : Option D} {d : D} : wpE G (.var 17) (x0 :: x1 :: x2 :: x3 :: x4 :: x5 :: x6 :: x7 :: x8 :: x9 :: x10 :: x11 :: x12 :: x13 :: x14 :: x15 :: x16 :: some d :: ρ) S Q E = (Q d S) := by simp only [wpE, List.getElem?_cons_succ, List.getElem?_cons_zero, Option.some.injEq, exists_eq_left']
theorem we_var18 {x0 x1 x2 x3 x4 x5 x6 x7 x8 x9 x10 x11 x12 x13 x14 x15 x16 x17 : Option D} {d : D} : wpE G (.var 18) (x0 :: x1 :: x2 :: x3 :: x4 :: x5 :: x6 :: x7 :: x8 :: x9 :: x10 :: x11 :: x12 :: x13 :: x14 :: x15 :: x16 :: x17 :: some d :: ρ) S Q E = (Q d S) := by simp only [wpE, List.getElem?_cons_succ, List.getElem?_cons_zero, Option.some.injEq, exists_eq_left']
theorem we_var19 {x0 x1 x2 x3 x4 x5 x6 x7 x8 x9 x10 x11 x12 x13 x14 x15 x16 x17 x18 : Option D} {d : D} : wpE G (.var 19) (x0 :: x1 :: x2 :: x3 :: x4 :: x5 :: x6 :: x7 :: x8 :: x9 :: x10 :: x11 :: x12 :: x13 :: x14 :: x15 :: x16 :: x17 :: x18 :: some d :: ρ) S Q E = (Q d S) := by simp only [wpE, List.getElem?_cons_succ, List.getElem?_cons_zero, Option.some.injEq, exists_eq_left']
theorem we_var20 {x0 x1 x2 x3 x4 x5 x6 x7 x8 x9 x10 x11 x12 x13 x14 x15 x16 x17 x18 x19 : Option D} {d : D} : wpE G (.var 20) (x0 :: x1 :: x2 :: x3 :: x4 :: x5 :: x6 :: x7 :: x8 :: x9 :: x10 :: x11 :: x12 :: x13 :: x14 :: x15 :: x16 :: x17 :: x18 :: x19 :: some d :: ρ) S Q E = (Q d S) := by simp only [wpE, List.getElem?_cons_succ, List.getElem?_cons_zero, Option.some.injEq, exists_eq_left']
theorem we_var21 {x0 x1 x2 x3 x4 x5 x6 x7 x8 x9 x10 x11 x12 x13 x14 x15 x16 x17 x18 x19 x20 : Option D} {d : D} : wpE G (.var 21) (x0 :: x1 :: x2 :: x3 :: x4 :: x5 :: x6 :: x7 :: x8 :: x9 :: x10 :: x11 :: x12 :: x13 :: x14 :: x15 :: x16 :: x17 :: x18 :: x19 :: x20 :: some d :: ρ) S Q E = (Q d S) := by simp only [wpE, List.getElem?_cons_succ, List.getElem?_cons_zero, Option.some.injEq, exists_eq_left']
theorem we_var22 {x0 x1 x2 x3 x4 x5 x6 x7 x8 x9 x10 x11 x12 x13 x14 x15 x16 x17 x18 x19 x20 x21 : Option D} {d : D} : wpE G (.var 22) (x0 :: x1 :: x2 :: x3 :: x4 :: x5 :: x6 :: x7 :: x8 :: x9 :: x10 :: x11 :: x12 :: x13 :: x14 :: x15 :: x16 :: x17 :: x18 :: x19 :: x20 :: x21 :: some d :: ρ) S Q E = (Q d S) := by simp only [wpE, List.getElem?_cons_succ, List.getElem?_cons_zero, Option.some.injEq, exists_eq_left']
theorem we_var23 {x0 x1 x2 x3 x4 x5 x6 x7 x8 x9 x10 x11 x12 x13 x14 x15 x16 x17 x18 x19 x20 x21 x22 : Option D} {d : D} : wpE G (.var 23) (x0 :: x1 :: x2 :: x3 :: x4 :: x5 :: x6 :: x7 :: x8 :: x9 :: x10 :: x11 :: x12 :: x13 :: x14 :: x15 :: x16 :: x17 :: x18 :: x19 :: x20 :: x21 :: x22 :: some d :: ρ) S Q E = (Q d S) := by simp only [wpE, List.getElem?_cons_succ, List.getElem?_cons_zero, Option.some.injEq, exists_eq_left']
theorem we_bin {op : Bop} {m : Bool} {a b : Ex} : wpE G (.bin op m a b) ρ S Q E = (wpE G a ρ S (fun x S1 => wpE G b ρ S1 (fun y S2 => binR op m x y S2 Q) E) E) := by simp only [wpE]
theorem we_neg {a : Ex} : wpE G (.neg a) ρ S Q E = (wpE G a ρ S (fun x S1 => ∃ i, x = .int i ∧ Q (.int (-i)) S1) E) := by simp only [wpE]
theorem we_not {a : Ex} : wpE G (.not a) ρ S Q E = (wpE G a ρ S (fun x S1 => ∃ k, x = .bl k ∧ Q (.bl (!k)) S1) E) := by simp only [wpE]
theorem we_cmp {op : Cop} {a b : Ex} : wpE G (.cmp op a b) ρ S Q E = (wpE G a ρ S (fun x S1 => wpE G b ρ S1 (fun y S2 => cmpR op x y S2 Q) E) E) := by simp only [wpE]
theorem we_isN {a : Ex} : wpE G (.isN a) ρ S Q E = (wpE G a ρ S (fun x S1 => Q (.bl (isNon x)) S1) E) := by simp only [wpE]
theorem we_nsN {a : Ex} : wpE G (.nsN a) ρ S Q E = (wpE G a ρ S (fun x S1 => Q (.bl (!isNon x)) S1) E) := by simp only [wpE]
theorem we_isB {b : Bool} {a : Ex} : wpE G (.isB b a) ρ S Q E = (wpE G a ρ S (fun x S1 => ∃ k, x = .bl k ∧ Q (.bl (k == b)) S1) E) := by simp only [wpE]
theorem we_nsB {b : Bool} {a : Ex} : wpE G (.nsB b a) ρ S Q E = (wpE G a ρ S (fun x S1 => ∃ k, x = .bl k ∧ Q (.bl (!(k == b))) S1) E) := by simp only [wpE]
theorem we_chain {o1 o2 : Cop} {a b c : Ex} : wpE G (.chain o1 o2 a b c) ρ S Q E = (wpE G a ρ S (fun x S1 => wpE G b ρ S1 (fun y S2 => cmpR o1 x y S2 fun z S3 => ∃ k, z = .bl k ∧ if k = true then wpE G c ρ S3 (fun w S4 => cmpR o2 y w S4 Q) E else Q (.bl false) S3) E) E) := by simp only [wpE]
theorem we_and {es : List Ex} : wpE G (.and es) ρ S Q E = (wpAnd G es ρ S Q E) := by simp only [wpE]
theorem we_or {es : List Ex} : wpE G (.or es) ρ S Q E = (wpOr G es ρ S Q E) := by simp only [wpE]
theorem we_ite {c a b : Ex} : wpE G (.ite c a b) ρ S Q E = (wpE G c ρ S (fun x S1 => ∃ k, x = .bl k ∧ if k = true then wpE G a ρ S1 Q E else wpE G b ρ S1 Q E) E) := by simp only [wpE]
theorem we_tup {es : List Ex} : wpE G (.tup es) ρ S Q E = (wpEs G es ρ S (fun xs S1 => xs.length ≤ sizeLine ∧ Q (.tup xs) S1) E) := by simp only [wpE]
theorem we_lst {m : Bool} {es : List Ex} : wpE G (.lst m es) ρ S Q E = (wpEs G es ρ S (fun xs S1 => xs.length ≤ sizeLine ∧ newL m xs S1 Q) E) := by simp only [wpE]
theorem we_call {f : Nat} {es : List Ex} : wpE G (.call f es) ρ S Q E = (wpEs G es ρ S (fun xs S1 => G.sp f xs S1 Q E) E) := by simp only [wpE]
theorem we_callk {f : Nat} {es : List Ex} {p : List Nat} : wpE G (.callk f es p) ρ S Q E = (wpEs G es ρ S (fun xs S1 => G.sp f (permV p xs) S1 Q E) E) := by simp only [wpE]
theorem we_blt {b : Bl} {es : List Ex} : wpE G (.blt b es) ρ S Q E = (wpEs G es ρ S (fun xs S1 => bltR b xs S1 Q) E) := by simp only [wpE]
theorem we_isty {t : Ty} {e : Ex} : wpE G (.isty t e) ρ S Q E = (wpE G e ρ S (fun x S1 => ∃ k, isTy S1 t x = some k ∧ Q (.bl k) S1) E) := by simp only [wpE]
theorem we_meth {m : Mt} {o : Ex} {es : List Ex} : wpE G (.meth m o es) ρ S Q E = (wpE G o ρ S (fun x S1 => mtOk m S1 x ∧ wpEs G es ρ S1 (fun xs S2 => methR m x xs S2 Q) E) E) := by simp only [wpE]
theorem we_idx {a b : Ex} : wpE G (.idx a b) ρ S Q E = (wpE G a ρ S (fun x S1 => wpE G b ρ S1 (fun y S2 => idxR x y S2 Q) E) E) := by simp only [wpE]
theorem we_slc {m : Bool} {a lo hi : Ex} : wpE G (.slc m a lo hi) ρ S Q E = (wpE G a ρ S (fun x S1 => wpE G lo ρ S1 (fun y S2 => ∃ l, optE lo y = some l ∧ wpE G hi ρ S2 (fun z S3 => ∃ h, optE hi z = some h ∧ slcR m x l h S3 Q) E) E) E) := by simp only [wpE]
theorem we_rev {m : Bool} {a : Ex} : wpE G (.rev m a) ρ S Q E = (wpE G a ρ S (fun x S1 => revR m x S1 Q) E) := by simp only [wpE]
theorem we_lc {m : Bool} {elt : Ex} {tg : Tg} {it : It} {own : List Nat} : wpE G (.lc m elt tg it own) ρ S Q E = (wpIt G it ρ S (fun src xs S1 => lcW src xs tg (wipeD ρ own) (fun ρ1 S2 K => wpE G elt ρ1 S2 (fun y S3 => K (some y) S3) (fun _ _ => False)) (fun ys S4 => newL m ys S4 Q) xs [] S1) E) := by simp only [wpE]
theorem we_lcf {m : Bool} {elt : Ex} {tg : Tg} {it : It} {c : Ex} {own : List Nat} : wpE G (.lcf m elt tg it c own) ρ S Q E = (wpIt G it ρ S (fun src xs S1 => lcW src xs tg (wipeD ρ own) (fun ρ1 S2 K => wpE G c ρ1 S2 (fun b S3 => ∃ k, b = .bl k ∧ if k = true then wpE G elt ρ1 S3 (fun y S4 => K (some y) S4) (fun _ _ => False) else K none S3) (fun _ _ => False)) (fun ys S4 => newL m ys S4 Q) xs [] S1) E) := by simp only [wpE]
theorem we_exf0 {f : Str} {a dd : Addr} {c : Nat} {ns : List Str} {fs : List D} : wpE G (.exf 0 f) (some (.exc a dd c ns fs) :: ρ) S Q E = (∃ d, (ns.zip fs).lookup f = some d ∧ Q d S) := by simp only [wpE, List.getElem?_cons_succ, List.getElem?_cons_zero, Option.some.injEq, D.exc.injEq]; exact propext ⟨fun ⟨_, _, _, _, _, d, ⟨h1, h2, h3, h4, h5⟩, h⟩ => by subst h1; subst h2; subst h3; subst h4; subst h5; exact ⟨d, h⟩, fun ⟨d, h⟩ => ⟨_, _, _, _, _, d, ⟨rfl, rfl, rfl, rfl, rfl⟩, h⟩⟩
theorem we_exis0 {a dd : Addr} {c c2 : Nat} {ns : List Str} {fs : List D} : wpE G (.exis 0 c2) (some (.exc a dd c ns fs) :: ρ) S Q E = (Q (.bl (G.anc c c2)) S) := by simp only [wpE, List.getElem?_cons_succ, List.getElem?_cons_zero, Option.some.injEq, D.exc.injEq]; exact propext ⟨fun ⟨_, _, _, _, _, ⟨h1, h2, h3, h4, h5⟩, h⟩ => by subst h1; subst h2; subst h3; subst h4; subst h5; exact h, fun h => ⟨_, _, _, _, _, ⟨rfl, rfl, rfl, rfl, rfl⟩, h⟩⟩
theorem we_exf1 {x0 : Option D} {f : Str} {a dd : Addr} {c : Nat} {ns : List Str} {fs : List D} : wpE G (.exf 1 f) (x0 :: some (.exc a dd c ns fs) :: ρ) S Q E = (∃ d, (ns.zip fs).lookup f = some d ∧ Q d S) := by simp only [wpE, List.getElem?_cons_succ, List.getElem?_cons_zero, Option.some.injEq, D.exc.injEq]; exact propext ⟨fun ⟨_, _, _, _, _, d, ⟨h1, h2, h3, h4, h5⟩, h⟩ => by subst h1; subst h2; subst h3; subst h4; subst h5; exact ⟨d, h⟩, fun ⟨d, h⟩ => ⟨_, _, _, _, _, d, ⟨rfl, rfl, rfl, rfl, rfl⟩, h⟩⟩
theorem we_exis1 {x0 : Option D} {a dd : Addr} {c c2 : Nat} {ns : List Str} {fs : List D} : wpE G (.exis 1 c2) (x0 :: some (.exc a dd c ns fs) :: ρ) S Q E = (Q (.bl (G.anc c c2)) S) := by simp only [wpE, List.getElem?_cons_succ, List.getElem?_cons_zero, Option.some.injEq, D.exc.injEq]; exact propext ⟨fun ⟨_, _, _, _, _, ⟨h1, h2, h3, h4, h5⟩, h⟩ => by subst h1; subst h2; subst h3; subst h4; subst h5; exact h, fun h => ⟨_, _, _, _, _, ⟨rfl, rfl, rfl, rfl, rfl⟩, h⟩⟩
theorem we_exf2 {x0 x1 : Option D} {f : Str} {a dd : Addr} {c : Nat} {ns : List Str} {fs : List D} : wpE G (.exf 2 f) (x0 :: x1 :: some (.exc a dd c ns fs) :: ρ) S Q E = (∃ d, (ns.zip fs).lookup f = some d ∧ Q d S) := by simp only [wpE, List.getElem?_cons_succ, List.getElem?_cons_zero, Option.some.injEq, D.exc.injEq]; exact propext ⟨fun ⟨_, _, _, _, _, d, ⟨h1, h2, h3, h4, h5⟩, h⟩ => by subst h1; subst h2; subst h3; subst h4; subst h5; exact ⟨d, h⟩, fun ⟨d, h⟩ => ⟨_, _, _, _, _, d, ⟨rfl, rfl, rfl, rfl, rfl⟩, h⟩⟩
theorem we_exis2 {x0 x1 : Option D} {a dd : Addr} {c c2 : Nat} {ns : List Str} {fs : List D} : wpE G (.exis 2 c2) (x0 :: x1 :: some (.exc a dd c ns fs) :: ρ) S Q E = (Q (.bl (G.anc c c2)) S) := by simp only [wpE, List.getElem?_cons_succ, List.getElem?_cons_zero, Option.some.injEq, D.exc.injEq]; exact propext ⟨fun ⟨_, _, _, _, _, ⟨h1, h2, h3, h4, h5⟩, h⟩ => by subst h1; subst h2; subst h3; subst h4; subst h5; exact h, fun h => ⟨_, _, _, _, _, ⟨rfl, rfl, rfl, rfl, rfl⟩, h⟩⟩
theorem we_exf3 {x0 x1 x2 : Option D} {f : Str} {a dd : Addr} {c : Nat} {ns : List Str} {fs : List D} : wpE G (.exf 3 f) (x0 :: x1 :: x2 :: some (.exc a dd c ns fs) :: ρ) S Q E = (∃ d, (ns.zip fs).lookup f = some d ∧ Q d S) := by simp only [wpE, List.getElem?_cons_succ, List.getElem?_cons_zero, Option.some.injEq, D.exc.injEq]; exact propext ⟨fun ⟨_, _, _, _, _, d, ⟨h1, h2, h3, h4, h5⟩, h⟩ => by subst h1; subst h2; subst h3; subst h4; subst h5; exact ⟨d, h⟩, fun ⟨d, h⟩ => ⟨_, _, _, _, _, d, ⟨rfl, rfl, rfl, rfl, rfl⟩, h⟩⟩
theorem we_exis3 {x0 x1 x2 : Option D} {a dd : Addr} {c c2 : Nat} {ns : List Str} {fs : List D} : wpE G (.exis 3 c2) (x0 :: x1 :: x2 :: some (.exc a dd c ns fs) :: ρ) S Q E = (Q (.bl (G.anc c c2)) S) := by simp only [wpE, List.getElem?_cons_succ, List.getElem?_cons_zero, Option.some.injEq, D.exc.injEq]; exact propext ⟨fun ⟨_, _, _, _, _, ⟨h1, h2, h3, h4, h5⟩, h⟩ => by subst h1; subst h2; subst h3; subst h4; subst h5; exact h, fun h => ⟨_, _, _, _, _, ⟨rfl, rfl, rfl, rfl, rfl⟩, h⟩⟩
theorem we_exf4 {x0 x1 x2 x3 : Option D} {f : Str} {a dd : Addr} {c : Nat} {ns : List Str} {fs : List D} : wpE G (.exf 4 f) (x0 :: x1 :: x2 :: x3 :: some (.exc a dd c ns fs) :: ρ) S Q E = (∃ d, (ns.zip fs).lookup f = some d ∧ Q d S) := by simp only [wpE, List.getElem?_cons_succ, List.getElem?_cons_zero, Option.some.injEq, D.exc.injEq]; exact propext ⟨fun ⟨_, _, _, _, _, d, ⟨h1, h2, h3, h4, h5⟩, h⟩ => by subst h1; subst h2; subst h3; subst h4; subst h5; exact ⟨d, h⟩, fun ⟨d, h⟩ => ⟨_, _, _, _, _, d, ⟨rfl, rfl, rfl, rfl, rfl⟩, h⟩⟩
theorem we_exis4 {x0 x1 x2 x3 : Option D} {a dd : Addr} {c c2 : Nat} {ns : List Str} {fs : List D} : wpE G (.exis 4 c2) (x0 :: x1 :: x2 :: x3 :: some (.exc a dd c ns fs) :: ρ) S Q E = (Q (.bl (G.anc c c2)) S) := by simp only [wpE, List.getElem?_cons_succ, List.getElem?_cons_zero, Option.some.injEq, D.exc.injEq]; exact propext ⟨fun ⟨_, _, _, _, _, ⟨h1, h2, h3, h4, h5⟩, h⟩ => by subst h1; subst h2; subst h3; subst h4; subst h5; exact h, fun h => ⟨_, _, _, _, _, ⟨rfl, rfl, rfl, rfl, rfl⟩, h⟩⟩
theorem we_exf5 {x0 x1 x2 x3 x4 : Option D} {f : Str} {a dd : Addr} {c : Nat} {ns : List Str} {fs : List D} : wpE G (.exf 5 f) (x0 :: x1 :: x2 :: x3 :: x4 :: some (.exc a dd c ns fs) :: ρ) S Q E = (∃ d, (ns.zip fs).lookup f = some d ∧ Q d S) := by simp only [wpE, List.getElem?_cons_succ, List.getElem?_cons_zero, Option.some.injEq, D.exc.injEq]; exact propext ⟨fun ⟨_, _, _, _, _, d, ⟨h1, h2, h3, h4, h5⟩, h⟩ => by subst h1; subst h2; subst h3; subst h4; subst h5; exact ⟨d, h⟩, fun ⟨d, h⟩ => ⟨_, _, _, _, _, d, ⟨rfl, rfl, rfl, rfl, rfl⟩, h⟩⟩
theorem we_exis5 {x0 x1 x2 x3 x4 : Option D} {a dd : Addr} {c c2 : Nat} {ns : List Str} {fs : List D} : wpE G (.exis 5 c2) (x0 :: x1 :: x2 :: x3 :: x4 :: some (.exc a dd c ns fs) :: ρ) S Q E = (Q (.bl (G.anc c c2)) S) := by simp only [wpE, List.getElem?_cons_succ, List.getElem?_cons_zero, Option.some.injEq, D.exc.injEq]; exact propext ⟨fun ⟨_, _, _, _, _, ⟨h1, h2, h3, h4, h5⟩, h⟩ => by subst h1; subst h2; subst h3; subst h4; subst h5; exact h, fun h => ⟨_, _, _, _, _, ⟨rfl, rfl, rfl, rfl, rfl⟩, h⟩⟩
theorem we_exf6 {x0 x1 x2 x3 x4 x5 : Option D} {f : Str} {a dd : Addr} {c : Nat} {ns : List Str} {fs : List D} : wpE G (.exf 6 f) (x0 :: x1 :: x2 :: x3 :: x4 :: x5 :: some (.exc a dd c ns fs) :: ρ) S Q E = (∃ d, (ns.zip fs).lookup f = some d ∧ Q d S) := by simp only [wpE, List.getElem?_cons_succ, List.getElem?_cons_zero, Option.some.injEq, D.exc.injEq]; exact propext ⟨fun ⟨_, _, _, _, _, d, ⟨h1, h2, h3, h4, h5⟩, h⟩ => by subst h1; subst h2; subst h3; subst h4; subst h5; exact ⟨d, h⟩, fun ⟨d, h⟩ => ⟨_, _, _, _, _, d, ⟨rfl, rfl, rfl, rfl, rfl⟩, h⟩⟩
theorem we_exis6 {x0 x1 x2 x3 x4 x5 : Option D} {a dd : Addr} {c c2 : Nat} {ns : List Str} {fs : List D} : wpE G (.exis 6 c2) (x0 :: x1 :: x2 :: x3 :: x4 :: x5 :: some (.exc a dd c ns fs) :: ρ) S Q E = (Q (.bl (G.anc c c2)) S) := by simp only [wpE, List.getElem?_cons_succ, List.getElem?_cons_zero, Option.some.injEq, D.exc.injEq]; exact propext ⟨fun ⟨_, _, _, _, _, ⟨h1, h2, h3, h4, h5⟩, h⟩ => by subst h1; subst h2; subst h3; subst h4; subst h5; exact h, fun h => ⟨_, _, _, _, _, ⟨rfl, rfl, rfl, rfl, rfl⟩, h⟩⟩
theorem we_exf7 {x0 x1 x2 x3 x4 x5 x6 : Option D} {f : Str} {a dd : Addr} {c : Nat} {ns : List Str} {fs : List D} : wpE G (.exf 7 f) (x0 :: x1 :: x2 :: x3 :: x4 :: x5 :: x6 :: some (.exc a dd c ns fs) :: ρ) S Q E = (∃ d, (ns.zip fs).lookup f = some d ∧ Q d S) := by simp only [wpE, List.getElem?_cons_succ, List.getElem?_cons_zero, Option.some.injEq, D.exc.injEq]; exact propext ⟨fun ⟨_, _, _, _, _, d, ⟨h1, h2, h3, h4, h5⟩, h⟩ => by subst h1; subst h2; subst h3; subst h4; subst h5; exact ⟨d, h⟩, fun ⟨d, h⟩ => ⟨_, _, _, _, _, d, ⟨rfl, rfl, rfl, rfl, rfl⟩, h⟩⟩
theorem we_exis7 {x0 x1 x2 x3 x4 x5 x6 : Option D} {a dd : Addr} {c c2 : Nat} {ns : List Str} {fs : List D} : wpE G (.exis 7 c2) (x0 :: x1 :: x2 :: x3 :: x4 :: x5 :: x6 :: some (.exc a dd c ns fs) :: ρ) S Q E = (Q (.bl (G.anc c c2)) S) := by simp only [wpE, List.getElem?_cons_succ, List.getElem?_cons_zero, Option.some.injEq, D.exc.injEq]; exact propext ⟨fun ⟨_, _, _, _, _, ⟨h1, h2, h3, h4, h5⟩, h⟩ => by subst h1; subst h2; subst h3; subst h4; subst h5; exact h, fun h => ⟨_, _, _, _, _, ⟨rfl, rfl, rfl, rfl, rfl⟩, h⟩⟩
theorem we_exf8 {x0 x1 x2 x3 x4 x5 x6 x7 : Option D} {f : Str} {a dd : Addr} {c : Nat} {ns : List Str} {fs : List D} : wpE G (.exf 8 f) (x0 :: x1 :: x2 :: x3 :: x4 :: x5 :: x6 :: x7 :: some (.exc a dd c ns fs) :: ρ) S Q E = (∃ d, (ns.zip fs).lookup f = some d ∧ Q d S) := by simp only [wpE, List.getElem?_cons_succ, List.getElem?_cons_zero, Option.some.injEq, D.exc.injEq]; exact propext ⟨fun ⟨_, _, _, _, _, d, ⟨h1, h2, h3, h4, h5⟩, h⟩ => by subst h1; subst h2; subst h3; subst h4; subst h5; exact ⟨d, h⟩, fun ⟨d, h⟩ => ⟨_, _, _, _, _, d, ⟨rfl, rfl, rfl, rfl, rfl⟩, h⟩⟩
theorem we_exis8 {x0 x1 x2 x3 x4 x5 x6 x7 : Option D} {a dd : Addr} {c c2 : Nat} {ns : List Str} {fs : List D} : wpE G (.exis 8 c2) (x0 :: x1 :: x2 :: x3 :: x4 :: x5 :: x6 :: x7 :: some (.exc a dd c ns fs) :: ρ) S Q E = (Q (.bl (G.anc c c2)) S) := by simp only [wpE, List.getElem?_cons_succ, List.getElem?_cons_zero, Option.some.injEq, D.exc.injEq]; exact propext ⟨fun ⟨_, _, _, _, _, ⟨h1, h2, h3, h4, h5⟩, h⟩ => by subst h1; subst h2; subst h3; subst h4; subst h5; exact h, fun h => ⟨_, _, _, _, _, ⟨rfl, rfl, rfl, rfl, rfl⟩, h⟩⟩
theorem we_exf9 {x0 x1 x2 x3 x4 x5 x6 x7 x8 : Option D} {f : Str} {a dd : Addr} {c : Nat} {ns : List Str} {fs : List D} : wpE G (.exf 9 f) (x0 :: x1 :: x2 :: x3 :: x4 :: x5 :: x6 :: x7 :: x8 :: some (.exc a dd c ns fs) :: ρ) S Q E = (∃ d, (ns.zip fs).lookup f = some d ∧ Q d S) := by simp only [wpE, List.getElem?_cons_succ, List.getElem?_cons_zero, Option.some.injEq, D.exc.injEq]; exact propext ⟨fun ⟨_, _, _, _, _, d, ⟨h1, h2, h3, h4, h5⟩, h⟩ => by subst h1; subst h2; subst h3; subst h4; subst h5; exact ⟨d, h⟩, fun ⟨d, h⟩ => ⟨_, _, _, _, _, d, ⟨rfl, rfl, rfl, rfl, rfl⟩, h⟩⟩
theorem we_exis9 {x0 x1 x2 x3 x4 x5 x6 x7 x8 : Option D} {a dd : Addr} {c c2 : Nat} {ns : List Str} {fs : List D} : wpE G (.exis 9 c2) (x0 :: x1 :: x2 :: x3 :: x4 :: x5 :: x6 :: x7 :: x8 :: some (.exc a dd c ns fs) :: ρ) S Q E = (Q (.bl (G.anc c c2)) S) := by simp only [wpE, List.getElem?_cons_succ, List.getElem?_cons_zero, Option.some.injEq, D.exc.injEq]; exact propext ⟨fun ⟨_, _, _, _, _, ⟨h1, h2, h3, h4, h5⟩, h⟩ => by subst h1; subst h2; subst h3; subst h4; subst h5; exact h, fun h => ⟨_, _, _, _, _, ⟨rfl, rfl, rfl, rfl, rfl⟩, h⟩⟩
theorem we_exf10 {x0 x1 x2 x3 x4 x5 x6 x7 x8 x9 : Option D} {f : Str} {a dd : Addr} {c : Nat} {ns : List Str} {fs : List D} : wpE G (.exf 10 f) (x0 :: x1 :: x2 :: x3 :: x4 :: x5 :: x6 :: x7 :: x8 :: x9 :: some (.exc a dd c ns fs) :: ρ) S Q E = (∃ d, (ns.zip fs).lookup f = some d ∧ Q d S) := by simp only [wpE, List.getElem?_cons_succ, List.getElem?_cons_zero, Option.some.injEq, D.exc.injEq]; exact propext ⟨fun ⟨_, _, _, _, _, d, ⟨h1, h2, h3, h4, h5⟩, h⟩ => by subst h1; subst h2; subst h3; subst h4; subst h5; exact ⟨d, h⟩, fun ⟨d, h⟩ => ⟨_, _, _, _, _, d, ⟨rfl, rfl, rfl, rfl, rfl⟩, h⟩⟩
theorem we_exis10 {x0 x1 x2 x3 x4 x5 x6 x7 x8 x9 : Option D} {a dd : Addr} {c c2 : Nat} {ns : List Str} {fs : List D} : wpE G (.exis 10 c2) (x0 :: x1 :: x2 :: x3 :: x4 :: x5 :: x6 :: x7 :: x8 :: x9 :: some (.exc a dd c ns fs) :: ρ) S Q E = (Q (.bl (G.anc c c2)) S) := by simp only [wpE, List.getElem?_cons_succ, List.getElem?_cons_zero, Option.some.injEq, D.exc.injEq]; exact propext ⟨fun ⟨_, _, _, _, _, ⟨h1, h2, h3, h4, h5⟩, h⟩ => by subst h1; subst h2; subst h3; subst h4; subst h5; exact h, fun h => ⟨_, _, _, _, _, ⟨rfl, rfl, rfl, rfl, rfl⟩, h⟩⟩
theorem we_exf11 {x0 x1 x2 x3 x4 x5 x6 x7 x8 x9 x10 : Option D} {f : Str} {a dd : Addr} {c : Nat} {ns : List Str} {fs : List D} : wpE G (.exf 11 f) (x0 :: x1 :: x2 :: x3 :: x4 :: x5 :: x6 :: x7 :: x8 :: x9 :: x10 :: some (.exc a dd c ns fs) :: ρ) S Q E = (∃ d, (ns.zip fs).lookup f = some d ∧ Q d S) := by simp only [wpE, List.getElem?_cons_succ, List.getElem?_cons_zero, Option.some.injEq, D.exc.injEq]; exact propext ⟨fun ⟨_, _, _, _, _, d, ⟨h1, h2, h3, h4, h5⟩, h⟩ => by subst h1; subst h2; subst h3; subst h4; subst h5; exact ⟨d, h⟩, fun ⟨d, h⟩ => ⟨_, _, _, _, _, d, ⟨rfl, rfl, rfl, rfl, rfl⟩, h⟩⟩
theorem we_exis11 {x0 x1 x2 x3 x4 x5 x6 x7 x8 x9 x10 : Option D} {a dd : Addr} {c c2 : Nat} {ns : List Str} {fs : List D} : wpE G (.exis 11 c2) (x0 :: x1 :: x2 :: x3 :: x4 :: x5 :: x6 :: x7 :: x8 :: x9 :: x10 :: some (.exc a dd c ns fs) :: ρ) S Q E = (Q (.bl (G.anc c c2)) S) := by simp only [wpE, List.getElem?_cons_succ, List.getElem?_cons_zero, Option.some.injEq, D.exc.injEq]; exact propext ⟨fun ⟨_, _, _, _, _, ⟨h1, h2, h3, h4, h5⟩, h⟩ => by subst h1; subst h2; subst h3; subst h4; subst h5; exact h, fun h => ⟨_, _, _, _, _, ⟨rfl, rfl, rfl, rfl, rfl⟩, h⟩⟩
theorem we_exf12 {x0 x1 x2 x3 x4 x5 x6 x7 x8 x9 x10 x11 : Option D} {f : Str} {a dd : Addr} {c : Nat} {ns : List Str} {fs : List D} : wpE G (.exf 12 f) (x0 :: x1 :: x2 :: x3 :: x4 :: x5 :: x6 :: x7 :: x8 :: x9 :: x10 :: x11 :: some (.exc a dd c ns fs) :: ρ) S Q E = (∃ d, (ns.zip fs).lookup f = some d ∧ Q d S) := by simp only [wpE, List.getElem?_cons_succ, List.getElem?_cons_zero, Option.some.injEq, D.exc.injEq]; exact propext ⟨fun ⟨_, _, _, _, _, d, ⟨h1, h2, h3, h4, h5⟩, h⟩ => by subst h1; subst h2; subst h3; subst h4; subst h5; exact ⟨d, h⟩, fun ⟨d, h⟩ => ⟨_, _, _, _, _, d, ⟨rfl, rfl, rfl, rfl, rfl⟩, h⟩⟩
theorem we_exis12 {x0 x1 x2 x3 x4 x5 x6 x7 x8 x9 x10 x11 : Option D} {a dd : Addr} {c c2 : Nat} {ns : List Str} {fs : List D} : wpE G (.exis 12 c2) (x0 :: x1 :: x2 :: x3 :: x4 :: x5 :: x6 :: x7 :: x8 :: x9 :: x10 :: x11 :: some (.exc a dd c ns fs) :: ρ) S Q E = (Q (.bl (G.anc c c2)) S) := by simp only [wpE, List.getElem?_cons_succ, List.getElem?_cons_zero, Option.some.injEq, D.exc.injEq]; exact propext ⟨fun ⟨_, _, _, _, _, ⟨h1, h2, h3, h4, h5⟩, h⟩ => by subst h1; subst h2; subst h3; subst h4; subst h5; exact h, fun h => ⟨_, _, _, _, _, ⟨rfl, rfl, rfl, rfl, rfl⟩, h⟩⟩
theorem we_exf13 {x0 x1 x2 x3 x4 x5 x6 x7 x8 x9 x10 x11 x12 : Option D} {f : Str} {a dd : Addr} {c : Nat} {ns : List Str} {fs : List D} : wpE G (.exf 13 f) (x0 :: x1 :: x2 :: x3 :: x4 :: x5 :: x6 :: x7 :: x8 :: x9 :: x10 :: x11 :: x12 :: some (.exc a dd c ns fs) :: ρ) S Q E = (∃ d, (ns.zip fs).lookup f = some d ∧ Q d S) := by simp only [wpE, List.getElem?_cons_succ, List.getElem?_cons_zero, Option.some.injEq, D.exc.injEq]; exact propext ⟨fun ⟨_, _, _, _, _, d, ⟨h1, h2, h3, h4, h5⟩, h⟩ => by subst h1; subst h2; subst h3; subst h4; subst h5; exact ⟨d, h⟩, fun ⟨d, h⟩ => ⟨_, _, _, _, _, d, ⟨rfl, rfl, rfl, rfl, rfl⟩, h⟩⟩
theorem we_exis13 {x0 x1 x2 x3 x4 x5 x6 x7 x8 x9 x10 x11 x12 : Option D} {a dd : Addr} {c c2 : Nat} {ns : List Str} {fs : List D} : wpE G (.exis 13 c2) (x0 :: x1 :: x2 :: x3 :: x4 :: x5 :: x6 :: x7 :: x8 :: x9 :: x10 :: x11 :: x12 :: some (.exc a dd c ns fs) :: ρ) S Q E = (Q (.bl (G.anc c c2)) S) := by simp only [wpE, List.getElem?_cons_succ, List.getElem?_cons_zero, Option.some.injEq, D.exc.injEq]; exact propext ⟨fun ⟨_, _, _, _, _, ⟨h1, h2, h3, h4, h5⟩, h⟩ => by subst h1; subst h2; subst h3; subst h4; subst h5; exact h, fun h => ⟨_, _, _, _, _, ⟨rfl, rfl, rfl, rfl, rfl⟩, h⟩⟩
theorem ex_look1 {n : Str} {v : D} {P : D → Prop} : (∃ d, (List.zip [n] [v]).lookup n = some d ∧ P d) = P v := by simp
theorem ws_nil {L : List D → Sto → Prop} : wpEs G [] ρ S L E = (L [] S) := by simp only [wpEs]
theorem ws_cons {L : List D → Sto → Prop} {e : Ex} {es : List Ex} : wpEs G (e :: es) ρ S L E = (wpE G e ρ S (fun x S1 => wpEs G es ρ S1 (fun xs S2 => L (x :: xs) S2) E) E) := by simp only [wpEs]
theorem wa_1 {e : Ex} : wpAnd G [e] ρ S Q E = (wpE G e ρ S (fun x S1 => ∃ k, x = .bl k ∧ Q (.bl k) S1) E) := by simp only [wpAnd]
theorem wa_2 {e f : Ex} {es : List Ex} : wpAnd G (e :: f :: es) ρ S Q E = (wpE G e ρ S (fun x S1 => ∃ k, x = .bl k ∧ if k = true then wpAnd G (f :: es) ρ S1 Q E else Q (.bl false) S1) E) := by simp only [wpAnd]
theorem wo_1 {e : Ex} : wpOr G [e] ρ S Q E = (wpE G e ρ S (fun x S1 => ∃ k, x = .bl k ∧ Q (.bl k) S1) E) := by simp only [wpOr]
theorem wo_2 {e f : Ex} {es : List Ex} : wpOr G (e :: f :: es) ρ S Q E = (wpE G e ρ S (fun x S1 => ∃ k, x = .bl k ∧ if k = true then Q (.bl true) S1 else wpOr G (f :: es) ρ S1 Q E) E) := by simp only [wpOr]
theorem wi_ex {I : PIt} {e : Ex} : wpIt G (.ex e) ρ S I E = (wpE G e ρ S (fun x S1 => iterR x S1 I) E) := by simp only [wpIt]
theorem wi_r1 {I : PIt} {e : Ex} : wpIt G (.rng1 e) ρ S I E = (wpE G e ρ S (fun y S1 => ∃ j : Int, y = .int j ∧ j < 2 ^ 40 ∧ -(2 ^ 40) < j ∧ I none ((List.range j.toNat).map fun (k : Nat) => D.int (k : Int)) S1) E) := by simp only [wpIt]
theorem wi_r2 {I : PIt} {a b : Ex} : wpIt G (.rng2 a b) ρ S I E = (wpE G a ρ S (fun x S1 => wpE G b ρ S1 (fun y S2 => ∃ i j : Int, x = .int i ∧ y = .int j ∧ i < 2 ^ 40 ∧ -(2 ^ 40) < i ∧ j < 2 ^ 40 ∧ -(2 ^ 40) < j ∧ I none ((List.range (j - i).toNat).map fun (k : Nat) => D.int (i + (k : Int))) S2) E) E) := by simp only [wpIt]
theorem wi_en {I : PIt} {e : Ex} : wpIt G (.enum e) ρ S I E = (wpE G e ρ S (fun x S1 => iterR x S1 fun src xs S2 => I src (xs.zipIdx.map fun p => .tup [.int p.2, p.1]) S2) E) := by simp only [wpIt]
theorem wi_zip {I : PIt} {a b : Ex} : wpIt G (.zip a b) ρ S I E = (wpE G a ρ S (fun x S1 => wpE G b ρ S1 (fun y S2 => ∃ xs ys, seqD S2 x = some xs ∧ seqD S2 y = some ys ∧ I none ((xs.zip ys).map fun p => .tup [p.1, p.2]) S2) E) E) := by simp only [wpIt]
theorem it_str {I : PIt} : iterR (.str s) S I = (I none (s.map fun c => .str [c]) S) := rfl
theorem it_tup {I : PIt} : iterR (.tup xs) S I = (I none xs S) := rfl
theorem it_lst {I : PIt} : iterR (.lst xs) S I = (I none xs S) := rfl
theorem it_scr {I : PIt} : iterR (.scr xs) S I = (I none xs S) := rfl
theorem it_ref {I : PIt} {p : Addr} : iterR (.ref p) (supd S p (.lst xs)) I = (I (some p) xs (supd S p (.lst xs))) := propext ⟨fun ⟨ys, e, h⟩ => by rw [supd_at] at e; cases e; exact h, fun h => ⟨xs, supd_at, h⟩⟩
theorem ex_bl {b : Bool} {P : Bool → Prop} : (∃ k, D.bl b = .bl k ∧ P k) = P b := propext ⟨fun ⟨_, e, h⟩ => by cases e; exact h, fun h => ⟨_, rfl, h⟩⟩
theorem ex_int {P : Int → Prop} : (∃ k, D.int i = .int k ∧ P k) = P i := propext ⟨fun ⟨_, e, h⟩ => by cases e; exact h, fun h => ⟨_, rfl, h⟩⟩
theorem ex_int2 {P : Int → Int → Prop} : (∃ a b, D.int i = .int a ∧ D.int j = .int b ∧ P a b) = P i j := propext ⟨fun ⟨_, _, e, e2, h⟩ => by cases e; cases e2; exact h, fun h => ⟨_, _, rfl, rfl, h⟩⟩
theorem ex_str {P : List Nat → Prop} : (∃ k, D.str s = .str k ∧ P k) = P s := propext ⟨fun ⟨_, e, h⟩ => by cases e; exact h, fun h => ⟨_, rfl, h⟩⟩
theorem ex_ref {p : Addr} {P : Addr → Prop} : (∃ k, D.ref p = .ref k ∧ P k) = P p := propext ⟨fun ⟨_, e, h⟩ => by cases e; exact h, fun h => ⟨_, rfl, h⟩⟩
theorem ist_int_non {P : Bool → Prop} : (∃ k, isTy S .int (.non) = some k ∧ P k) = P false := propext ⟨fun ⟨_, e, h⟩ => by cases e; exact h, fun h => ⟨_, rfl, h⟩⟩
theorem ist_str_non {P : Bool → Prop} : (∃ k, isTy S .str (.non) = some k ∧ P k) = P false := propext ⟨fun ⟨_, e, h⟩ => by cases e; exact h, fun h => ⟨_, rfl, h⟩⟩
theorem ist_bool_non {P : Bool → Prop} : (∃ k, isTy S .bool (.non) = some k ∧ P k) = P false := propext ⟨fun ⟨_, e, h⟩ => by cases e; exact h, fun h => ⟨_, rfl, h⟩⟩
theorem ist_tuple_non {P : Bool → Prop} : (∃ k, isTy S .tuple (.non) = some k ∧ P k) = P false := propext ⟨fun ⟨_, e, h⟩ => by cases e; exact h, fun h => ⟨_, rfl, h⟩⟩
theorem ist_list_non {P : Bool → Prop} : (∃ k, isTy S .list (.non) = some k ∧ P k) = P false := propext ⟨fun ⟨_, e, h⟩ => by cases e; exact h, fun h => ⟨_, rfl, h⟩⟩
theorem ist_int_bl {b : Bool} {P : Bool → Prop} : (∃ k, isTy S .int (.bl b) = some k ∧ P k) = P true := propext ⟨fun ⟨_, e, h⟩ => by cases e; exact h, fun h => ⟨_, rfl, h⟩⟩
theorem ist_str_bl {b : Bool} {P : Bool → Prop} : (∃ k, isTy S .str (.bl b) = some k ∧ P k) = P false := propext ⟨fun ⟨_, e, h⟩ => by cases e; exact h, fun h => ⟨_, rfl, h⟩⟩
theorem ist_bool_bl {b : Bool} {P : Bool → Prop} : (∃ k, isTy S .bool (.bl b) = some k ∧ P k) = P true := propext ⟨fun ⟨_, e, h⟩ => by cases e; exact h, fun h => ⟨_, rfl, h⟩⟩
theorem ist_tuple_bl {b : Bool} {P : Bool → Prop} : (∃ k, isTy S .tuple (.bl b) = some k ∧ P k) = P false := propext ⟨fun ⟨_, e, h⟩ => by cases e; exact h, fun h => ⟨_, rfl, h⟩⟩
theorem ist_list_bl {b : Bool} {P : Bool → Prop} : (∃ k, isTy S .list (.bl b) = some k ∧ P k) = P false := propext ⟨fun ⟨_, e, h⟩ => by cases e; exact h, fun h => ⟨_, rfl, h⟩⟩
theorem ist_int_int {P : Bool → Prop} : (∃ k, isTy S .int (.int i) = some k ∧ P k) = P true := propext ⟨fun ⟨_, e, h⟩ => by cases e; exact h, fun h => ⟨_, rfl, h⟩⟩
theorem ist_str_int {P : Bool → Prop} : (∃ k, isTy S .str (.int i) = some k ∧ P k) = P false := propext ⟨fun ⟨_, e, h⟩ => by cases e; exact h, fun h => ⟨_, rfl, h⟩⟩
theorem ist_bool_int {P : Bool → Prop} : (∃ k, isTy S .bool (.int i) = some k ∧ P k) = P false := propext ⟨fun ⟨_, e, h⟩ => by cases e; exact h, fun h => ⟨_, rfl, h⟩⟩
theorem ist_tuple_int {P : Bool → Prop} : (∃ k, isTy S .tuple (.int i) = some k ∧ P k) = P false := propext ⟨fun ⟨_, e, h⟩ => by cases e; exact h, fun h => ⟨_, rfl, h⟩⟩
theorem ist_list_int {P : Bool → Prop} : (∃ k, isTy S .list (.int i) = some k ∧ P k) = P false := propext ⟨fun ⟨_, e, h⟩ => by cases e; exact h, fun h => ⟨_, rfl, h⟩⟩
theorem ist_int_str {P : Bool → Prop} : (∃ k, isTy S .int (.str s) = some k ∧ P k) = P false := propext ⟨fun ⟨_, e, h⟩ => by cases e; exact h, fun h => ⟨_, rfl, h⟩⟩
theorem ist_str_str {P : Bool → Prop} : (∃ k, isTy S .str (.str s) = some k ∧ P k) = P true := propext ⟨fun ⟨_, e, h⟩ => by cases e; exact h, fun h => ⟨_, rfl, h⟩⟩
theorem ist_bool_str {P : Bool → Prop} : (∃ k, isTy S .bool (.str s) = some k ∧ P k) = P false := propext ⟨fun ⟨_, e, h⟩ => by cases e; exact h, fun h => ⟨_, rfl, h⟩⟩
theorem ist_tuple_str {P : Bool → Prop} : (∃ k, isTy S .tuple (.str s) = some k ∧ P k) = P false := propext ⟨fun ⟨_, e, h⟩ => by cases e; exact h, fun h => ⟨_, rfl, h⟩⟩
theorem ist_list_str {P : Bool → Prop} : (∃ k, isTy S .list (.str s) = some k ∧ P k) = P false := propext ⟨fun ⟨_, e, h⟩ => by cases e; exact h, fun h => ⟨_, rfl, h⟩⟩
theorem ist_int_tup {P : Bool → Prop} : (∃ k, isTy S .int (.tup xs) = some k ∧ P k) = P false := propext ⟨fun ⟨_, e, h⟩ => by cases e; exact h, fun h => ⟨_, rfl, h⟩⟩
theorem ist_str_tup {P : Bool → Prop} : (∃ k, isTy S .str (.tup xs) = some k ∧ P k) = P false := propext ⟨fun ⟨_, e, h⟩ => by cases e; exact h, fun h => ⟨_, rfl, h⟩⟩
theorem ist_bool_tup {P : Bool → Prop} : (∃ k, isTy S .bool (.tup xs) = some k ∧ P k) = P false := propext ⟨fun ⟨_, e, h⟩ => by cases e; exact h, fun h => ⟨_, rfl, h⟩⟩
theorem ist_tuple_tup {P : Bool → Prop} : (∃ k, isTy S .tuple (.tup xs) = some k ∧ P k) = P true := propext ⟨fun ⟨_, e, h⟩ => by cases e; exact h, fun h => ⟨_, rfl, h⟩⟩
theorem ist_list_tup {P : Bool → Prop} : (∃ k, isTy S .list (.tup xs) = some k ∧ P k) = P false := propext ⟨fun ⟨_, e, h⟩ => by cases e; exact h, fun h => ⟨_, rfl, h⟩⟩
theorem ist_int_lst {P : Bool → Prop} : (∃ k, isTy S .int (.lst xs) = some k ∧ P k) = P false := propext ⟨fun ⟨_, e, h⟩ => by cases e; exact h, fun h => ⟨_, rfl, h⟩⟩
theorem ist_str_lst {P : Bool → Prop} : (∃ k, isTy S .str (.lst xs) = some k ∧ P k) = P false := propext ⟨fun ⟨_, e, h⟩ => by cases e; exact h, fun h => ⟨_, rfl, h⟩⟩
theorem ist_bool_lst {P : Bool → Prop} : (∃ k, isTy S .bool (.lst xs) = some k ∧ P k) = P false := propext ⟨fun ⟨_, e, h⟩ => by cases e; exact h, fun h => ⟨_, rfl, h⟩⟩
theorem ist_tuple_lst {P : Bool → Prop} : (∃ k, isTy S .tuple (.lst xs) = some k ∧ P k) = P false := propext ⟨fun ⟨_, e, h⟩ => by cases e; exact h, fun h => ⟨_, rfl, h⟩⟩
theorem ist_list_lst {P : Bool → Prop} : (∃ k, isTy S .list (.lst xs) = some k ∧ P k) = P true := propext ⟨fun ⟨_, e, h⟩ => by cases e; exact h, fun h => ⟨_, rfl, h⟩⟩
theorem ist_int_scr {P : Bool → Prop} : (∃ k, isTy S .int (.scr xs) = some k ∧ P k) = P false := propext ⟨fun ⟨_, e, h⟩ => by cases e; exact h, fun h => ⟨_, rfl, h⟩⟩
theorem ist_str_scr {P : Bool → Prop} : (∃ k, isTy S .str (.scr xs) = some k ∧ P k) = P false := propext ⟨fun ⟨_, e, h⟩ => by cases e; exact h, fun h => ⟨_, rfl, h⟩⟩
theorem ist_bool_scr {P : Bool → Prop} : (∃ k, isTy S .bool (.scr xs) = some k ∧ P k) = P false := propext ⟨fun ⟨_, e, h⟩ => by cases e; exact h, fun h => ⟨_, rfl, h⟩⟩
theorem ist_tuple_scr {P : Bool → Prop} : (∃ k, isTy S .tuple (.scr xs) = some k ∧ P k) = P false := propext ⟨fun ⟨_, e, h⟩ => by cases e; exact h, fun h => ⟨_, rfl, h⟩⟩
theorem ist_list_scr {P : Bool → Prop} : (∃ k, isTy S .list (.scr xs) = some k ∧ P k) = P true := propext ⟨fun ⟨_, e, h⟩ => by cases e; exact h, fun h => ⟨_, rfl, h⟩⟩
theorem ist_int_ref {p : Addr} {P : Bool → Prop} : (∃ k, isTy (supd S p (.lst xs)) .int (.ref p) = some k ∧ P k) = P false := propext ⟨fun ⟨_, e, h⟩ => by rw [ty_int_supd] at e; cases e; exact h, fun h => ⟨_, ty_int_supd, h⟩⟩
theorem ist_str_ref {p : Addr} {P : Bool → Prop} : (∃ k, isTy (supd S p (.lst xs)) .str (.ref p) = some k ∧ P k) = P false := propext ⟨fun ⟨_, e, h⟩ => by rw [ty_str_supd] at e; cases e; exact h, fun h => ⟨_, ty_str_supd, h⟩⟩
theorem ist_bool_ref {p : Addr} {P : Bool → Prop} : (∃ k, isTy (supd S p (.lst xs)) .bool (.ref p) = some k ∧ P k) = P false := propext ⟨fun ⟨_, e, h⟩ => by rw [ty_bool_supd] at e; cases e; exact h, fun h => ⟨_, ty_bool_supd, h⟩⟩
theorem ist_tuple_ref {p : Addr} {P : Bool → Prop} : (∃ k, isTy (supd S p (.lst xs)) .tuple (.ref p) = some k ∧ P k) = P false := propext ⟨fun ⟨_, e, h⟩ => by rw [ty_tuple_supd] at e; cases e; exact h, fun h => ⟨_, ty_tuple_supd, h⟩⟩
theorem ist_list_ref {p : Addr} {P : Bool → Prop} : (∃ k, isTy (supd S p (.lst xs)) .list (.ref p) = some k ∧ P k) = P true := propext ⟨fun ⟨_, e, h⟩ => by rw [ty_list_supd] at e; cases e; exact h, fun h => ⟨_, ty_list_supd, h⟩⟩
theorem ist_plain {t : Ty} {v : D} {P : Bool → Prop} (h : plain v = true) : (∃ k, isTy S t v = some k ∧ P k) = P (tyB t v) := by rw [isTy_plain h]; exact propext ⟨fun ⟨_, e, h⟩ => by cases e; exact h, fun h => ⟨_, rfl, h⟩⟩
theorem st_nm0 {x0 : Option D} {d : D} {P : Rho → Prop} : (∃ ρ1, setT (.nm 0) d (x0 :: ρ) = some ρ1 ∧ P ρ1) = P (some d :: ρ) := propext ⟨fun ⟨_, e, h⟩ => by cases e; exact h, fun h => ⟨_, rfl, h⟩⟩
theorem st_ts0 {x0 : Option D} {d : D} {ts : List Tg} {ds : List D} {P : Rho → Prop} : (∃ ρ1, setTs (.nm 0 :: ts) (d :: ds) (x0 :: ρ) = some ρ1 ∧ P ρ1) = (∃ ρ1, setTs ts ds (some d :: ρ) = some ρ1 ∧ P ρ1) := by rw [setTs_cons]; rfl
theorem st_ro0 {x0 : Option D} {d : D} : (x0 :: ρ).set 0 (some d) = some d :: ρ := rfl
theorem st_no0 {x0 : Option D}  : (x0 :: ρ).set 0 none = none :: ρ := rfl
theorem st_nm1 {x0 x1 : Option D} {d : D} {P : Rho → Prop} : (∃ ρ1, setT (.nm 1) d (x0 :: x1 :: ρ) = some ρ1 ∧ P ρ1) = P (x0 :: some d :: ρ) := propext ⟨fun ⟨_, e, h⟩ => by cases e; exact h, fun h => ⟨_, rfl, h⟩⟩
theorem st_ts1 {x0 x1 : Option D} {d : D} {ts : List Tg} {ds : List D} {P : Rho → Prop} : (∃ ρ1, setTs (.nm 1 :: ts) (d :: ds) (x0 :: x1 :: ρ) = some ρ1 ∧ P ρ1) = (∃ ρ1, setTs ts ds (x0 :: some d :: ρ) = some ρ1 ∧ P ρ1) := by rw [setTs_cons]; rfl
theorem st_ro1 {x0 x1 : Option D} {d : D} : (x0 :: x1 :: ρ).set 1 (some d) = x0 :: some d :: ρ := rfl
theorem st_no1 {x0 x1 : Option D}  : (x0 :: x1 :: ρ).set 1 none = x0 :: none :: ρ := rfl
theorem st_nm2 {x0 x1 x2 : Option D} {d : D} {P : Rho → Prop} : (∃ ρ1, setT (.nm 2) d (x0 :: x1 :: x2 :: ρ) = some ρ1 ∧ P ρ1) = P (x0 :: x1 :: some d :: ρ) := propext ⟨fun ⟨_, e, h⟩ => by cases e; exact h, fun h => ⟨_, rfl, h⟩⟩
theorem st_ts2 {x0 x1 x2 : Option D} {d : D} {ts : List Tg} {ds : List D} {P : Rho → Prop} : (∃ ρ1, setTs (.nm 2 :: ts) (d :: ds) (x0 :: x1 :: x2 :: ρ) = some ρ1 ∧ P ρ1) = (∃ ρ1, setTs ts ds (x0 :: x1 :: some d :: ρ) = some ρ1 ∧ P ρ1) := by rw [setTs_cons]; rfl
theorem st_ro2 {x0 x1 x2 : Option D} {d : D} : (x0 :: x1 :: x2 :: ρ).set 2 (some d) = x0 :: x1 :: some d :: ρ := rfl
theorem st_no2 {x0 x1 x2 : Option D}  : (x0 :: x1 :: x2 :: ρ).set 2 none = x0 :: x1 :: none :: ρ := rfl
theorem st_nm3 {x0 x1 x2 x3 : Option D} {d : D} {P : Rho → Prop} : (∃ ρ1, setT (.nm 3) d (x0 :: x1 :: x2 :: x3 :: ρ) = some ρ1 ∧ P ρ1) = P (x0 :: x1 :: x2 :: some d :: ρ) := propext ⟨fun ⟨_, e, h⟩ => by cases e; exact h, fun h => ⟨_, rfl, h⟩⟩
theorem st_ts3 {x0 x1 x2 x3 : Option D} {d : D} {ts : List Tg} {ds : List D} {P : Rho → Prop} : (∃ ρ1, setTs (.nm 3 :: ts) (d :: ds) (x0 :: x1 :: x2 :: x3 :: ρ) = some ρ1 ∧ P ρ1) = (∃ ρ1, setTs ts ds (x0 :: x1 :: x2 :: some d :: ρ) = some ρ1 ∧ P ρ1) := by rw [setTs_cons]; rfl
theorem st_ro3 {x0 x1 x2 x3 : Option D} {d : D} : (x0 :: x1 :: x2 :: x3 :: ρ).set 3 (some d) = x0 :: x1 :: x2 :: some d :: ρ := rfl
theorem st_no3 {x0 x1 x2 x3 : Option D}  : (x0 :: x1 :: x2 :: x3 :: ρ).set 3 none = x0 :: x1 :: x2 :: none :: ρ := rfl
theorem st_nm4 {x0 x1 x2 x3 x4 : Option D} {d : D} {P : Rho → Prop} : (∃ ρ1, setT (.nm 4) d (x0 :: x1 :: x2 :: x3 :: x4 :: ρ) = some ρ1 ∧ P ρ1) = P (x0 :: x1 :: x2 :: x3 :: some d :: ρ) := propext ⟨fun ⟨_, e, h⟩ => by cases e; exact h, fun h => ⟨_, rfl, h⟩⟩
theorem st_ts4 {x0 x1 x2 x3 x4 : Option D} {d : D} {ts : List Tg} {ds : List D} {P : Rho → Prop} : (∃ ρ1, setTs (.nm 4 :: ts) (d :: ds) (x0 :: x1 :: x2 :: x3 :: x4 :: ρ) = some ρ1 ∧ P ρ1) = (∃ ρ1, setTs ts ds (x0 :: x1 :: x2 :: x3 :: some d :: ρ) = some ρ1 ∧ P ρ1) := by rw [setTs_cons]; rfl
theorem st_ro4 {x0 x1 x2 x3 x4 : Option D} {d : D} : (x0 :: x1 :: x2 :: x3 :: x4 :: ρ).set 4 (some d) = x0 :: x1 :: x2 :: x3 :: some d :: ρ := rfl
theorem st_no4 {x0 x1 x2 x3 x4 : Option D}  : (x0 :: x1 :: x2 :: x3 :: x4 :: ρ).set 4 none = x0 :: x1 :: x2 :: x3 :: none :: ρ := rfl
theorem st_nm5 {x0 x1 x2 x3 x4 x5 : Option D} {d : D} {P : Rho → Prop} : (∃ ρ1, setT (.nm 5) d (x0 :: x1 :: x2 :: x3 :: x4 :: x5 :: ρ) = some ρ1 ∧ P ρ1) = P (x0 :: x1 :: x2 :: x3 :: x4 :: some d :: ρ) := propext ⟨fun ⟨_, e, h⟩ => by cases e; exact h, fun h => ⟨_, rfl, h⟩⟩
theorem st_ts5 {x0 x1 x2 x3 x4 x5 : Option D} {d : D} {ts : List Tg} {ds : List D} {P : Rho → Prop} : (∃ ρ1, setTs (.nm 5 :: ts) (d :: ds) (x0 :: x1 :: x2 :: x3 :: x4 :: x5 :: ρ) = some ρ1 ∧ P ρ1) = (∃ ρ1, setTs ts ds (x0 :: x1 :: x2 :: x3 :: x4 :: some d :: ρ) = some ρ1 ∧ P ρ1) := by rw [setTs_cons]; rfl
theorem st_ro5 {x0 x1 x2 x3 x4 x5 : Option D} {d : D} : (x0 :: x1 :: x2 :: x3 :: x4 :: x5 :: ρ).set 5 (some d) = x0 :: x1 :: x2 :: x3 :: x4 :: some d :: ρ := rfl
theorem st_no5 {x0 x1 x2 x3 x4 x5 : Option D}  : (x0 :: x1 :: x2 :: x3 :: x4 :: x5 :: ρ).set 5 none = x0 :: x1 :: x2 :: x3 :: x4 :: none :: ρ := rfl
theorem st_nm6 {x0 x1 x2 x3 x4 x5 x6 : Option D} {d : D} {P : Rho → Prop} : (∃ ρ1, setT (.nm 6) d (x0 :: x1 :: x2 :: x3 :: x4 :: x5 :: x6 :: ρ) = some ρ1 ∧ P ρ1) = P (x0 :: x1 :: x2 :: x3 :: x4 :: x5 :: some d :: ρ) := propext ⟨fun ⟨_, e, h⟩ => by cases e; exact h, fun h => ⟨_, rfl, h⟩⟩
theorem st_ts6 {x0 x1 x2 x3 x4 x5 x6 : Option D} {d : D} {ts : List Tg} {ds : List D} {P : Rho → Prop} : (∃ ρ1, setTs (.nm 6 :: ts) (d :: ds) (x0 :: x1 :: x2 :: x3 :: x4 :: x5 :: x6 :: ρ) = some ρ1 ∧ P ρ1) = (∃ ρ1, setTs ts ds (x0 :: x1 :: x2 :: x3 :: x4 :: x5 :: some d :: ρ) = some ρ1 ∧ P ρ1) := by rw [setTs_cons]; rfl
theorem st_ro6 {x0 x1 x2 x3 x4 x5 x6 : Option D} {d : D} : (x0 :: x1 :: x2 :: x3 :: x4 :: x5 :: x6 :: ρ).set 6 (some d) = x0 :: x1 :: x2 :: x3 :: x4 :: x5 :: some d :: ρ := rfl
theorem st_no6 {x0 x1 x2 x3 x4 x5 x6 : Option D}  : (x0 :: x1 :: x2 :: x3 :: x4 :: x5 :: x6 :: ρ).set 6 none = x0 :: x1 :: x2 :: x3 :: x4 :: x5 :: none :: ρ := rfl
theorem st_nm7 {x0 x1 x2 x3 x4 x5 x6 x7 : Option D} {d : D} {P : Rho → Prop} : (∃ ρ1, setT (.nm 7) d (x0 :: x1 :: x2 :: x3 :: x4 :: x5 :: x6 :: x7 :: ρ) = some ρ1 ∧ P ρ1) = P (x0 :: x1 :: x2 :: x3 :: x4 :: x5 :: x6 :: some d :: ρ) := propext ⟨fun ⟨_, e, h⟩ => by cases e; exact h, fun h => ⟨_, rfl, h⟩⟩
theorem st_ts7 {x0 x1 x2 x3 x4 x5 x6 x7 : Option D} {d : D} {ts : List Tg} {ds : List D} {P : Rho → Prop} : (∃ ρ1, setTs (.nm 7 :: ts) (d :: ds) (x0 :: x1 :: x2 :: x3 :: x4 :: x5 :: x6 :: x7 :: ρ) = some ρ1 ∧ P ρ1) = (∃ ρ1, setTs ts ds (x0 :: x1 :: x2 :: x3 :: x4 :: x5 :: x6 :: some d :: ρ) = some ρ1 ∧ P ρ1) := by rw [setTs_cons]; rfl
theorem st_ro7 {x0 x1 x2 x3 x4 x5 x6 x7 : Option D} {d : D} : (x0 :: x1 :: x2 :: x3 :: x4 :: x5 :: x6 :: x7 :: ρ).set 7 (some d) = x0 :: x1 :: x2 :: x3 :: x4 :: x5 :: x6 :: some d :: ρ := rfl
theorem st_no7 {x0 x1 x2 x3 x4 x5 x6 x7 : Option D}  : (x0 :: x1 :: x2 :: x3 :: x4 :: x5 :: x6 :: x7 :: ρ).set 7 none = x0 :: x1 :: x2 :: x3 :: x4 :: x5 :: x6 :: none :: ρ := rfl
theorem st_nm8 {x0 x1 x2 x3 x4 x5 x6 x7 x8 : Option D} {d : D} {P : Rho → Prop} : (∃ ρ1, setT (.nm 8) d (x0 :: x1 :: x2 :: x3 :: x4 :: x5 :: x6 :: x7 :: x8 :: ρ) = some ρ1 ∧ P ρ1) = P (x0 :: x1 :: x2 :: x3 :: x4 :: x5 :: x6 :: x7 :: some d :: ρ) := propext ⟨fun ⟨_, e, h⟩ => by cases e; exact h, fun h => ⟨_, rfl, h⟩⟩
theorem st_ts8 {x0 x1 x2 x3 x4 x5 x6 x7 x8 : Option D} {d : D} {ts : List Tg} {ds : List D} {P : Rho → Prop} : (∃ ρ1, setTs (.nm 8 :: ts) (d :: ds) (x0 :: x1 :: x2 :: x3 :: x4 :: x5 :: x6 :: x7 :: x8 :: ρ) = some ρ1 ∧ P ρ1) = (∃ ρ1, setTs ts ds (x0 :: x1 :: x2 :: x3 :: x4 :: x5 :: x6 :: x7 :: some d :: ρ) = some ρ1 ∧ P ρ1) := by rw [setTs_cons]; rfl
theorem st_ro8 {x0 x1 x2 x3 x4 x5 x6 x7 x8 : Option D} {d : D} : (x0 :: x1 :: x2 :: x3 :: x4 :: x5 :: x6 :: x7 :: x8 :: ρ).set 8 (some d) = x0 :: x1 :: x2 :: x3 :: x4 :: x5 :: x6 :: x7 :: some d :: ρ := rfl
theorem st_no8 {x0 x1 x2 x3 x4 x5 x6 x7 x8 : Option D}  : (x0 :: x1 :: x2 :: x3 :: x4 :: x5 :: x6 :: x7 :: x8 :: ρ).set 8 none = x0 :: x1 :: x2 :: x3 :: x4 :: x5 :: x6 :: x7 :: none :: ρ := rfl
theorem st_nm9 {x0 x1 x2 x3 x4 x5 x6 x7 x8 x9 : Option D} {d : D} {P : Rho → Prop} : (∃ ρ1, setT (.nm 9) d (x0 :: x1 :: x2 :: x3 :: x4 :: x5 :: x6 :: x7 :: x8 :: x9 :: ρ) = some ρ1 ∧ P ρ1) = P (x0 :: x1 :: x2 :: x3 :: x4 :: x5 :: x6 :: x7 :: x8 :: some d :: ρ) := propext ⟨fun ⟨_, e, h⟩ => by cases e; exact h, fun h => ⟨_, rfl, h⟩⟩
theorem st_ts9 {x0 x1 x2 x3 x4 x5 x6 x7 x8 x9 : Option D} {d : D} {ts : List Tg} {ds : List D} {P : Rho → Prop} : (∃ ρ1, setTs (.nm 9 :: ts) (d :: ds) (x0 :: x1 :: x2 :: x3 :: x4 :: x5 :: x6 :: x7 :: x8 :: x9 :: ρ) = some ρ1 ∧ P ρ1) = (∃ ρ1, setTs ts ds (x0 :: x1 :: x2 :: x3 :: x4 :: x5 :: x6 :: x7 :: x8 :: some d :: ρ) = some ρ1 ∧ P ρ1) := by rw [setTs_cons]; rfl
theorem st_ro9 {x0 x1 x2 x3 x4 x5 x6 x7 x8 x9 : Option D} {d : D} : (x0 :: x1 :: x2 :: x3 :: x4 :: x5 :: x6 :: x7 :: x8 :: x9 :: ρ).set 9 (some d) = x0 :: x1 :: x2 :: x3 :: x4 :: x5 :: x6 :: x7 :: x8 :: some d :: ρ := rfl
theorem st_no9 {x0 x1 x2 x3 x4 x5 x6 x7 x8 x9 : Option D}  : (x0 :: x1 :: x2 :: x3 :: x4 :: x5 :: x6 :: x7 :: x8 :: x9 :: ρ).set 9 none = x0 :: x1 :: x2 :: x3 :: x4 :: x5 :: x6 :: x7 :: x8 :: none :: ρ := rfl
theorem st_nm10 {x0 x1 x2 x3 x4 x5 x6 x7 x8 x9 x10 : Option D} {d : D} {P : Rho → Prop} : (∃ ρ1, setT (.nm 10) d (x0 :: x1 :: x2 :: x3 :: x4 :: x5 :: x6 :: x7 :: x8 :: x9 :: x10 :: ρ) = some ρ1 ∧ P ρ1) = P (x0 :: x1 :: x2 :: x3 :: x4 :: x5 :: x6 :: x7 :: x8 :: x9 :: some d :: ρ) := propext ⟨fun ⟨_, e, h⟩ => by cases e; exact h, fun h => ⟨_, rfl, h⟩⟩
theorem st_ts10 {x0 x1 x2 x3 x4 x5 x6 x7 x8 x9 x10 : Option D} {d : D} {ts : List Tg} {ds : List D} {P : Rho → Prop} : (∃ ρ1, setTs (.nm 10 :: ts) (d :: ds) (x0 :: x1 :: x2 :: x3 :: x4 :: x5 :: x6 :: x7 :: x8 :: x9 :: x10 :: ρ) = some ρ1 ∧ P ρ1) = (∃ ρ1, setTs ts ds (x0 :: x1 :: x2 :: x3 :: x4 :: x5 :: x6 :: x7 :: x8 :: x9 :: some d :: ρ) = some ρ1 ∧ P ρ1) := by rw [setTs_cons]; rfl
theorem st_ro10 {x0 x1 x2 x3 x4 x5 x6 x7 x8 x9 x10 : Option D} {d : D} : (x0 :: x1 :: x2 :: x3 :: x4 :: x5 :: x6 :: x7 :: x8 :: x9 :: x10 :: ρ).set 10 (some d) = x0 :: x1 :: x2 :: x3 :: x4 :: x5 :: x6 :: x7 :: x8 :: x9 :: some d :: ρ := rfl
theorem st_no10 {x0 x1 x2 x3 x4 x5 x6 x7 x8 x9 x10 : Option D}  : (x0 :: x1 :: x2 :: x3 :: x4 :: x5 :: x6 :: x7 :: x8 :: x9 :: x10 :: ρ).set 10 none = x0 :: x1 :: x2 :: x3 :: x4 :: x5 :: x6 :: x7 :: x8 :: x9 :: none :: ρ := rfl
theorem st_nm11 {x0 x1 x2 x3 x4 x5 x6 x7 x8 x9 x10 x11 : Option D} {d : D} {P : Rho → Prop} : (∃ ρ1, setT (.nm 11) d (x0 :: x1 :: x2 :: x3 :: x4 :: x5 :: x6 :: x7 :: x8 :: x9 :: x10 :: x11 :: ρ) = some ρ1 ∧ P ρ1) = P (x0 :: x1 :: x2 :: x3 :: x4 :: x5 :: x6 :: x7 :: x8 :: x9 :: x10 :: some d :: ρ) := propext ⟨fun ⟨_, e, h⟩ => by cases e; exact h, fun h => ⟨_, rfl, h⟩⟩
theorem st_ts11 {x0 x1 x2 x3 x4 x5 x6 x7 x8 x9 x10 x11 : Option D} {d : D} {ts : List Tg} {ds : List D} {P : Rho → Prop} : (∃ ρ1, setTs (.nm 11 :: ts) (d :: ds) (x0 :: x1 :: x2 :: x3 :: x4 :: x5 :: x6 :: x7 :: x8 :: x9 :: x10 :: x11 :: ρ) = some ρ1 ∧ P ρ1) = (∃ ρ1, setTs ts ds (x0 :: x1 :: x2 :: x3 :: x4 :: x5 :: x6 :: x7 :: x8 :: x9 :: x10 :: some d :: ρ) = some ρ1 ∧ P ρ1) := by rw [setTs_cons]; rfl
theorem st_ro11 {x0 x1 x2 x3 x4 x5 x6 x7 x8 x9 x10 x11 : Option D} {d : D} : (x0 :: x1 :: x2 :: x3 :: x4 :: x5 :: x6 :: x7 :: x8 :: x9 :: x10 :: x11 :: ρ).set 11 (some d) = x0 :: x1 :: x2 :: x3 :: x4 :: x5 :: x6 :: x7 :: x8 :: x9 :: x10 :: some d :: ρ := rfl
theorem st_no11 {x0 x1 x2 x3 x4 x5 x6 x7 x8 x9 x10 x11 : Option D}  : (x0 :: x1 :: x2 :: x3 :: x4 :: x5 :: x6 :: x7 :: x8 :: x9 :: x10 :: x11 :: ρ).set 11 none = x0 :: x1 :: x2 :: x3 :: x4 :: x5 :: x6 :: x7 :: x8 :: x9 :: x10 :: none :: ρ := rfl
theorem st_nm12 {x0 x1 x2 x3 x4 x5 x6 x7 x8 x9 x10 x11 x12 : Option D} {d : D} {P : Rho → Prop} : (∃ ρ1, setT (.nm 12) d (x0 :: x1 :: x2 :: x3 :: x4 :: x5 :: x6 :: x7 :: x8 :: x9 :: x10 :: x11 :: x12 :: ρ) = some ρ1 ∧ P ρ1) = P (x0 :: x1 :: x2 :: x3 :: x4 :: x5 :: x6 :: x7 :: x8 :: x9 :: x10 :: x11 :: some d :: ρ) := propext ⟨fun ⟨_, e, h⟩ => by cases e; exact h, fun h => ⟨_, rfl, h⟩⟩
theorem st_ts12 {x0 x1 x2 x3 x4 x5 x6 x7 x8 x9 x10 x11 x12 : Option D} {d : D} {ts : List Tg} {ds : List D} {P : Rho → Prop} : (∃ ρ1, setTs (.nm 12 :: ts) (d :: ds) (x0 :: x1 :: x2 :: x3 :: x4 :: x5 :: x6 :: x7 :: x8 :: x9 :: x10 :: x11 :: x12 :: ρ) = some ρ1 ∧ P ρ1) = (∃ ρ1, setTs ts ds (x0 :: x1 :: x2 :: x3 :: x4 :: x5 :: x6 :: x7 :: x8 :: x9 :: x10 :: x11 :: some d :: ρ) = some ρ1 ∧ P ρ1) := by rw [setTs_cons]; rfl
theorem st_ro12 {x0 x1 x2 x3 x4 x5 x6 x7 x8 x9 x10 x11 x12 : Option D} {d : D} : (x0 :: x1 :: x2 :: x3 :: x4 :: x5 :: x6 :: x7 :: x8 :: x9 :: x10 :: x11 :: x12 :: ρ).set 12 (some d) = x0 :: x1 :: x2 :: x3 :: x4 :: x5 :: x6 :: x7 :: x8 :: x9 :: x10 :: x11 :: some d :: ρ := rfl
theorem st_no12 {x0 x1 x2 x3 x4 x5 x6 x7 x8 x9 x10 x11 x12 : Option D}  : (x0 :: x1 :: x2 :: x3 :: x4 :: x5 :: x6 :: x7 :: x8 :: x9 :: x10 :: x11 :: x12 :: ρ).set 12 none = x0 :: x1 :: x2 :: x3 :: x4 :: x5 :: x6 :: x7 :: x8 :: x9 :: x10 :: x11 :: none :: ρ := rfl
theorem st_nm13 {x0 x1 x2 x3 x4 x5 x6 x7 x8 x9 x10 x11 x12 x13 : Option D} {d : D} {P : Rho → Prop} : (∃ ρ1, setT (.nm 13) d (x0 :: x1 :: x2 :: x3 :: x4 :: x5 :: x6 :: x7 :: x8 :: x9 :: x10 :: x11 :: x12 :: x13 :: ρ) = some ρ1 ∧ P ρ1) = P (x0 :: x1 :: x2 :: x3 :: x4 :: x5 :: x6 :: x7 :: x8 :: x9 :: x10 :: x11 :: x12 :: some d :: ρ) := propext ⟨fun ⟨_, e, h⟩ => by cases e; exact h, fun h => ⟨_, rfl, h⟩⟩
theorem st_ts13 {x0 x1 x2 x3 x4 x5 x6 x7 x8 x9 x10 x11 x12 x13 : Option D} {d : D} {ts : List Tg} {ds : List D} {P : Rho → Prop} : (∃ ρ1, setTs (.nm 13 :: ts) (d :: ds) (x0 :: x1 :: x2 :: x3 :: x4 :: x5 :: x6 :: x7 :: x8 :: x9 :: x10 :: x11 :: x12 :: x13 :: ρ) = some ρ1 ∧ P ρ1) = (∃ ρ1, setTs ts ds (x0 :: x1 :: x2 :: x3 :: x4 :: x5 :: x6 :: x7 :: x8 :: x9 :: x10 :: x11 :: x12 :: some d :: ρ) = some ρ1 ∧ P ρ1) := by rw [setTs_cons]; rfl
theorem st_ro13 {x0 x1 x2 x3 x4 x5 x6 x7 x8 x9 x10 x11 x12 x13 : Option D} {d : D} : (x0 :: x1 :: x2 :: x3 :: x4 :: x5 :: x6 :: x7 :: x8 :: x9 :: x10 :: x11 :: x12 :: x13 :: ρ).set 13 (some d) = x0 :: x1 :: x2 :: x3 :: x4 :: x5 :: x6 :: x7 :: x8 :: x9 :: x10 :: x11 :: x12 :: some d :: ρ := rfl
theorem st_no13 {x0 x1 x2 x3 x4 x5 x6 x7 x8 x9 x10 x11 x12 x13 : Option D}  : (x0 :: x1 :: x2 :: x3 :: x4 :: x5 :: x6 :: x7 :: x8 :: x9 :: x10 :: x11 :: x12 :: x13 :: ρ).set 13 none = x0 :: x1 :: x2 :: x3 :: x4 :: x5 :: x6 :: x7 :: x8 :: x9 :: x10 :: x11 :: x12 :: none :: ρ := rfl
theorem st_nm14 {x0 x1 x2 x3 x4 x5 x6 x7 x8 x9 x10 x11 x12 x13 x14 : Option D} {d : D} {P : Rho → Prop} : (∃ ρ1, setT (.nm 14) d (x0 :: x1 :: x2 :: x3 :: x4 :: x5 :: x6 :: x7 :: x8 :: x9 :: x10 :: x11 :: x12 :: x13 :: x14 :: ρ) = some ρ1 ∧ P ρ1) = P (x0 :: x1 :: x2 :: x3 :: x4 :: x5 :: x6 :: x7 :: x8 :: x9 :: x10 :: x11 :: x12 :: x13 :: some d :: ρ) := propext ⟨fun ⟨_, e, h⟩ => by cases e; exact h, fun h => ⟨_, rfl, h⟩⟩
theorem st_ts14 {x0 x1 x2 x3 x4 x5 x6 x7 x8 x9 x10 x11 x12 x13 x14 : Option D} {d : D} {ts : List Tg} {ds : List D} {P : Rho → Prop} : (∃ ρ1, setTs (.nm 14 :: ts) (d :: ds) (x0 :: x1 :: x2 :: x3 :: x4 :: x5 :: x6 :: x7 :: x8 :: x9 :: x10 :: x11 :: x12 :: x13 :: x14 :: ρ) = some ρ1 ∧ P ρ1) = (∃ ρ1, setTs ts ds (x0 :: x1 :: x2 :: x3 :: x4 :: x5 :: x6 :: x7 :: x8 :: x9 :: x10 :: x11 :: x12 :: x13 :: some d :: ρ) = some ρ1 ∧ P ρ1) := by rw [setTs_cons]; rfl
theorem st_ro14 {x0 x1 x2 x3 x4 x5 x6 x7 x8 x9 x10 x11 x12 x13 x14 : Option D} {d : D} : (x0 :: x1 :: x2 :: x3 :: x4 :: x5 :: x6 :: x7 :: x8 :: x9 :: x10 :: x11 :: x12 :: x13 :: x14 :: ρ).set 14 (some d) = x0 :: x1 :: x2 :: x3 :: x4 :: x5 :: x6 :: x7 :: x8 :: x9 :: x10 :: x11 :: x12 :: x13 :: some d :: ρ := rfl
theorem st_no14 {x0 x1 x2 x3 x4 x5 x6 x7 x8 x9 x10 x11 x12 x13 x14 : Option D}  : (x0 :: x1 :: x2 :: x3 :: x4 :: x5 :: x6 :: x7 :: x8 :: x9 :: x10 :: x11 :: x12 :: x13 :: x14 :: ρ).set 14 none = x0 :: x1 :: x2 :: x3 :: x4 :: x5 :: x6 :: x7 :: x8 :: x9 :: x10 :: x11 :: x12 :: x13 :: none :: ρ := rfl
theorem st_nm15 {x0 x1 x2 x3 x4 x5 x6 x7 x8 x9 x10 x11 x12 x13 x14 x15 : Option D} {d : D} {P : Rho → Prop} : (∃ ρ1, setT (.nm 15) d (x0 :: x1 :: x2 :: x3 :: x4 :: x5 :: x6 :: x7 :: x8 :: x9 :: x10 :: x11 :: x12 :: x13 :: x14 :: x15 :: ρ) = some ρ1 ∧ P ρ1) = P (x0 :: x1 :: x2 :: x3 :: x4 :: x5 :: x6 :: x7 :: x8 :: x9 :: x10 :: x11 :: x12 :: x13 :: x14 :: some d :: ρ) := propext ⟨fun ⟨_, e, h⟩ => by cases e; exact h, fun h => ⟨_, rfl, h⟩⟩
theorem st_ts15 {x0 x1 x2 x3 x4 x5 x6 x7 x8 x9 x10 x11 x12 x13 x14 x15 : Option D} {d : D} {ts : List Tg} {ds : List D} {P : Rho → Prop} : (∃ ρ1, setTs (.nm 15 :: ts) (d :: ds) (x0 :: x1 :: x2 :: x3 :: x4 :: x5 :: x6 :: x7 :: x8 :: x9 :: x10 :: x11 :: x12 :: x13 :: x14 :: x15 :: ρ) = some ρ1 ∧ P ρ1) = (∃ ρ1, setTs ts ds (x0 :: x1 :: x2 :: x3 :: x4 :: x5 :: x6 :: x7 :: x8 :: x9 :: x10 :: x11 :: x12 :: x13 :: x14 :: some d :: ρ) = some ρ1 ∧ P ρ1) := by rw [setTs_cons]; rfl
theorem st_ro15 {x0 x1 x2 x3 x4 x5 x6 x7 x8 x9 x10 x11 x12 x13 x14 x15 : Option D} {d : D} : (x0 :: x1 :: x2 :: x3 :: x4 :: x5 :: x6 :: x7 :: x8 :: x9 :: x10 :: x11 :: x12 :: x13 :: x14 :: x15 :: ρ).set 15 (some d) = x0 :: x1 :: x2 :: x3 :: x4 :: x5 :: x6 :: x7 :: x8 :: x9 :: x10 :: x11 :: x12 :: x13 :: x14 :: some d :: ρ := rfl
theorem st_no15 {x0 x1 x2 x3 x4 x5 x6 x7 x8 x9 x10 x11 x12 x13 x14 x15 : Option D}  : (x0 :: x1 :: x2 :: x3 :: x4 :: x5 :: x6 :: x7 :: x8 :: x9 :: x10 :: x11 :: x12 :: x13 :: x14 :: x15 :: ρ).set 15 none = x0 :: x1 :: x2 :: x3 :: x4 :: x5 :: x6 :: x7 :: x8 :: x9 :: x10 :: x11 :: x12 :: x13 :: x14 :: none :: ρ := rfl
theorem st_nm16 {x0 x1 x2 x3 x4 x5 x6 x7 x8 x9 x10 x11 x12 x13 x14 x15 x16 : Option D} {d : D} {P : Rho → Prop} : (∃ ρ1, setT (.nm 16) d (x0 :: x1 :: x2 :: x3 :: x4 :: x5 :: x6 :: x7 :: x8 :: x9 :: x10 :: x11 :: x12 :: x13 :: x14 :: x15 :: x16 :: ρ) = some ρ1 ∧ P ρ1) = P (x0 :: x1 :: x2 :: x3 :: x4 :: x5 :: x6 :: x7 :: x8 :: x9 :: x10 :: x11 :: x12 :: x13 :: x14 :: x15 :: some d :: ρ) := propext ⟨fun ⟨_, e, h⟩ => by cases e; exact h, fun h => ⟨_, rfl, h⟩⟩
theorem st_ts16 {x0 x1 x2 x3 x4 x5 x6 x7 x8 x9 x10 x11 x12 x13 x14 x15 x16 : Option D} {d : D} {ts : List Tg} {ds : List D} {P : Rho → Prop} : (∃ ρ1, setTs (.nm 16 :: ts) (d :: ds) (x0 :: x1 :: x2 :: x3 :: x4 :: x5 :: x6 :: x7 :: x8 :: x9 :: x10 :: x11 :: x12 :: x13 :: x14 :: x15 :: x16 :: ρ) = some ρ1 ∧ P ρ1) = (∃ ρ1, setTs ts ds (x0 :: x1 :: x2 :: x3 :: x4 :: x5 :: x6 :: x7 :: x8 :: x9 :: x10 :: x11 :: x12 :: x13 :: x14 :: x15 :: some d :: ρ) = some ρ1 ∧ P ρ1) := by rw [setTs_cons]; rfl
theorem st_ro16 {x0 x1 x2 x3 x4 x5 x6 x7 x8 x9 x10 x11 x12 x13 x14 x15 x16 : Option D} {d : D} : (x0 :: x1 :: x2 :: x3 :: x4 :: x5 :: x6 :: x7 :: x8 :: x9 :: x10 :: x11 :: x12 :: x13 :: x14 :: x15 :: x16 :: ρ).set 16 (some d) = x0 :: x1 :: x2 :: x3 :: x4 :: x5 :: x6 :: x7 :: x8 :: x9 :: x10 :: x11 :: x12 :: x13 :: x14 :: x15 :: some d :: ρ := rfl
theorem st_no16 {x0 x1 x2 x3 x4 x5 x6 x7 x8 x9 x10 x11 x12 x13 x14 x15 x16 : Option D}  : (x0 :: x1 :: x2 :: x3 :: x4 :: x5 :: x6 :: x7 :: x8 :: x9 :: x10 :: x11 :: x12 :: x13 :: x14 :: x15 :: x16 :: ρ).set 16 none = x0 :: x1 :: x2 :: x3 :: x4 :: x5 :: x6 :: x7 :: x8 :: x9 :: x10 :: x11 :: x12 :: x13 :: x14 :: x15 :: none :: ρ := rfl
theorem st_nm17 {x0 x1 x2 x3 x4 x5 x6 x7 x8 x9 x10 x11 x12 x13 x14 x15 x16 x17 : Option D} {d : D} {P : Rho → Prop} : (∃ ρ1, setT (.nm 17) d (x0 :: x1 :: x2 :: x3 :: x4 :: x5 :: x6 :: x7 :: x8 :: x9 :: x10 :: x11 :: x12 :: x13 :: x14 :: x15 :: x16 :: x17 :: ρ) = some ρ1 ∧ P ρ1) = P (x0 :: x1 :: x2 :: x3 :: x4 :: x5 :: x6 :: x7 :: x8 :: x9 :: x10 :: x11 :: x12 :: x13 :: x14 :: x15 :: x16 :: some d :: ρ) := propext ⟨fun ⟨_, e, h⟩ => by cases e; exact h, fun h => ⟨_, rfl, h⟩⟩
theorem st_ts17 {x0 x1 x2 x3 x4 x5 x6 x7 x8 x9 x10 x11 x12 x13 x14 x15 x16 x17 : Option D} {d : D} {ts : List Tg} {ds : List D} {P : Rho → Prop} : (∃ ρ1, setTs (.nm 17 :: ts) (d :: ds) (x0 :: x1 :: x2 :: x3 :: x4 :: x5 :: x6 :: x7 :: x8 :: x9 :: x10 :: x11 :: x12 :: x13 :: x14 :: x15 :: x16 :: x17 :: ρ) = some ρ1 ∧ P ρ1) = (∃ ρ1, setTs ts ds (x0 :: x1 :: x2 :: x3 :: x4 :: x5 :: x6 :: x7 :: x8 :: x9 :: x10 :: x11 :: x12 :: x13 :: x14 :: x15 :: x16 :: some d :: ρ) = some ρ1 ∧ P ρ1) := by rw [setTs_cons]; rfl
theorem st_ro17 {x0 x1 x2 x3 x4 x5 x6 x7 x8 x9 x10 x11 x12 x13 x14 x15 x16 x17 : Option D} {d : D} : (x0 :: x1 :: x2 :: x3 :: x4 :: x5 :: x6 :: x7 :: x8 :: x9 :: x10 :: x11 :: x12 :: x13 :: x14 :: x15 :: x16 :: x17 :: ρ).set 17 (some d) = x0 :: x1 :: x2 :: x3 :: x4 :: x5 :: x6 :: x7 :: x8 :: x9 :: x10 :: x11 :: x12 :: x13 :: x14 :: x15 :: x16 :: some d :: ρ := rfl
theorem st_no17 {x0 x1 x2 x3 x4 x5 x6 x7 x8 x9 x10 x11 x12 x13 x14 x15 x16 x17 : Option D}  : (x0 :: x1 :: x2 :: x3 :: x4 :: x5 :: x6 :: x7 :: x8 :: x9 :: x10 :: x11 :: x12 :: x13 :: x14 :: x15 :: x16 :: x17 :: ρ).set 17 none = x0 :: x1 :: x2 :: x3 :: x4 :: x5 :: x6 :: x7 :: x8 :: x9 :: x10 :: x11 :: x12 :: x13 :: x14 :: x15 :: x16 :: none :: ρ := rfl
theorem st_nm18 {x0 x1 x2 x3 x4 x5 x6 x7 x8 x9 x10 x11 x12 x13 x14 x15 x16 x17 x18 : Option D} {d : D} {P : Rho → Prop} : (∃ ρ1, setT (.nm 18) d (x0 :: x1 :: x2 :: x3 :: x4 :: x5 :: x6 :: x7 :: x8 :: x9 :: x10 :: x11 :: x12 :: x13 :: x14 :: x15 :: x16 :: x17 :: x18 :: ρ) = some ρ1 ∧ P ρ1) = P (x0 :: x1 :: x2 :: x3 :: x4 :: x5 :: x6 :: x7 :: x8 :: x9 :: x10 :: x11 :: x12 :: x13 :: x14 :: x15 :: x16 :: x17 :: some d :: ρ) := propext ⟨fun ⟨_, e, h⟩ => by cases e; exact h, fun h => ⟨_, rfl, h⟩⟩
theorem st_ts18 {x0 x1 x2 x3 x4 x5 x6 x7 x8 x9 x10 x11 x12 x13 x14 x15 x16 x17 x18 : Option D} {d : D} {ts : List Tg} {ds : List D} {P : Rho → Prop} : (∃ ρ1, setTs (.nm 18 :: ts) (d :: ds) (x0 :: x1 :: x2 :: x3 :: x4 :: x5 :: x6 :: x7 :: x8 :: x9 :: x10 :: x11 :: x12 :: x13 :: x14 :: x15 :: x16 :: x17 :: x18 :: ρ) = some ρ1 ∧ P ρ1) = (∃ ρ1, setTs ts ds (x0 :: x1 :: x2 :: x3 :: x4 :: x5 :: x6 :: x7 :: x8 :: x9 :: x10 :: x11 :: x12 :: x13 :: x14 :: x15 :: x16 :: x17 :: some d :: ρ) = some ρ1 ∧ P ρ1) := by rw [setTs_cons]; rfl
theorem st_ro18 {x0 x1 x2 x3 x4 x5 x6 x7 x8 x9 x10 x11 x12 x13 x14 x15 x16 x17 x18 : Option D} {d : D} : (x0 :: x1 :: x2 :: x3 :: x4 :: x5 :: x6 :: x7 :: x8 :: x9 :: x10 :: x11 :: x12 :: x13 :: x14 :: x15 :: x16 :: x17 :: x18 :: ρ).set 18 (some d) = x0 :: x1 :: x2 :: x3 :: x4 :: x5 :: x6 :: x7 :: x8 :: x9 :: x10 :: x11 :: x12 :: x13 :: x14 :: x15 :: x16 :: x17 :: some d :: ρ := rfl
theorem st_no18 {x0 x1 x2 x3 x4 x5 x6 x7 x8 x9 x10 x11 x12 x13 x14 x15 x16 x17 x18 : Option D}  : (x0 :: x1 :: x2 :: x3 :: x4 :: x5 :: x6 :: x7 :: x8 :: x9 :: x10 :: x11 :: x12 :: x13 :: x14 :: x15 :: x16 :: x17 :: x18 :: ρ).set 18 none = x0 :: x1 :: x2 :: x3 :: x4 :: x5 :: x6 :: x7 :: x8 :: x9 :: x10 :: x11 :: x12 :: x13 :: x14 :: x15 :: x16 :: x17 :: none :: ρ := rfl
theorem st_nm19 {x0 x1 x2 x3 x4 x5 x6 x7 x8 x9 x10 x11 x12 x13 x14 x15 x16 x17 x18 x19 : Option D} {d : D} {P : Rho → Prop} : (∃ ρ1, setT (.nm 19) d (x0 :: x1 :: x2 :: x3 :: x4 :: x5 :: x6 :: x7 :: x8 :: x9 :: x10 :: x11 :: x12 :: x13 :: x14 :: x15 :: x16 :: x17 :: x18 :: x19 :: ρ) = some ρ1 ∧ P ρ1) = P (x0 :: x1 :: x2 :: x3 :: x4 :: x5 :: x6 :: x7 :: x8 :: x9 :: x10 :: x11 :: x12 :: x13 :: x14 :: x15 :: x16 :: x17 :: x18 :: some d :: ρ) := propext ⟨fun ⟨_, e, h⟩ => by cases e; exact h, fun h => ⟨_, rfl, h⟩⟩
theorem st_ts19 {x0 x1 x2 x3 x4 x5 x6 x7 x8 x9 x10 x11 x12 x13 x14 x15 x16 x17 x18 x19 : Option D} {d : D} {ts : List Tg} {ds : List D} {P : Rho → Prop} : (∃ ρ1, setTs (.nm 19 :: ts) (d :: ds) (x0 :: x1 :: x2 :: x3 :: x4 :: x5 :: x6 :: x7 :: x8 :: x9 :: x10 :: x11 :: x12 :: x13 :: x14 :: x15 :: x16 :: x17 :: x18 :: x19 :: ρ) = some ρ1 ∧ P ρ1) = (∃ ρ1, setTs ts ds (x0 :: x1 :: x2 :: x3 :: x4 :: x5 :: x6 :: x7 :: x8 :: x9 :: x10 :: x11 :: x12 :: x13 :: x14 :: x15 :: x16 :: x17 :: x18 :: some d :: ρ) = some ρ1 ∧ P ρ1) := by rw [setTs_cons]; rfl
theorem st_ro19 {x0 x1 x2 x3 x4 x5 x6 x7 x8 x9 x10 x11 x12 x13 x14 x15 x16 x17 x18 x19 : Option D} {d : D} : (x0 :: x1 :: x2 :: x3 :: x4 :: x5 :: x6 :: x7 :: x8 :: x9 :: x10 :: x11 :: x12 :: x13 :: x14 :: x15 :: x16 :: x17 :: x18 :: x19 :: ρ).set 19 (some d) = x0 :: x1 :: x2 :: x3 :: x4 :: x5 :: x6 :: x7 :: x8 :: x9 :: x10 :: x11 :: x12 :: x13 :: x14 :: x15 :: x16 :: x17 :: x18 :: some d :: ρ := rfl
theorem st_no19 {x0 x1 x2 x3 x4 x5 x6 x7 x8 x9 x10 x11 x12 x13 x14 x15 x16 x17 x18 x19 : Option D}  : (x0 :: x1 :: x2 :: x3 :: x4 :: x5 :: x6 :: x7 :: x8 :: x9 :: x10 :: x11 :: x12 :: x13 :: x14 :: x15 :: x16 :: x17 :: x18 :: x19 :: ρ).set 19 none = x0 :: x1 :: x2 :: x3 :: x4 :: x5 :: x6 :: x7 :: x8 :: x9 :: x10 :: x11 :: x12 :: x13 :: x14 :: x15 :: x16 :: x17 :: x18 :: none :: ρ := rfl
theorem st_nm20 {x0 x1 x2 x3 x4 x5 x6 x7 x8 x9 x10 x11 x12 x13 x14 x15 x16 x17 x18 x19 x20 : Option D} {d : D} {P : Rho → Prop} : (∃ ρ1, setT (.nm 20) d (x0 :: x1 :: x2 :: x3 :: x4 :: x5 :: x6 :: x7 :: x8 :: x9 :: x10 :: x11 :: x12 :: x13 :: x14 :: x15 :: x16 :: x17 :: x18 :: x19 :: x20 :: ρ) = some ρ1 ∧ P ρ1) = P (x0 :: x1 :: x2 :: x3 :: x4 :: x5 :: x6 :: x7 :: x8 :: x9 :: x10 :: x11 :: x12 :: x13 :: x14 :: x15 :: x16 :: x17 :: x18 :: x19 :: some d :: ρ) := propext ⟨fun ⟨_, e, h⟩ => by cases e; exact h, fun h => ⟨_, rfl, h⟩⟩
theorem st_ts20 {x0 x1 x2 x3 x4 x5 x6 x7 x8 x9 x10 x11 x12 x13 x14 x15 x16 x17 x18 x19 x20 : Option D} {d : D} {ts : List Tg} {ds : List D} {P : Rho → Prop} : (∃ ρ1, setTs (.nm 20 :: ts) (d :: ds) (x0 :: x1 :: x2 :: x3 :: x4 :: x5 :: x6 :: x7 :: x8 :: x9 :: x10 :: x11 :: x12 :: x13 :: x14 :: x15 :: x16 :: x17 :: x18 :: x19 :: x20 :: ρ) = some ρ1 ∧ P ρ1) = (∃ ρ1, setTs ts ds (x0 :: x1 :: x2 :: x3 :: x4 :: x5 :: x6 :: x7 :: x8 :: x9 :: x10 :: x11 :: x12 :: x13 :: x14 :: x15 :: x16 :: x17 :: x18 :: x19 :: some d :: ρ) = some ρ1 ∧ P ρ1) := by rw [setTs_cons]; rfl
theorem st_ro20 {x0 x1 x2 x3 x4 x5 x6 x7 x8 x9 x10 x11 x12 x13 x14 x15 x16 x17 x18 x19 x20 : Option D} {d : D} : (x0 :: x1 :: x2 :: x3 :: x4 :: x5 :: x6 :: x7 :: x8 :: x9 :: x10 :: x11 :: x12 :: x13 :: x14 :: x15 :: x16 :: x17 :: x18 :: x19 :: x20 :: ρ).set 20 (some d) = x0 :: x1 :: x2 :: x3 :: x4 :: x5 :: x6 :: x7 :: x8 :: x9 :: x10 :: x11 :: x12 :: x13 :: x14 :: x15 :: x16 :: x17 :: x18 :: x19 :: some d :: ρ := rfl
theorem st_no20 {x0 x1 x2 x3 x4 x5 x6 x7 x8 x9 x10 x11 x12 x13 x14 x15 x16 x17 x18 x19 x20 : Option D}  : (x0 :: x1 :: x2 :: x3 :: x4 :: x5 :: x6 :: x7 :: x8 :: x9 :: x10 :: x11 :: x12 :: x13 :: x14 :: x15 :: x16 :: x17 :: x18 :: x19 :: x20 :: ρ).set 20 none = x0 :: x1 :: x2 :: x3 :: x4 :: x5 :: x6 :: x7 :: x8 :: x9 :: x10 :: x11 :: x12 :: x13 :: x14 :: x15 :: x16 :: x17 :: x18 :: x19 :: none :: ρ := rfl
theorem st_nm21 {x0 x1 x2 x3 x4 x5 x6 x7 x8 x9 x10 x11 x12 x13 x14 x15 x16 x17 x18 x19 x20 x21 : Option D} {d : D} {P : Rho → Prop} : (∃ ρ1, setT (.nm 21) d (x0 :: x1 :: x2 :: x3 :: x4 :: x5 :: x6 :: x7 :: x8 :: x9 :: x10 :: x11 :: x12 :: x13 :: x14 :: x15 :: x16 :: x17 :: x18 :: x19 :: x20 :: x21 :: ρ) = some ρ1 ∧ P ρ1) = P (x0 :: x1 :: x2 :: x3 :: x4 :: x5 :: x6 :: x7 :: x8 :: x9 :: x10 :: x11 :: x12 :: x13 :: x14 :: x15 :: x16 :: x17 :: x18 :: x19 :: x20 :: some d :: ρ) := propext ⟨fun ⟨_, e, h⟩ => by cases e; exact h, fun h => ⟨_, rfl, h⟩⟩
theorem st_ts21 {x0 x1 x2 x3 x4 x5 x6 x7 x8 x9 x10 x11 x12 x13 x14 x15 x16 x17 x18 x19 x20 x21 : Option D} {d : D} {ts : List Tg} {ds : List D} {P : Rho → Prop} : (∃ ρ1, setTs (.nm 21 :: ts) (d :: ds) (x0 :: x1 :: x2 :: x3 :: x4 :: x5 :: x6 :: x7 :: x8 :: x9 :: x10 :: x11 :: x12 :: x13 :: x14 :: x15 :: x16 :: x17 :: x18 :: x19 :: x20 :: x21 :: ρ) = some ρ1 ∧ P ρ1) = (∃ ρ1, setTs ts ds (x0 :: x1 :: x2 :: x3 :: x4 :: x5 :: x6 :: x7 :: x8 :: x9 :: x10 :: x11 :: x12 :: x13 :: x14 :: x15 :: x16 :: x17 :: x18 :: x19 :: x20 :: some d :: ρ) = some ρ1 ∧ P ρ1) := by rw [setTs_cons]; rfl
theorem st_ro21 {x0 x1 x2 x3 x4 x5 x6 x7 x8 x9 x10 x11 x12 x13 x14 x15 x16 x17 x18 x19 x20 x21 : Option D} {d : D} : (x0 :: x1 :: x2 :: x3 :: x4 :: x5 :: x6 :: x7 :: x8 :: x9 :: x10 :: x11 :: x12 :: x13 :: x14 :: x15 :: x16 :: x17 :: x18 :: x19 :: x20 :: x21 :: ρ).set 21 (some d) = x0 :: x1 :: x2 :: x3 :: x4 :: x5 :: x6 :: x7 :: x8 :: x9 :: x10 :: x11 :: x12 :: x13 :: x14 :: x15 :: x16 :: x17 :: x18 :: x19 :: x20 :: some d :: ρ := rfl
theorem st_no21 {x0 x1 x2 x3 x4 x5 x6 x7 x8 x9 x10 x11 x12 x13 x14 x15 x16 x17 x18 x19 x20 x21 : Option D}  : (x0 :: x1 :: x2 :: x3 :: x4 :: x5 :: x6 :: x7 :: x8 :: x9 :: x10 :: x11 :: x12 :: x13 :: x14 :: x15 :: x16 :: x17 :: x18 :: x19 :: x20 :: x21 :: ρ).set 21 none = x0 :: x1 :: x2 :: x3 :: x4 :: x5 :: x6 :: x7 :: x8 :: x9 :: x10 :: x11 :: x12 :: x13 :: x14 :: x15 :: x16 :: x17 :: x18 :: x19 :: x20 :: none :: ρ := rfl
theorem st_nm22 {x0 x1 x2 x3 x4 x5 x6 x7 x8 x9 x10 x11 x12 x13 x14 x15 x16 x17 x18 x19 x20 x21 x22 : Option D} {d : D} {P : Rho → Prop} : (∃ ρ1, setT (.nm 22) d (x0 :: x1 :: x2 :: x3 :: x4 :: x5 :: x6 :: x7 :: x8 :: x9 :: x10 :: x11 :: x12 :: x13 :: x14 :: x15 :: x16 :: x17 :: x18 :: x19 :: x20 :: x21 :: x22 :: ρ) = some ρ1 ∧ P ρ1) = P (x0 :: x1 :: x2 :: x3 :: x4 :: x5 :: x6 :: x7 :: x8 :: x9 :: x10 :: x11 :: x12 :: x13 :: x14 :: x15 :: x16 :: x17 :: x18 :: x19 :: x20 :: x21 :: some d :: ρ) := propext ⟨fun ⟨_, e, h⟩ => by cases e; exact h, fun h => ⟨_, rfl, h⟩⟩
theorem st_ts22 {x0 x1 x2 x3 x4 x5 x6 x7 x8 x9 x10 x11 x12 x13 x14 x15 x16 x17 x18 x19 x20 x21 x22 : Option D} {d : D} {ts : List Tg} {ds : List D} {P : Rho → Prop} : (∃ ρ1, setTs (.nm 22 :: ts) (d :: ds) (x0 :: x1 :: x2 :: x3 :: x4 :: x5 :: x6 :: x7 :: x8 :: x9 :: x10 :: x11 :: x12 :: x13 :: x14 :: x15 :: x16 :: x17 :: x18 :: x19 :: x20 :: x21 :: x22 :: ρ) = some ρ1 ∧ P ρ1) = (∃ ρ1, setTs ts ds (x0 :: x1 :: x2 :: x3 :: x4 :: x5 :: x6 :: x7 :: x8 :: x9 :: x10 :: x11 :: x12 :: x13 :: x14 :: x15 :: x16 :: x17 :: x18 :: x19 :: x20 :: x21 :: some d :: ρ) = some ρ1 ∧ P ρ1) := by rw [setTs_cons]; rfl
theorem st_ro22 {x0 x1 x2 x3 x4 x5 x6 x7 x8 x9 x10 x11 x12 x13 x14 x15 x16 x17 x18 x19 x20 x21 x22 : Option D} {d : D} : (x0 :: x1 :: x2 :: x3 :: x4 :: x5 :: x6 :: x7 :: x8 :: x9 :: x10 :: x11 :: x12 :: x13 :: x14 :: x15 :: x16 :: x17 :: x18 :: x19 :: x20 :: x21 :: x22 :: ρ).set 22 (some d) = x0 :: x1 :: x2 :: x3 :: x4 :: x5 :: x6 :: x7 :: x8 :: x9 :: x10 :: x11 :: x12 :: x13 :: x14 :: x15 :: x16 :: x17 :: x18 :: x19 :: x20 :: x21 :: some d :: ρ := rfl
theorem st_no22 {x0 x1 x2 x3 x4 x5 x6 x7 x8 x9 x10 x11 x12 x13 x14 x15 x16 x17 x18 x19 x20 x21 x22 : Option D}  : (x0 :: x1 :: x2 :: x3 :: x4 :: x5 :: x6 :: x7 :: x8 :: x9 :: x10 :: x11 :: x12 :: x13 :: x14 :: x15 :: x16 :: x17 :: x18 :: x19 :: x20 :: x21 :: x22 :: ρ).set 22 none = x0 :: x1 :: x2 :: x3 :: x4 :: x5 :: x6 :: x7 :: x8 :: x9 :: x10 :: x11 :: x12 :: x13 :: x14 :: x15 :: x16 :: x17 :: x18 :: x19 :: x20 :: x21 :: none :: ρ := rfl
theorem st_nm23 {x0 x1 x2 x3 x4 x5 x6 x7 x8 x9 x10 x11 x12 x13 x14 x15 x16 x17 x18 x19 x20 x21 x22 x23 : Option D} {d : D} {P : Rho → Prop} : (∃ ρ1, setT (.nm 23) d (x0 :: x1 :: x2 :: x3 :: x4 :: x5 :: x6 :: x7 :: x8 :: x9 :: x10 :: x11 :: x12 :: x13 :: x14 :: x15 :: x16 :: x17 :: x18 :: x19 :: x20 :: x21 :: x22 :: x23 :: ρ) = some ρ1 ∧ P ρ1) = P (x0 :: x1 :: x2 :: x3 :: x4 :: x5 :: x6 :: x7 :: x8 :: x9 :: x10 :: x11 :: x12 :: x13 :: x14 :: x15 :: x16 :: x17 :: x18 :: x19 :: x20 :: x21 :: x22 :: some d :: ρ) := propext ⟨fun ⟨_, e, h⟩ => by cases e; exact h, fun h => ⟨_, rfl, h⟩⟩
theorem st_ts23 {x0 x1 x2 x3 x4 x5 x6 x7 x8 x9 x10 x11 x12 x13 x14 x15 x16 x17 x18 x19 x20 x21 x22 x23 : Option D} {d : D} {ts : List Tg} {ds : List D} {P : Rho → Prop} : (∃ ρ1, setTs (.nm 23 :: ts) (d :: ds) (x0 :: x1 :: x2 :: x3 :: x4 :: x5 :: x6 :: x7 :: x8 :: x9 :: x10 :: x11 :: x12 :: x13 :: x14 :: x15 :: x16 :: x17 :: x18 :: x19 :: x20 :: x21 :: x22 :: x23 :: ρ) = some ρ1 ∧ P ρ1) = (∃ ρ1, setTs ts ds (x0 :: x1 :: x2 :: x3 :: x4 :: x5 :: x6 :: x7 :: x8 :: x9 :: x10 :: x11 :: x12 :: x13 :: x14 :: x15 :: x16 :: x17 :: x18 :: x19 :: x20 :: x21 :: x22 :: some d :: ρ) = some ρ1 ∧ P ρ1) := by rw [setTs_cons]; rfl
theorem st_ro23 {x0 x1 x2 x3 x4 x5 x6 x7 x8 x9 x10 x11 x12 x13 x14 x15 x16 x17 x18 x19 x20 x21 x22 x23 : Option D} {d : D} : (x0 :: x1 :: x2 :: x3 :: x4 :: x5 :: x6 :: x7 :: x8 :: x9 :: x10 :: x11 :: x12 :: x13 :: x14 :: x15 :: x16 :: x17 :: x18 :: x19 :: x20 :: x21 :: x22 :: x23 :: ρ).set 23 (some d) = x0 :: x1 :: x2 :: x3 :: x4 :: x5 :: x6 :: x7 :: x8 :: x9 :: x10 :: x11 :: x12 :: x13 :: x14 :: x15 :: x16 :: x17 :: x18 :: x19 :: x20 :: x21 :: x22 :: some d :: ρ := rfl
theorem st_no23 {x0 x1 x2 x3 x4 x5 x6 x7 x8 x9 x10 x11 x12 x13 x14 x15 x16 x17 x18 x19 x20 x21 x22 x23 : Option D}  : (x0 :: x1 :: x2 :: x3 :: x4 :: x5 :: x6 :: x7 :: x8 :: x9 :: x10 :: x11 :: x12 :: x13 :: x14 :: x15 :: x16 :: x17 :: x18 :: x19 :: x20 :: x21 :: x22 :: x23 :: ρ).set 23 none = x0 :: x1 :: x2 :: x3 :: x4 :: x5 :: x6 :: x7 :: x8 :: x9 :: x10 :: x11 :: x12 :: x13 :: x14 :: x15 :: x16 :: x17 :: x18 :: x19 :: x20 :: x21 :: x22 :: none :: ρ := rfl
theorem st_tp {ts : List Tg} {P : Rho → Prop} : (∃ ρ1, setT (.tp ts) (.tup xs) ρ = some ρ1 ∧ P ρ1) = (∃ ρ1, setTs ts xs ρ = some ρ1 ∧ P ρ1) := rfl
theorem st_nil {P : Rho → Prop} : (∃ ρ1, setTs [] [] ρ = some ρ1 ∧ P ρ1) = P ρ := propext ⟨fun ⟨_, e, h⟩ => by cases e; exact h, fun h => ⟨_, rfl, h⟩⟩
theorem bi_add_ii {m : Bool} : binR .add m (.int i) (.int j) S Q = (Q (.int (i + j)) S) := rfl
theorem bi_add_ss {m : Bool} : binR .add m (.str s) (.str t) S Q = (s.length + t.length ≤ LIM ∧ Q (.str (s ++ t)) S) := rfl
theorem bi_add_tt {m : Bool} : binR .add m (.tup xs) (.tup ys) S Q = (xs.length + ys.length ≤ sizeLine ∧ Q (.tup (xs ++ ys)) S) := rfl
theorem bi_add_ll {m : Bool} : binR .add m (.lst xs) (.lst ys) S Q = (xs.length + ys.length ≤ sizeLine ∧ newL m (xs ++ ys) S Q) := propext ⟨fun ⟨_, _, e, e2, h1, h⟩ => by cases e; cases e2; exact ⟨h1, h⟩, fun ⟨h1, h⟩ => ⟨_, _, rfl, rfl, h1, h⟩⟩
theorem bi_add_rl {m : Bool} {p : Addr} : binR .add m (.ref p) (.lst ys) (supd S p (.lst xs)) Q = (xs.length + ys.length ≤ sizeLine ∧ newL m (xs ++ ys) (supd S p (.lst xs)) Q) := propext ⟨fun ⟨_, _, e, e2, h1, h⟩ => by rw [listD_supd] at e; cases e; cases e2; exact ⟨h1, h⟩, fun ⟨h1, h⟩ => ⟨_, _, listD_supd, rfl, h1, h⟩⟩
theorem bi_sub {m : Bool} : binR .sub m (.int i) (.int j) S Q = (Q (.int (i - j)) S) := rfl
theorem bi_mul_ii {m : Bool} : binR .mul m (.int i) (.int j) S Q = (CMul i j ∧ Q (.int (i * j)) S) := rfl
theorem bi_mul_ti {m : Bool} : binR .mul m (.tup xs) (.int j) S Q = (xs ≠ [] ∧ 2 ≤ j ∧ j ≤ 1000 ∧ xs.length ≤ 1000 ∧ Q (.tup (List.replicate j.toNat xs).flatten) S) := rfl
theorem bi_mul_li {m : Bool} : binR .mul m (.lst xs) (.int j) S Q = (-(2 ^ 20) < j ∧ j < 2 ^ 20 ∧ xs.length * j.toNat ≤ sizeLine ∧ newL m (List.replicate j.toNat xs).flatten S Q) := propext ⟨fun ⟨_, e, h⟩ => by cases e; exact h, fun h => ⟨_, rfl, h⟩⟩
theorem bi_fdiv {m : Bool} : binR .fdiv m (.int i) (.int j) S Q = (0 < j ∧ j < 10000000000000000000000000000000000000000 ∧ Q (.int (i / j)) S) := rfl
theorem bi_mod {m : Bool} : binR .mod m (.int i) (.int j) S Q = (0 < j ∧ Q (.int (i % j)) S) := rfl
theorem bi_pow {m : Bool} : binR .pow m (.int i) (.int j) S Q = (CPow i j ∧ Q (.int (i ^ j.toNat)) S) := rfl
theorem ixt_0 {x0 : D} : idxR (.tup (x0 :: xs)) (.int 0) S Q = (Q x0 S) := ix_tup (atI_nat (j := 0) rfl)
theorem ixl_0 {x0 : D} : idxR (.lst (x0 :: xs)) (.int 0) S Q = (Q x0 S) := ix_lst (atI_nat (j := 0) rfl)
theorem ixc_0 {x0 : D} : idxR (.scr (x0 :: xs)) (.int 0) S Q = (Q x0 S) := ix_scr (atI_nat (j := 0) rfl)
theorem ixr_0 {x0 : D} {p : Addr} : idxR (.ref p) (.int 0) (supd S p (.lst (x0 :: xs))) Q = (Q x0 (supd S p (.lst (x0 :: xs)))) := ix_ref (atI_nat (j := 0) rfl)
theorem ixs_0 {x0 : Nat} : idxR (.str (x0 :: s)) (.int 0) S Q = (Q (.str [x0]) S) := ix_str (atI_nat (j := 0) rfl)
theorem se_0 {x0 : D} {p : Addr} {N : Sto → Prop} : setR (.ref p) (.int 0) v (supd S p (.lst (x0 :: xs))) N = (N (supd S p (.lst (v :: xs)))) := propext ⟨fun ⟨q, ys, j, e1, e2, e3, h⟩ => by cases e1; rw [supd_at] at e2; cases e2; cases (show ixN _ (0 : Int) = some 0 from ix_lit (k := 0) (by simp only [List.length_cons]; omega)).symm.trans e3; rw [supd_supd] at h; exact h, fun h => ⟨p, _, 0, rfl, supd_at, ix_lit (k := 0) (by simp only [List.length_cons]; omega), by rw [supd_supd]; exact h⟩⟩
theorem ixt_1 {x0 x1 : D} : idxR (.tup (x0 :: x1 :: xs)) (.int 1) S Q = (Q x1 S) := ix_tup (atI_nat (j := 1) rfl)
theorem ixl_1 {x0 x1 : D} : idxR (.lst (x0 :: x1 :: xs)) (.int 1) S Q = (Q x1 S) := ix_lst (atI_nat (j := 1) rfl)
theorem ixc_1 {x0 x1 : D} : idxR (.scr (x0 :: x1 :: xs)) (.int 1) S Q = (Q x1 S) := ix_scr (atI_nat (j := 1) rfl)
theorem ixr_1 {x0 x1 : D} {p : Addr} : idxR (.ref p) (.int 1) (supd S p (.lst (x0 :: x1 :: xs))) Q = (Q x1 (supd S p (.lst (x0 :: x1 :: xs)))) := ix_ref (atI_nat (j := 1) rfl)
theorem ixs_1 {x0 x1 : Nat} : idxR (.str (x0 :: x1 :: s)) (.int 1) S Q = (Q (.str [x1]) S) := ix_str (atI_nat (j := 1) rfl)
theorem se_1 {x0 x1 : D} {p : Addr} {N : Sto → Prop} : setR (.ref p) (.int 1) v (supd S p (.lst (x0 :: x1 :: xs))) N = (N (supd S p (.lst (x0 :: v :: xs)))) := propext ⟨fun ⟨q, ys, j, e1, e2, e3, h⟩ => by cases e1; rw [supd_at] at e2; cases e2; cases (show ixN _ (1 : Int) = some 1 from ix_lit (k := 1) (by simp only [List.length_cons]; omega)).symm.trans e3; rw [supd_supd] at h; exact h, fun h => ⟨p, _, 1, rfl, supd_at, ix_lit (k := 1) (by simp only [List.length_cons]; omega), by rw [supd_supd]; exact h⟩⟩
theorem ixt_2 {x0 x1 x2 : D} : idxR (.tup (x0 :: x1 :: x2 :: xs)) (.int 2) S Q = (Q x2 S) := ix_tup (atI_nat (j := 2) rfl)
theorem ixl_2 {x0 x1 x2 : D} : idxR (.lst (x0 :: x1 :: x2 :: xs)) (.int 2) S Q = (Q x2 S) := ix_lst (atI_nat (j := 2) rfl)
theorem ixc_2 {x0 x1 x2 : D} : idxR (.scr (x0 :: x1 :: x2 :: xs)) (.int 2) S Q = (Q x2 S) := ix_scr (atI_nat (j := 2) rfl)
theorem ixr_2 {x0 x1 x2 : D} {p : Addr} : idxR (.ref p) (.int 2) (supd S p (.lst (x0 :: x1 :: x2 :: xs))) Q = (Q x2 (supd S p (.lst (x0 :: x1 :: x2 :: xs)))) := ix_ref (atI_nat (j := 2) rfl)
theorem ixs_2 {x0 x1 x2 : Nat} : idxR (.str (x0 :: x1 :: x2 :: s)) (.int 2) S Q = (Q (.str [x2]) S) := ix_str (atI_nat (j := 2) rfl)
theorem se_2 {x0 x1 x2 : D} {p : Addr} {N : Sto → Prop} : setR (.ref p) (.int 2) v (supd S p (.lst (x0 :: x1 :: x2 :: xs))) N = (N (supd S p (.lst (x0 :: x1 :: v :: xs)))) := propext ⟨fun ⟨q, ys, j, e1, e2, e3, h⟩ => by cases e1; rw [supd_at] at e2; cases e2; cases (show ixN _ (2 : Int) = some 2 from ix_lit (k := 2) (by simp only [List.length_cons]; omega)).symm.trans e3; rw [supd_supd] at h; exact h, fun h => ⟨p, _, 2, rfl, supd_at, ix_lit (k := 2) (by simp only [List.length_cons]; omega), by rw [supd_supd]; exact h⟩⟩
theorem ixt_3 {x0 x1 x2 x3 : D} : idxR (.tup (x0 :: x1 :: x2 :: x3 :: xs)) (.int 3) S Q = (Q x3 S) := ix_tup (atI_nat (j := 3) rfl)
theorem ixl_3 {x0 x1 x2 x3 : D} : idxR (.lst (x0 :: x1 :: x2 :: x3 :: xs)) (.int 3) S Q = (Q x3 S) := ix_lst (atI_nat (j := 3) rfl)
theorem ixc_3 {x0 x1 x2 x3 : D} : idxR (.scr (x0 :: x1 :: x2 :: x3 :: xs)) (.int 3) S Q = (Q x3 S) := ix_scr (atI_nat (j := 3) rfl)
theorem ixr_3 {x0 x1 x2 x3 : D} {p : Addr} : idxR (.ref p) (.int 3) (supd S p (.lst (x0 :: x1 :: x2 :: x3 :: xs))) Q = (Q x3 (supd S p (.lst (x0 :: x1 :: x2 :: x3 :: xs)))) := ix_ref (atI_nat (j := 3) rfl)
theorem ixs_3 {x0 x1 x2 x3 : Nat} : idxR (.str (x0 :: x1 :: x2 :: x3 :: s)) (.int 3) S Q = (Q (.str [x3]) S) := ix_str (atI_nat (j := 3) rfl)
theorem se_3 {x0 x1 x2 x3 : D} {p : Addr} {N : Sto → Prop} : setR (.ref p) (.int 3) v (supd S p (.lst (x0 :: x1 :: x2 :: x3 :: xs))) N = (N (supd S p (.lst (x0 :: x1 :: x2 :: v :: xs)))) := propext ⟨fun ⟨q, ys, j, e1, e2, e3, h⟩ => by cases e1; rw [supd_at] at e2; cases e2; cases (show ixN _ (3 : Int) = some 3 from ix_lit (k := 3) (by simp only [List.length_cons]; omega)).symm.trans e3; rw [supd_supd] at h; exact h, fun h => ⟨p, _, 3, rfl, supd_at, ix_lit (k := 3) (by simp only [List.length_cons]; omega), by rw [supd_supd]; exact h⟩⟩
theorem ixt_4 {x0 x1 x2 x3 x4 : D} : idxR (.tup (x0 :: x1 :: x2 :: x3 :: x4 :: xs)) (.int 4) S Q = (Q x4 S) := ix_tup (atI_nat (j := 4) rfl)
theorem ixl_4 {x0 x1 x2 x3 x4 : D} : idxR (.lst (x0 :: x1 :: x2 :: x3 :: x4 :: xs)) (.int 4) S Q = (Q x4 S) := ix_lst (atI_nat (j := 4) rfl)
theorem ixc_4 {x0 x1 x2 x3 x4 : D} : idxR (.scr (x0 :: x1 :: x2 :: x3 :: x4 :: xs)) (.int 4) S Q = (Q x4 S) := ix_scr (atI_nat (j := 4) rfl)
theorem ixr_4 {x0 x1 x2 x3 x4 : D} {p : Addr} : idxR (.ref p) (.int 4) (supd S p (.lst (x0 :: x1 :: x2 :: x3 :: x4 :: xs))) Q = (Q x4 (supd S p (.lst (x0 :: x1 :: x2 :: x3 :: x4 :: xs)))) := ix_ref (atI_nat (j := 4) rfl)
theorem ixs_4 {x0 x1 x2 x3 x4 : Nat} : idxR (.str (x0 :: x1 :: x2 :: x3 :: x4 :: s)) (.int 4) S Q = (Q (.str [x4]) S) := ix_str (atI_nat (j := 4) rfl)
theorem se_4 {x0 x1 x2 x3 x4 : D} {p : Addr} {N : Sto → Prop} : setR (.ref p) (.int 4) v (supd S p (.lst (x0 :: x1 :: x2 :: x3 :: x4 :: xs))) N = (N (supd S p (.lst (x0 :: x1 :: x2 :: x3 :: v :: xs)))) := propext ⟨fun ⟨q, ys, j, e1, e2, e3, h⟩ => by cases e1; rw [supd_at] at e2; cases e2; cases (show ixN _ (4 : Int) = some 4 from ix_lit (k := 4) (by simp only [List.length_cons]; omega)).symm.trans e3; rw [supd_supd] at h; exact h, fun h => ⟨p, _, 4, rfl, supd_at, ix_lit (k := 4) (by simp only [List.length_cons]; omega), by rw [supd_supd]; exact h⟩⟩
theorem ixt_5 {x0 x1 x2 x3 x4 x5 : D} : idxR (.tup (x0 :: x1 :: x2 :: x3 :: x4 :: x5 :: xs)) (.int 5) S Q = (Q x5 S) := ix_tup (atI_nat (j := 5) rfl)
theorem ixl_5 {x0 x1 x2 x3 x4 x5 : D} : idxR (.lst (x0 :: x1 :: x2 :: x3 :: x4 :: x5 :: xs)) (.int 5) S Q = (Q x5 S) := ix_lst (atI_nat (j := 5) rfl)
theorem ixc_5 {x0 x1 x2 x3 x4 x5 : D} : idxR (.scr (x0 :: x1 :: x2 :: x3 :: x4 :: x5 :: xs)) (.int 5) S Q = (Q x5 S) := ix_scr (atI_nat (j := 5) rfl)
theorem ixr_5 {x0 x1 x2 x3 x4 x5 : D} {p : Addr} : idxR (.ref p) (.int 5) (supd S p (.lst (x0 :: x1 :: x2 :: x3 :: x4 :: x5 :: xs))) Q = (Q x5 (supd S p (.lst (x0 :: x1 :: x2 :: x3 :: x4 :: x5 :: xs)))) := ix_ref (atI_nat (j := 5) rfl)
theorem ixs_5 {x0 x1 x2 x3 x4 x5 : Nat} : idxR (.str (x0 :: x1 :: x2 :: x3 :: x4 :: x5 :: s)) (.int 5) S Q = (Q (.str [x5]) S) := ix_str (atI_nat (j := 5) rfl)
theorem se_5 {x0 x1 x2 x3 x4 x5 : D} {p : Addr} {N : Sto → Prop} : setR (.ref p) (.int 5) v (supd S p (.lst (x0 :: x1 :: x2 :: x3 :: x4 :: x5 :: xs))) N = (N (supd S p (.lst (x0 :: x1 :: x2 :: x3 :: x4 :: v :: xs)))) := propext ⟨fun ⟨q, ys, j, e1, e2, e3, h⟩ => by cases e1; rw [supd_at] at e2; cases e2; cases (show ixN _ (5 : Int) = some 5 from ix_lit (k := 5) (by simp only [List.length_cons]; omega)).symm.trans e3; rw [supd_supd] at h; exact h, fun h => ⟨p, _, 5, rfl, supd_at, ix_lit (k := 5) (by simp only [List.length_cons]; omega), by rw [supd_supd]; exact h⟩⟩
theorem ixt_6 {x0 x1 x2 x3 x4 x5 x6 : D} : idxR (.tup (x0 :: x1 :: x2 :: x3 :: x4 :: x5 :: x6 :: xs)) (.int 6) S Q = (Q x6 S) := ix_tup (atI_nat (j := 6) rfl)
theorem ixl_6 {x0 x1 x2 x3 x4 x5 x6 : D} : idxR (.lst (x0 :: x1 :: x2 :: x3 :: x4 :: x5 :: x6 :: xs)) (.int 6) S Q = (Q x6 S) := ix_lst (atI_nat (j := 6) rfl)
theorem ixc_6 {x0 x1 x2 x3 x4 x5 x6 : D} : idxR (.scr (x0 :: x1 :: x2 :: x3 :: x4 :: x5 :: x6 :: xs)) (.int 6) S Q = (Q x6 S) := ix_scr (atI_nat (j := 6) rfl)
theorem ixr_6 {x0 x1 x2 x3 x4 x5 x6 : D} {p : Addr} : idxR (.ref p) (.int 6) (supd S p (.lst (x0 :: x1 :: x2 :: x3 :: x4 :: x5 :: x6 :: xs))) Q = (Q x6 (supd S p (.lst (x0 :: x1 :: x2 :: x3 :: x4 :: x5 :: x6 :: xs)))) := ix_ref (atI_nat (j := 6) rfl)
theorem ixs_6 {x0 x1 x2 x3 x4 x5 x6 : Nat} : idxR (.str (x0 :: x1 :: x2 :: x3 :: x4 :: x5 :: x6 :: s)) (.int 6) S Q = (Q (.str [x6]) S) := ix_str (atI_nat (j := 6) rfl)
theorem se_6 {x0 x1 x2 x3 x4 x5 x6 : D} {p : Addr} {N : Sto → Prop} : setR (.ref p) (.int 6) v (supd S p (.lst (x0 :: x1 :: x2 :: x3 :: x4 :: x5 :: x6 :: xs))) N = (N (supd S p (.lst (x0 :: x1 :: x2 :: x3 :: x4 :: x5 :: v :: xs)))) := propext ⟨fun ⟨q, ys, j, e1, e2, e3, h⟩ => by cases e1; rw [supd_at] at e2; cases e2; cases (show ixN _ (6 : Int) = some 6 from ix_lit (k := 6) (by simp only [List.length_cons]; omega)).symm.trans e3; rw [supd_supd] at h; exact h, fun h => ⟨p, _, 6, rfl, supd_at, ix_lit (k := 6) (by simp only [List.length_cons]; omega), by rw [supd_supd]; exact h⟩⟩
theorem ixt_7 {x0 x1 x2 x3 x4 x5 x6 x7 : D} : idxR (.tup (x0 :: x1 :: x2 :: x3 :: x4 :: x5 :: x6 :: x7 :: xs)) (.int 7) S Q = (Q x7 S) := ix_tup (atI_nat (j := 7) rfl)
theorem ixl_7 {x0 x1 x2 x3 x4 x5 x6 x7 : D} : idxR (.lst (x0 :: x1 :: x2 :: x3 :: x4 :: x5 :: x6 :: x7 :: xs)) (.int 7) S Q = (Q x7 S) := ix_lst (atI_nat (j := 7) rfl)
theorem ixc_7 {x0 x1 x2 x3 x4 x5 x6 x7 : D} : idxR (.scr (x0 :: x1 :: x2 :: x3 :: x4 :: x5 :: x6 :: x7 :: xs)) (.int 7) S Q = (Q x7 S) := ix_scr (atI_nat (j := 7) rfl)
theorem ixr_7 {x0 x1 x2 x3 x4 x5 x6 x7 : D} {p : Addr} : idxR (.ref p) (.int 7) (supd S p (.lst (x0 :: x1 :: x2 :: x3 :: x4 :: x5 :: x6 :: x7 :: xs))) Q = (Q x7 (supd S p (.lst (x0 :: x1 :: x2 :: x3 :: x4 :: x5 :: x6 :: x7 :: xs)))) := ix_ref (atI_nat (j := 7) rfl)
theorem ixs_7 {x0 x1 x2 x3 x4 x5 x6 x7 : Nat} : idxR (.str (x0 :: x1 :: x2 :: x3 :: x4 :: x5 :: x6 :: x7 :: s)) (.int 7) S Q = (Q (.str [x7]) S) := ix_str (atI_nat (j := 7) rfl)
theorem se_7 {x0 x1 x2 x3 x4 x5 x6 x7 : D} {p : Addr} {N : Sto → Prop} : setR (.ref p) (.int 7) v (supd S p (.lst (x0 :: x1 :: x2 :: x3 :: x4 :: x5 :: x6 :: x7 :: xs))) N = (N (supd S p (.lst (x0 :: x1 :: x2 :: x3 :: x4 :: x5 :: x6 :: v :: xs)))) := propext ⟨fun ⟨q, ys, j, e1, e2, e3, h⟩ => by cases e1; rw [supd_at] at e2; cases e2; cases (show ixN _ (7 : Int) = some 7 from ix_lit (k := 7) (by simp only [List.length_cons]; omega)).symm.trans e3; rw [supd_supd] at h; exact h, fun h => ⟨p, _, 7, rfl, supd_at, ix_lit (k := 7) (by simp only [List.length_cons]; omega), by rw [supd_supd]; exact h⟩⟩
theorem ixt_8 {x0 x1 x2 x3 x4 x5 x6 x7 x8 : D} : idxR (.tup (x0 :: x1 :: x2 :: x3 :: x4 :: x5 :: x6 :: x7 :: x8 :: xs)) (.int 8) S Q = (Q x8 S) := ix_tup (atI_nat (j := 8) rfl)
theorem ixl_8 {x0 x1 x2 x3 x4 x5 x6 x7 x8 : D} : idxR (.lst (x0 :: x1 :: x2 :: x3 :: x4 :: x5 :: x6 :: x7 :: x8 :: xs)) (.int 8) S Q = (Q x8 S) := ix_lst (atI_nat (j := 8) rfl)
theorem ixc_8 {x0 x1 x2 x3 x4 x5 x6 x7 x8 : D} : idxR (.scr (x0 :: x1 :: x2 :: x3 :: x4 :: x5 :: x6 :: x7 :: x8 :: xs)) (.int 8) S Q = (Q x8 S) := ix_scr (atI_nat (j := 8) rfl)
theorem ixr_8 {x0 x1 x2 x3 x4 x5 x6 x7 x8 : D} {p : Addr} : idxR (.ref p) (.int 8) (supd S p (.lst (x0 :: x1 :: x2 :: x3 :: x4 :: x5 :: x6 :: x7 :: x8 :: xs))) Q = (Q x8 (supd S p (.lst (x0 :: x1 :: x2 :: x3 :: x4 :: x5 :: x6 :: x7 :: x8 :: xs)))) := ix_ref (atI_nat (j := 8) rfl)
theorem ixs_8 {x0 x1 x2 x3 x4 x5 x6 x7 x8 : Nat} : idxR (.str (x0 :: x1 :: x2 :: x3 :: x4 :: x5 :: x6 :: x7 :: x8 :: s)) (.int 8) S Q = (Q (.str [x8]) S) := ix_str (atI_nat (j := 8) rfl)
theorem se_8 {x0 x1 x2 x3 x4 x5 x6 x7 x8 : D} {p : Addr} {N : Sto → Prop} : setR (.ref p) (.int 8) v (supd S p (.lst (x0 :: x1 :: x2 :: x3 :: x4 :: x5 :: x6 :: x7 :: x8 :: xs))) N = (N (supd S p (.lst (x0 :: x1 :: x2 :: x3 :: x4 :: x5 :: x6 :: x7 :: v :: xs)))) := propext ⟨fun ⟨q, ys, j, e1, e2, e3, h⟩ => by cases e1; rw [supd_at] at e2; cases e2; cases (show ixN _ (8 : Int) = some 8 from ix_lit (k := 8) (by simp only [List.length_cons]; omega)).symm.trans e3; rw [supd_supd] at h; exact h, fun h => ⟨p, _, 8, rfl, supd_at, ix_lit (k := 8) (by simp only [List.length_cons]; omega), by rw [supd_supd]; exact h⟩⟩
theorem ixt_9 {x0 x1 x2 x3 x4 x5 x6 x7 x8 x9 : D} : idxR (.tup (x0 :: x1 :: x2 :: x3 :: x4 :: x5 :: x6 :: x7 :: x8 :: x9 :: xs)) (.int 9) S Q = (Q x9 S) := ix_tup (atI_nat (j := 9) rfl)
theorem ixl_9 {x0 x1 x2 x3 x4 x5 x6 x7 x8 x9 : D} : idxR (.lst (x0 :: x1 :: x2 :: x3 :: x4 :: x5 :: x6 :: x7 :: x8 :: x9 :: xs)) (.int 9) S Q = (Q x9 S) := ix_lst (atI_nat (j := 9) rfl)
theorem ixc_9 {x0 x1 x2 x3 x4 x5 x6 x7 x8 x9 : D} : idxR (.scr (x0 :: x1 :: x2 :: x3 :: x4 :: x5 :: x6 :: x7 :: x8 :: x9 :: xs)) (.int 9) S Q = (Q x9 S) := ix_scr (atI_nat (j := 9) rfl)
theorem ixr_9 {x0 x1 x2 x3 x4 x5 x6 x7 x8 x9 : D} {p : Addr} : idxR (.ref p) (.int 9) (supd S p (.lst (x0 :: x1 :: x2 :: x3 :: x4 :: x5 :: x6 :: x7 :: x8 :: x9 :: xs))) Q = (Q x9 (supd S p (.lst (x0 :: x1 :: x2 :: x3 :: x4 :: x5 :: x6 :: x7 :: x8 :: x9 :: xs)))) := ix_ref (atI_nat (j := 9) rfl)
theorem ixs_9 {x0 x1 x2 x3 x4 x5 x6 x7 x8 x9 : Nat} : idxR (.str (x0 :: x1 :: x2 :: x3 :: x4 :: x5 :: x6 :: x7 :: x8 :: x9 :: s)) (.int 9) S Q = (Q (.str [x9]) S) := ix_str (atI_nat (j := 9) rfl)
theorem se_9 {x0 x1 x2 x3 x4 x5 x6 x7 x8 x9 : D} {p : Addr} {N : Sto → Prop} : setR (.ref p) (.int 9) v (supd S p (.lst (x0 :: x1 :: x2 :: x3 :: x4 :: x5 :: x6 :: x7 :: x8 :: x9 :: xs))) N = (N (supd S p (.lst (x0 :: x1 :: x2 :: x3 :: x4 :: x5 :: x6 :: x7 :: x8 :: v :: xs)))) := propext ⟨fun ⟨q, ys, j, e1, e2, e3, h⟩ => by cases e1; rw [supd_at] at e2; cases e2; cases (show ixN _ (9 : Int) = some 9 from ix_lit (k := 9) (by simp only [List.length_cons]; omega)).symm.trans e3; rw [supd_supd] at h; exact h, fun h => ⟨p, _, 9, rfl, supd_at, ix_lit (k := 9) (by simp only [List.length_cons]; omega), by rw [supd_supd]; exact h⟩⟩
theorem ixt_10 {x0 x1 x2 x3 x4 x5 x6 x7 x8 x9 x10 : D} : idxR (.tup (x0 :: x1 :: x2 :: x3 :: x4 :: x5 :: x6 :: x7 :: x8 :: x9 :: x10 :: xs)) (.int 10) S Q = (Q x10 S) := ix_tup (atI_nat (j := 10) rfl)
theorem ixl_10 {x0 x1 x2 x3 x4 x5 x6 x7 x8 x9 x10 : D} : idxR (.lst (x0 :: x1 :: x2 :: x3 :: x4 :: x5 :: x6 :: x7 :: x8 :: x9 :: x10 :: xs)) (.int 10) S Q = (Q x10 S) := ix_lst (atI_nat (j := 10) rfl)
theorem ixc_10 {x0 x1 x2 x3 x4 x5 x6 x7 x8 x9 x10 : D} : idxR (.scr (x0 :: x1 :: x2 :: x3 :: x4 :: x5 :: x6 :: x7 :: x8 :: x9 :: x10 :: xs)) (.int 10) S Q = (Q x10 S) := ix_scr (atI_nat (j := 10) rfl)
theorem ixr_10 {x0 x1 x2 x3 x4 x5 x6 x7 x8 x9 x10 : D} {p : Addr} : idxR (.ref p) (.int 10) (supd S p (.lst (x0 :: x1 :: x2 :: x3 :: x4 :: x5 :: x6 :: x7 :: x8 :: x9 :: x10 :: xs))) Q = (Q x10 (supd S p (.lst (x0 :: x1 :: x2 :: x3 :: x4 :: x5 :: x6 :: x7 :: x8 :: x9 :: x10 :: xs)))) := ix_ref (atI_nat (j := 10) rfl)
theorem ixs_10 {x0 x1 x2 x3 x4 x5 x6 x7 x8 x9 x10 : Nat} : idxR (.str (x0 :: x1 :: x2 :: x3 :: x4 :: x5 :: x6 :: x7 :: x8 :: x9 :: x10 :: s)) (.int 10) S Q = (Q (.str [x10]) S) := ix_str (atI_nat (j := 10) rfl)
theorem se_10 {x0 x1 x2 x3 x4 x5 x6 x7 x8 x9 x10 : D} {p : Addr} {N : Sto → Prop} : setR (.ref p) (.int 10) v (supd S p (.lst (x0 :: x1 :: x2 :: x3 :: x4 :: x5 :: x6 :: x7 :: x8 :: x9 :: x10 :: xs))) N = (N (supd S p (.lst (x0 :: x1 :: x2 :: x3 :: x4 :: x5 :: x6 :: x7 :: x8 :: x9 :: v :: xs)))) := propext ⟨fun ⟨q, ys, j, e1, e2, e3, h⟩ => by cases e1; rw [supd_at] at e2; cases e2; cases (show ixN _ (10 : Int) = some 10 from ix_lit (k := 10) (by simp only [List.length_cons]; omega)).symm.trans e3; rw [supd_supd] at h; exact h, fun h => ⟨p, _, 10, rfl, supd_at, ix_lit (k := 10) (by simp only [List.length_cons]; omega), by rw [supd_supd]; exact h⟩⟩
theorem ixt_11 {x0 x1 x2 x3 x4 x5 x6 x7 x8 x9 x10 x11 : D} : idxR (.tup (x0 :: x1 :: x2 :: x3 :: x4 :: x5 :: x6 :: x7 :: x8 :: x9 :: x10 :: x11 :: xs)) (.int 11) S Q = (Q x11 S) := ix_tup (atI_nat (j := 11) rfl)
theorem ixl_11 {x0 x1 x2 x3 x4 x5 x6 x7 x8 x9 x10 x11 : D} : idxR (.lst (x0 :: x1 :: x2 :: x3 :: x4 :: x5 :: x6 :: x7 :: x8 :: x9 :: x10 :: x11 :: xs)) (.int 11) S Q = (Q x11 S) := ix_lst (atI_nat (j := 11) rfl)
theorem ixc_11 {x0 x1 x2 x3 x4 x5 x6 x7 x8 x9 x10 x11 : D} : idxR (.scr (x0 :: x1 :: x2 :: x3 :: x4 :: x5 :: x6 :: x7 :: x8 :: x9 :: x10 :: x11 :: xs)) (.int 11) S Q = (Q x11 S) := ix_scr (atI_nat (j := 11) rfl)
theorem ixr_11 {x0 x1 x2 x3 x4 x5 x6 x7 x8 x9 x10 x11 : D} {p : Addr} : idxR (.ref p) (.int 11) (supd S p (.lst (x0 :: x1 :: x2 :: x3 :: x4 :: x5 :: x6 :: x7 :: x8 :: x9 :: x10 :: x11 :: xs))) Q = (Q x11 (supd S p (.lst (x0 :: x1 :: x2 :: x3 :: x4 :: x5 :: x6 :: x7 :: x8 :: x9 :: x10 :: x11 :: xs)))) := ix_ref (atI_nat (j := 11) rfl)
theorem ixs_11 {x0 x1 x2 x3 x4 x5 x6 x7 x8 x9 x10 x11 : Nat} : idxR (.str (x0 :: x1 :: x2 :: x3 :: x4 :: x5 :: x6 :: x7 :: x8 :: x9 :: x10 :: x11 :: s)) (.int 11) S Q = (Q (.str [x11]) S) := ix_str (atI_nat (j := 11) rfl)
theorem se_11 {x0 x1 x2 x3 x4 x5 x6 x7 x8 x9 x10 x11 : D} {p : Addr} {N : Sto → Prop} : setR (.ref p) (.int 11) v (supd S p (.lst (x0 :: x1 :: x2 :: x3 :: x4 :: x5 :: x6 :: x7 :: x8 :: x9 :: x10 :: x11 :: xs))) N = (N (supd S p (.lst (x0 :: x1 :: x2 :: x3 :: x4 :: x5 :: x6 :: x7 :: x8 :: x9 :: x10 :: v :: xs)))) := propext ⟨fun ⟨q, ys, j, e1, e2, e3, h⟩ => by cases e1; rw [supd_at] at e2; cases e2; cases (show ixN _ (11 : Int) = some 11 from ix_lit (k := 11) (by simp only [List.length_cons]; omega)).symm.trans e3; rw [supd_supd] at h; exact h, fun h => ⟨p, _, 11, rfl, supd_at, ix_lit (k := 11) (by simp only [List.length_cons]; omega), by rw [supd_supd]; exact h⟩⟩
theorem ixd {p : Addr} {kvs : List (KD × D)} : idxR (.ref p) (.str s) (supd S p (.dct kvs)) Q = (∃ v, valD kvs (.inr s) = some v ∧ Q v (supd S p (.dct kvs))) := propext ⟨fun ⟨q, ks, v, e1, e2, e3, h⟩ => by cases e1; rw [supd_at] at e2; cases e2; exact ⟨v, e3, h⟩, fun ⟨v, e, h⟩ => ⟨p, _, v, rfl, supd_at, e, h⟩⟩
theorem sed {p : Addr} {kvs : List (KD × D)} {N : Sto → Prop} : setR (.ref p) (.str s) v (supd S p (.dct kvs)) N = (kvs.length < sizeLine ∧ N (supd S p (.dct (putD kvs (.inr s) v)))) := propext ⟨fun ⟨q, ks, e1, e2, e3, h⟩ => by cases e1; rw [supd_at] at e2; cases e2; rw [supd_supd] at h; exact ⟨e3, h⟩, fun ⟨e, h⟩ => ⟨p, _, rfl, supd_at, e, by rw [supd_supd]; exact h⟩⟩
theorem we_nd {b : Bool} {k : Nat} {it : It} {own : List Nat} : wpE G (.nd b k it own) ρ S Q E = (wpIt G it ρ S (fun src xs S1 => Stab src xs S1 ∧ k < ρ.length ∧ xs.length < sizeLine ∧ (∀ x ∈ xs, keyB b x = true) ∧ ∀ n : Nat, n ≤ xs.length → decide (n = xs.length) = distD xs → Q (.int n) S1) E) := by simp only [wpE]
theorem we_lc2 {m : Bool} {elt : Ex} {tg tg1 : Tg} {it it1 : It} {own own1 : List Nat} : wpE G (.lc2 m elt tg it tg1 it1 own own1) ρ S Q E = (wpIt G it ρ S (fun src xs S1 => lc2W src xs tg (wipeD ρ own) (fun ρ1 S2 acc K => wpIt G it1 ρ1 S2 (fun src1 ys S3 => lcW src1 ys tg1 (wipeD ρ1 own1) (fun ρ2 S4 K2 => wpE G elt ρ2 S4 (fun y S5 => K2 (some y) S5) (fun _ _ => False)) K ys acc S3) (fun _ _ => False)) (fun ys S4 => newL m ys S4 Q) xs [] S1) E) := by simp only [wpE]
theorem we_sft0 {d : D} : wpE G (.sft 0) (some d :: ρ) S Q E = (Q (soft d) S) := by simp only [wpE, List.getElem?_cons_succ, List.getElem?_cons_zero, Option.some.injEq, exists_eq_left']
theorem we_frz0 {p : Addr} : wpE G (.frz 0) (some (.ref p) :: ρ) (supd S p (.lst ys)) Q E = (Q (.lst ys) (sdel (supd S p (.lst ys)) p)) := propext ⟨fun h => by
  simp only [wpE, List.getElem?_cons_succ, List.getElem?_cons_zero, Option.some.injEq, D.ref.injEq] at h
  obtain ⟨_, _, rfl, h1, h2⟩ := h
  rw [supd_same] at h1
  cases h1
  exact h2, fun h => by
  simp only [wpE, List.getElem?_cons_succ, List.getElem?_cons_zero, Option.some.injEq, D.ref.injEq]
  exact ⟨_, _, rfl, supd_same, h⟩⟩
theorem we_tix0 {e : Ex} : wpE G (.tix 0 e) (some (.tpx ys) :: ρ) S Q E = (wpE G e (some (.tpx ys) :: ρ) S (fun x S1 => methR .tindex (.tup ys) [x] S1 Q) E) := by simp only [wpE, List.getElem?_cons_succ, List.getElem?_cons_zero, Option.some.injEq, D.tpx.injEq, exists_eq_left']
theorem we_sft1 {x0 : Option D} {d : D} : wpE G (.sft 1) (x0 :: some d :: ρ) S Q E = (Q (soft d) S) := by simp only [wpE, List.getElem?_cons_succ, List.getElem?_cons_zero, Option.some.injEq, exists_eq_left']
theorem we_frz1 {x0 : Option D} {p : Addr} : wpE G (.frz 1) (x0 :: some (.ref p) :: ρ) (supd S p (.lst ys)) Q E = (Q (.lst ys) (sdel (supd S p (.lst ys)) p)) := propext ⟨fun h => by
  simp only [wpE, List.getElem?_cons_succ, List.getElem?_cons_zero, Option.some.injEq, D.ref.injEq] at h
  obtain ⟨_, _, rfl, h1, h2⟩ := h
  rw [supd_same] at h1
  cases h1
  exact h2, fun h => by
  simp only [wpE, List.getElem?_cons_succ, List.getElem?_cons_zero, Option.some.injEq, D.ref.injEq]
  exact ⟨_, _, rfl, supd_same, h⟩⟩
theorem we_tix1 {x0 : Option D} {e : Ex} : wpE G (.tix 1 e) (x0 :: some (.tpx ys) :: ρ) S Q E = (wpE G e (x0 :: some (.tpx ys) :: ρ) S (fun x S1 => methR .tindex (.tup ys) [x] S1 Q) E) := by simp only [wpE, List.getElem?_cons_succ, List.getElem?_cons_zero, Option.some.injEq, D.tpx.injEq, exists_eq_left']
theorem we_sft2 {x0 x1 : Option D} {d : D} : wpE G (.sft 2) (x0 :: x1 :: some d :: ρ) S Q E = (Q (soft d) S) := by simp only [wpE, List.getElem?_cons_succ, List.getElem?_cons_zero, Option.some.injEq, exists_eq_left']
theorem we_frz2 {x0 x1 : Option D} {p : Addr} : wpE G (.frz 2) (x0 :: x1 :: some (.ref p) :: ρ) (supd S p (.lst ys)) Q E = (Q (.lst ys) (sdel (supd S p (.lst ys)) p)) := propext ⟨fun h => by
  simp only [wpE, List.getElem?_cons_succ, List.getElem?_cons_zero, Option.some.injEq, D.ref.injEq] at h
  obtain ⟨_, _, rfl, h1, h2⟩ := h
  rw [supd_same] at h1
  cases h1
  exact h2, fun h => by
  simp only [wpE, List.getElem?_cons_succ, List.getElem?_cons_zero, Option.some.injEq, D.ref.injEq]
  exact ⟨_, _, rfl, supd_same, h⟩⟩
theorem we_tix2 {x0 x1 : Option D} {e : Ex} : wpE G (.tix 2 e) (x0 :: x1 :: some (.tpx ys) :: ρ) S Q E = (wpE G e (x0 :: x1 :: some (.tpx ys) :: ρ) S (fun x S1 => methR .tindex (.tup ys) [x] S1 Q) E) := by simp only [wpE, List.getElem?_cons_succ, List.getElem?_cons_zero, Option.some.injEq, D.tpx.injEq, exists_eq_left']
theorem we_sft3 {x0 x1 x2 : Option D} {d : D} : wpE G (.sft 3) (x0 :: x1 :: x2 :: some d :: ρ) S Q E = (Q (soft d) S) := by simp only [wpE, List.getElem?_cons_succ, List.getElem?_cons_zero, Option.some.injEq, exists_eq_left']
theorem we_frz3 {x0 x1 x2 : Option D} {p : Addr} : wpE G (.frz 3) (x0 :: x1 :: x2 :: some (.ref p) :: ρ) (supd S p (.lst ys)) Q E = (Q (.lst ys) (sdel (supd S p (.lst ys)) p)) := propext ⟨fun h => by
  simp only [wpE, List.getElem?_cons_succ, List.getElem?_cons_zero, Option.some.injEq, D.ref.injEq] at h
  obtain ⟨_, _, rfl, h1, h2⟩ := h
  rw [supd_same] at h1
  cases h1
  exact h2, fun h => by
  simp only [wpE, List.getElem?_cons_succ, List.getElem?_cons_zero, Option.some.injEq, D.ref.injEq]
  exact ⟨_, _, rfl, supd_same, h⟩⟩
theorem we_tix3 {x0 x1 x2 : Option D} {e : Ex} : wpE G (.tix 3 e) (x0 :: x1 :: x2 :: some (.tpx ys) :: ρ) S Q E = (wpE G e (x0 :: x1 :: x2 :: some (.tpx ys) :: ρ) S (fun x S1 => methR .tindex (.tup ys) [x] S1 Q) E) := by simp only [wpE, List.getElem?_cons_succ, List.getElem?_cons_zero, Option.some.injEq, D.tpx.injEq, exists_eq_left']
theorem we_sft4 {x0 x1 x2 x3 : Option D} {d : D} : wpE G (.sft 4) (x0 :: x1 :: x2 :: x3 :: some d :: ρ) S Q E = (Q (soft d) S) := by simp only [wpE, List.getElem?_cons_succ, List.getElem?_cons_zero, Option.some.injEq, exists_eq_left']
theorem we_frz4 {x0 x1 x2 x3 : Option D} {p : Addr} : wpE G (.frz 4) (x0 :: x1 :: x2 :: x3 :: some (.ref p) :: ρ) (supd S p (.lst ys)) Q E = (Q (.lst ys) (sdel (supd S p (.lst ys)) p)) := propext ⟨fun h => by
  simp only [wpE, List.getElem?_cons_succ, List.getElem?_cons_zero, Option.some.injEq, D.ref.injEq] at h
  obtain ⟨_, _, rfl, h1, h2⟩ := h
  rw [supd_same] at h1
  cases h1
  exact h2, fun h => by
  simp only [wpE, List.getElem?_cons_succ, List.getElem?_cons_zero, Option.some.injEq, D.ref.injEq]
  exact ⟨_, _, rfl, supd_same, h⟩⟩
theorem we_sft5 {x0 x1 x2 x3 x4 : Option D} {d : D} : wpE G (.sft 5) (x0 :: x1 :: x2 :: x3 :: x4 :: some d :: ρ) S Q E = (Q (soft d) S) := by simp only [wpE, List.getElem?_cons_succ, List.getElem?_cons_zero, Option.some.injEq, exists_eq_left']
theorem we_frz5 {x0 x1 x2 x3 x4 : Option D} {p : Addr} : wpE G (.frz 5) (x0 :: x1 :: x2 :: x3 :: x4 :: some (.ref p) :: ρ) (supd S p (.lst ys)) Q E = (Q (.lst ys) (sdel (supd S p (.lst ys)) p)) := propext ⟨fun h => by
  simp only [wpE, List.getElem?_cons_succ, List.getElem?_cons_zero, Option.some.injEq, D.ref.injEq] at h
  obtain ⟨_, _, rfl, h1, h2⟩ := h
  rw [supd_same] at h1
  cases h1
  exact h2, fun h => by
  simp only [wpE, List.getElem?_cons_succ, List.getElem?_cons_zero, Option.some.injEq, D.ref.injEq]
  exact ⟨_, _, rfl, supd_same, h⟩⟩
theorem we_sft6 {x0 x1 x2 x3 x4 x5 : Option D} {d : D} : wpE G (.sft 6) (x0 :: x1 :: x2 :: x3 :: x4 :: x5 :: some d :: ρ) S Q E = (Q (soft d) S) := by simp only [wpE, List.getElem?_cons_succ, List.getElem?_cons_zero, Option.some.injEq, exists_eq_left']
theorem we_frz6 {x0 x1 x2 x3 x4 x5 : Option D} {p : Addr} : wpE G (.frz 6) (x0 :: x1 :: x2 :: x3 :: x4 :: x5 :: some (.ref p) :: ρ) (supd S p (.lst ys)) Q E = (Q (.lst ys) (sdel (supd S p (.lst ys)) p)) := propext ⟨fun h => by
  simp only [wpE, List.getElem?_cons_succ, List.getElem?_cons_zero, Option.some.injEq, D.ref.injEq] at h
  obtain ⟨_, _, rfl, h1, h2⟩ := h
  rw [supd_same] at h1
  cases h1
  exact h2, fun h => by
  simp only [wpE, List.getElem?_cons_succ, List.getElem?_cons_zero, Option.some.injEq, D.ref.injEq]
  exact ⟨_, _, rfl, supd_same, h⟩⟩
theorem we_sft7 {x0 x1 x2 x3 x4 x5 x6 : Option D} {d : D} : wpE G (.sft 7) (x0 :: x1 :: x2 :: x3 :: x4 :: x5 :: x6 :: some d :: ρ) S Q E = (Q (soft d) S) := by simp only [wpE, List.getElem?_cons_succ, List.getElem?_cons_zero, Option.some.injEq, exists_eq_left']
theorem we_frz7 {x0 x1 x2 x3 x4 x5 x6 : Option D} {p : Addr} : wpE G (.frz 7) (x0 :: x1 :: x2 :: x3 :: x4 :: x5 :: x6 :: some (.ref p) :: ρ) (supd S p (.lst ys)) Q E = (Q (.lst ys) (sdel (supd S p (.lst ys)) p)) := propext ⟨fun h => by
  simp only [wpE, List.getElem?_cons_succ, List.getElem?_cons_zero, Option.some.injEq, D.ref.injEq] at h
  obtain ⟨_, _, rfl, h1, h2⟩ := h
  rw [supd_same] at h1
  cases h1
  exact h2, fun h => by
  simp only [wpE, List.getElem?_cons_succ, List.getElem?_cons_zero, Option.some.injEq, D.ref.injEq]
  exact ⟨_, _, rfl, supd_same, h⟩⟩
theorem we_sft8 {x0 x1 x2 x3 x4 x5 x6 x7 : Option D} {d : D} : wpE G (.sft 8) (x0 :: x1 :: x2 :: x3 :: x4 :: x5 :: x6 :: x7 :: some d :: ρ) S Q E = (Q (soft d) S) := by simp only [wpE, List.getElem?_cons_succ, List.getElem?_cons_zero, Option.some.injEq, exists_eq_left']
theorem we_frz8 {x0 x1 x2 x3 x4 x5 x6 x7 : Option D} {p : Addr} : wpE G (.frz 8) (x0 :: x1 :: x2 :: x3 :: x4 :: x5 :: x6 :: x7 :: some (.ref p) :: ρ) (supd S p (.lst ys)) Q E = (Q (.lst ys) (sdel (supd S p (.lst ys)) p)) := propext ⟨fun h => by
  simp only [wpE, List.getElem?_cons_succ, List.getElem?_cons_zero, Option.some.injEq, D.ref.injEq] at h
  obtain ⟨_, _, rfl, h1, h2⟩ := h
  rw [supd_same] at h1
  cases h1
  exact h2, fun h => by
  simp only [wpE, List.getElem?_cons_succ, List.getElem?_cons_zero, Option.some.injEq, D.ref.injEq]
  exact ⟨_, _, rfl, supd_same, h⟩⟩
theorem we_sft9 {x0 x1 x2 x3 x4 x5 x6 x7 x8 : Option D} {d : D} : wpE G (.sft 9) (x0 :: x1 :: x2 :: x3 :: x4 :: x5 :: x6 :: x7 :: x8 :: some d :: ρ) S Q E = (Q (soft d) S) := by simp only [wpE, List.getElem?_cons_succ, List.getElem?_cons_zero, Option.some.injEq, exists_eq_left']
theorem we_frz9 {x0 x1 x2 x3 x4 x5 x6 x7 x8 : Option D} {p : Addr} : wpE G (.frz 9) (x0 :: x1 :: x2 :: x3 :: x4 :: x5 :: x6 :: x7 :: x8 :: some (.ref p) :: ρ) (supd S p (.lst ys)) Q E = (Q (.lst ys) (sdel (supd S p (.lst ys)) p)) := propext ⟨fun h => by
  simp only [wpE, List.getElem?_cons_succ, List.getElem?_cons_zero, Option.some.injEq, D.ref.injEq] at h
  obtain ⟨_, _, rfl, h1, h2⟩ := h
  rw [supd_same] at h1
  cases h1
  exact h2, fun h => by
  simp only [wpE, List.getElem?_cons_succ, List.getElem?_cons_zero, Option.some.injEq, D.ref.injEq]
  exact ⟨_, _, rfl, supd_same, h⟩⟩
theorem we_sft10 {x0 x1 x2 x3 x4 x5 x6 x7 x8 x9 : Option D} {d : D} : wpE G (.sft 10) (x0 :: x1 :: x2 :: x3 :: x4 :: x5 :: x6 :: x7 :: x8 :: x9 :: some d :: ρ) S Q E = (Q (soft d) S) := by simp only [wpE, List.getElem?_cons_succ, List.getElem?_cons_zero, Option.some.injEq, exists_eq_left']
theorem we_frz10 {x0 x1 x2 x3 x4 x5 x6 x7 x8 x9 : Option D} {p : Addr} : wpE G (.frz 10) (x0 :: x1 :: x2 :: x3 :: x4 :: x5 :: x6 :: x7 :: x8 :: x9 :: some (.ref p) :: ρ) (supd S p (.lst ys)) Q E = (Q (.lst ys) (sdel (supd S p (.lst ys)) p)) := propext ⟨fun h => by
  simp only [wpE, List.getElem?_cons_succ, List.getElem?_cons_zero, Option.some.injEq, D.ref.injEq] at h
  obtain ⟨_, _, rfl, h1, h2⟩ := h
  rw [supd_same] at h1
  cases h1
  exact h2, fun h => by
  simp only [wpE, List.getElem?_cons_succ, List.getElem?_cons_zero, Option.some.injEq, D.ref.injEq]
  exact ⟨_, _, rfl, supd_same, h⟩⟩
theorem we_sft11 {x0 x1 x2 x3 x4 x5 x6 x7 x8 x9 x10 : Option D} {d : D} : wpE G (.sft 11) (x0 :: x1 :: x2 :: x3 :: x4 :: x5 :: x6 :: x7 :: x8 :: x9 :: x10 :: some d :: ρ) S Q E = (Q (soft d) S) := by simp only [wpE, List.getElem?_cons_succ, List.getElem?_cons_zero, Option.some.injEq, exists_eq_left']
theorem we_frz11 {x0 x1 x2 x3 x4 x5 x6 x7 x8 x9 x10 : Option D} {p : Addr} : wpE G (.frz 11) (x0 :: x1 :: x2 :: x3 :: x4 :: x5 :: x6 :: x7 :: x8 :: x9 :: x10 :: some (.ref p) :: ρ) (supd S p (.lst ys)) Q E = (Q (.lst ys) (sdel (supd S p (.lst ys)) p)) := propext ⟨fun h => by
  simp only [wpE, List.getElem?_cons_succ, List.getElem?_cons_zero, Option.some.injEq, D.ref.injEq] at h
  obtain ⟨_, _, rfl, h1, h2⟩ := h
  rw [supd_same] at h1
  cases h1
  exact h2, fun h => by
  simp only [wpE, List.getElem?_cons_succ, List.getElem?_cons_zero, Option.some.injEq, D.ref.injEq]
  exact ⟨_, _, rfl, supd_same, h⟩⟩
theorem we_sft12 {x0 x1 x2 x3 x4 x5 x6 x7 x8 x9 x10 x11 : Option D} {d : D} : wpE G (.sft 12) (x0 :: x1 :: x2 :: x3 :: x4 :: x5 :: x6 :: x7 :: x8 :: x9 :: x10 :: x11 :: some d :: ρ) S Q E = (Q (soft d) S) := by simp only [wpE, List.getElem?_cons_succ, List.getElem?_cons_zero, Option.some.injEq, exists_eq_left']
theorem we_frz12 {x0 x1 x2 x3 x4 x5 x6 x7 x8 x9 x10 x11 : Option D} {p : Addr} : wpE G (.frz 12) (x0 :: x1 :: x2 :: x3 :: x4 :: x5 :: x6 :: x7 :: x8 :: x9 :: x10 :: x11 :: some (.ref p) :: ρ) (supd S p (.lst ys)) Q E = (Q (.lst ys) (sdel (supd S p (.lst ys)) p)) := propext ⟨fun h => by
  simp only [wpE, List.getElem?_cons_succ, List.getElem?_cons_zero, Option.some.injEq, D.ref.injEq] at h
  obtain ⟨_, _, rfl, h1, h2⟩ := h
  rw [supd_same] at h1
  cases h1
  exact h2, fun h => by
  simp only [wpE, List.getElem?_cons_succ, List.getElem?_cons_zero, Option.some.injEq, D.ref.injEq]
  exact ⟨_, _, rfl, supd_same, h⟩⟩
theorem we_sft13 {x0 x1 x2 x3 x4 x5 x6 x7 x8 x9 x10 x11 x12 : Option D} {d : D} : wpE G (.sft 13) (x0 :: x1 :: x2 :: x3 :: x4 :: x5 :: x6 :: x7 :: x8 :: x9 :: x10 :: x11 :: x12 :: some d :: ρ) S Q E = (Q (soft d) S) := by simp only [wpE, List.getElem?_cons_succ, List.getElem?_cons_zero, Option.some.injEq, exists_eq_left']
theorem we_frz13 {x0 x1 x2 x3 x4 x5 x6 x7 x8 x9 x10 x11 x12 : Option D} {p : Addr} : wpE G (.frz 13) (x0 :: x1 :: x2 :: x3 :: x4 :: x5 :: x6 :: x7 :: x8 :: x9 :: x10 :: x11 :: x12 :: some (.ref p) :: ρ) (supd S p (.lst ys)) Q E = (Q (.lst ys) (sdel (supd S p (.lst ys)) p)) := propext ⟨fun h => by
  simp only [wpE, List.getElem?_cons_succ, List.getElem?_cons_zero, Option.some.injEq, D.ref.injEq] at h
  obtain ⟨_, _, rfl, h1, h2⟩ := h
  rw [supd_same] at h1
  cases h1
  exact h2, fun h => by
  simp only [wpE, List.getElem?_cons_succ, List.getElem?_cons_zero, Option.some.injEq, D.ref.injEq]
  exact ⟨_, _, rfl, supd_same, h⟩⟩
theorem we_sft14 {x0 x1 x2 x3 x4 x5 x6 x7 x8 x9 x10 x11 x12 x13 : Option D} {d : D} : wpE G (.sft 14) (x0 :: x1 :: x2 :: x3 :: x4 :: x5 :: x6 :: x7 :: x8 :: x9 :: x10 :: x11 :: x12 :: x13 :: some d :: ρ) S Q E = (Q (soft d) S) := by simp only [wpE, List.getElem?_cons_succ, List.getElem?_cons_zero, Option.some.injEq, exists_eq_left']
theorem we_frz14 {x0 x1 x2 x3 x4 x5 x6 x7 x8 x9 x10 x11 x12 x13 : Option D} {p : Addr} : wpE G (.frz 14) (x0 :: x1 :: x2 :: x3 :: x4 :: x5 :: x6 :: x7 :: x8 :: x9 :: x10 :: x11 :: x12 :: x13 :: some (.ref p) :: ρ) (supd S p (.lst ys)) Q E = (Q (.lst ys) (sdel (supd S p (.lst ys)) p)) := propext ⟨fun h => by
  simp only [wpE, List.getElem?_cons_succ, List.getElem?_cons_zero, Option.some.injEq, D.ref.injEq] at h
  obtain ⟨_, _, rfl, h1, h2⟩ := h
  rw [supd_same] at h1
  cases h1
  exact h2, fun h => by
  simp only [wpE, List.getElem?_cons_succ, List.getElem?_cons_zero, Option.some.injEq, D.ref.injEq]
  exact ⟨_, _, rfl, supd_same, h⟩⟩
theorem we_sft15 {x0 x1 x2 x3 x4 x5 x6 x7 x8 x9 x10 x11 x12 x13 x14 : Option D} {d : D} : wpE G (.sft 15) (x0 :: x1 :: x2 :: x3 :: x4 :: x5 :: x6 :: x7 :: x8 :: x9 :: x10 :: x11 :: x12 :: x13 :: x14 :: some d :: ρ) S Q E = (Q (soft d) S) := by simp only [wpE, List.getElem?_cons_succ, List.getElem?_cons_zero, Option.some.injEq, exists_eq_left']
theorem we_frz15 {x0 x1 x2 x3 x4 x5 x6 x7 x8 x9 x10 x11 x12 x13 x14 : Option D} {p : Addr} : wpE G (.frz 15) (x0 :: x1 :: x2 :: x3 :: x4 :: x5 :: x6 :: x7 :: x8 :: x9 :: x10 :: x11 :: x12 :: x13 :: x14 :: some (.ref p) :: ρ) (supd S p (.lst ys)) Q E = (Q (.lst ys) (sdel (supd S p (.lst ys)) p)) := propext ⟨fun h => by
  simp only [wpE, List.getElem?_cons_succ, List.getElem?_cons_zero, Option.some.injEq, D.ref.injEq] at h
  obtain ⟨_, _, rfl, h1, h2⟩ := h
  rw [supd_same] at h1
  cases h1
  exact h2, fun h => by
  simp only [wpE, List.getElem?_cons_succ, List.getElem?_cons_zero, Option.some.injEq, D.ref.injEq]
  exact ⟨_, _, rfl, supd_same, h⟩⟩
theorem we_sft16 {x0 x1 x2 x3 x4 x5 x6 x7 x8 x9 x10 x11 x12 x13 x14 x15 : Option D} {d : D} : wpE G (.sft 16) (x0 :: x1 :: x2 :: x3 :: x4 :: x5 :: x6 :: x7 :: x8 :: x9 :: x10 :: x11 :: x12 :: x13 :: x14 :: x15 :: some d :: ρ) S Q E = (Q (soft d) S) := by simp only [wpE, List.getElem?_cons_succ, List.getElem?_cons_zero, Option.some.injEq, exists_eq_left']
theorem we_frz16 {x0 x1 x2 x3 x4 x5 x6 x7 x8 x9 x10 x11 x12 x13 x14 x15 : Option D} {p : Addr} : wpE G (.frz 16) (x0 :: x1 :: x2 :: x3 :: x4 :: x5 :: x6 :: x7 :: x8 :: x9 :: x10 :: x11 :: x12 :: x13 :: x14 :: x15 :: some (.ref p) :: ρ) (supd S p (.lst ys)) Q E = (Q (.lst ys) (sdel (supd S p (.lst ys)) p)) := propext ⟨fun h => by
  simp only [wpE, List.getElem?_cons_succ, List.getElem?_cons_zero, Option.some.injEq, D.ref.injEq] at h
  obtain ⟨_, _, rfl, h1, h2⟩ := h
  rw [supd_same] at h1
  cases h1
  exact h2, fun h => by
  simp only [wpE, List.getElem?_cons_succ, List.getElem?_cons_zero, Option.some.injEq, D.ref.injEq]
  exact ⟨_, _, rfl, supd_same, h⟩⟩
theorem we_sft17 {x0 x1 x2 x3 x4 x5 x6 x7 x8 x9 x10 x11 x12 x13 x14 x15 x16 : Option D} {d : D} : wpE G (.sft 17) (x0 :: x1 :: x2 :: x3 :: x4 :: x5 :: x6 :: x7 :: x8 :: x9 :: x10 :: x11 :: x12 :: x13 :: x14 :: x15 :: x16 :: some d :: ρ) S Q E = (Q (soft d) S) := by simp only [wpE, List.getElem?_cons_succ, List.getElem?_cons_zero, Option.some.injEq, exists_eq_left']
theorem we_frz17 {x0 x1 x2 x3 x4 x5 x6 x7 x8 x9 x10 x11 x12 x13 x14 x15 x16 : Option D} {p : Addr} : wpE G (.frz 17) (x0 :: x1 :: x2 :: x3 :: x4 :: x5 :: x6 :: x7 :: x8 :: x9 :: x10 :: x11 :: x12 :: x13 :: x14 :: x15 :: x16 :: some (.ref p) :: ρ) (supd S p (.lst ys)) Q E = (Q (.lst ys) (sdel (supd S p (.lst ys)) p)) := propext ⟨fun h => by
  simp only [wpE, List.getElem?_cons_succ, List.getElem?_cons_zero, Option.some.injEq, D.ref.injEq] at h
  obtain ⟨_, _, rfl, h1, h2⟩ := h
  rw [supd_same] at h1
  cases h1
  exact h2, fun h => by
  simp only [wpE, List.getElem?_cons_succ, List.getElem?_cons_zero, Option.some.injEq, D.ref.injEq]
  exact ⟨_, _, rfl, supd_same, h⟩⟩
theorem we_sft18 {x0 x1 x2 x3 x4 x5 x6 x7 x8 x9 x10 x11 x12 x13 x14 x15 x16 x17 : Option D} {d : D} : wpE G (.sft 18) (x0 :: x1 :: x2 :: x3 :: x4 :: x5 :: x6 :: x7 :: x8 :: x9 :: x10 :: x11 :: x12 :: x13 :: x14 :: x15 :: x16 :: x17 :: some d :: ρ) S Q E = (Q (soft d) S) := by simp only [wpE, List.getElem?_cons_succ, List.getElem?_cons_zero, Option.some.injEq, exists_eq_left']
theorem we_frz18 {x0 x1 x2 x3 x4 x5 x6 x7 x8 x9 x10 x11 x12 x13 x14 x15 x16 x17 : Option D} {p : Addr} : wpE G (.frz 18) (x0 :: x1 :: x2 :: x3 :: x4 :: x5 :: x6 :: x7 :: x8 :: x9 :: x10 :: x11 :: x12 :: x13 :: x14 :: x15 :: x16 :: x17 :: some (.ref p) :: ρ) (supd S p (.lst ys)) Q E = (Q (.lst ys) (sdel (supd S p (.lst ys)) p)) := propext ⟨fun h => by
  simp only [wpE, List.getElem?_cons_succ, List.getElem?_cons_zero, Option.some.injEq, D.ref.injEq] at h
  obtain ⟨_, _, rfl, h1, h2⟩ := h
  rw [supd_same] at h1
  cases h1
  exact h2, fun h => by
  simp only [wpE, List.getElem?_cons_succ, List.getElem?_cons_zero, Option.some.injEq, D.ref.injEq]
  exact ⟨_, _, rfl, supd_same, h⟩⟩
theorem we_sft19 {x0 x1 x2 x3 x4 x5 x6 x7 x8 x9 x10 x11 x12 x13 x14 x15 x16 x17 x18 : Option D} {d : D} : wpE G (.sft 19) (x0 :: x1 :: x2 :: x3 :: x4 :: x5 :: x6 :: x7 :: x8 :: x9 :: x10 :: x11 :: x12 :: x13 :: x14 :: x15 :: x16 :: x17 :: x18 :: some d :: ρ) S Q E = (Q (soft d) S) := by simp only [wpE, List.getElem?_cons_succ, List.getElem?_cons_zero, Option.some.injEq, exists_eq_left']
theorem we_frz19 {x0 x1 x2 x3 x4 x5 x6 x7 x8 x9 x10 x11 x12 x13 x14 x15 x16 x17 x18 : Option D} {p : Addr} : wpE G (.frz 19) (x0 :: x1 :: x2 :: x3 :: x4 :: x5 :: x6 :: x7 :: x8 :: x9 :: x10 :: x11 :: x12 :: x13 :: x14 :: x15 :: x16 :: x17 :: x18 :: some (.ref p) :: ρ) (supd S p (.lst ys)) Q E = (Q (.lst ys) (sdel (supd S p (.lst ys)) p)) := propext ⟨fun h => by
  simp only [wpE, List.getElem?_cons_succ, List.getElem?_cons_zero, Option.some.injEq, D.ref.injEq] at h
  obtain ⟨_, _, rfl, h1, h2⟩ := h
  rw [supd_same] at h1
  cases h1
  exact h2, fun h => by
  simp only [wpE, List.getElem?_cons_succ, List.getElem?_cons_zero, Option.some.injEq, D.ref.injEq]
  exact ⟨_, _, rfl, supd_same, h⟩⟩
theorem we_sft20 {x0 x1 x2 x3 x4 x5 x6 x7 x8 x9 x10 x11 x12 x13 x14 x15 x16 x17 x18 x19 : Option D} {d : D} : wpE G (.sft 20) (x0 :: x1 :: x2 :: x3 :: x4 :: x5 :: x6 :: x7 :: x8 :: x9 :: x10 :: x11 :: x12 :: x13 :: x14 :: x15 :: x16 :: x17 :: x18 :: x19 :: some d :: ρ) S Q E = (Q (soft d) S) := by simp only [wpE, List.getElem?_cons_succ, List.getElem?_cons_zero, Option.some.injEq, exists_eq_left']
theorem we_frz20 {x0 x1 x2 x3 x4 x5 x6 x7 x8 x9 x10 x11 x12 x13 x14 x15 x16 x17 x18 x19 : Option D} {p : Addr} : wpE G (.frz 20) (x0 :: x1 :: x2 :: x3 :: x4 :: x5 :: x6 :: x7 :: x8 :: x9 :: x10 :: x11 :: x12 :: x13 :: x14 :: x15 :: x16 :: x17 :: x18 :: x19 :: some (.ref p) :: ρ) (supd S p (.lst ys)) Q E = (Q (.lst ys) (sdel (supd S p (.lst ys)) p)) := propext ⟨fun h => by
  simp only [wpE, List.getElem?_cons_succ, List.getElem?_cons_zero, Option.some.injEq, D.ref.injEq] at h
  obtain ⟨_, _, rfl, h1, h2⟩ := h
  rw [supd_same] at h1
  cases h1
  exact h2, fun h => by
  simp only [wpE, List.getElem?_cons_succ, List.getElem?_cons_zero, Option.some.injEq, D.ref.injEq]
  exact ⟨_, _, rfl, supd_same, h⟩⟩
theorem we_sft21 {x0 x1 x2 x3 x4 x5 x6 x7 x8 x9 x10 x11 x12 x13 x14 x15 x16 x17 x18 x19 x20 : Option D} {d : D} : wpE G (.sft 21) (x0 :: x1 :: x2 :: x3 :: x4 :: x5 :: x6 :: x7 :: x8 :: x9 :: x10 :: x11 :: x12 :: x13 :: x14 :: x15 :: x16 :: x17 :: x18 :: x19 :: x20 :: some d :: ρ) S Q E = (Q (soft d) S) := by simp only [wpE, List.getElem?_cons_succ, List.getElem?_cons_zero, Option.some.injEq, exists_eq_left']
theorem we_frz21 {x0 x1 x2 x3 x4 x5 x6 x7 x8 x9 x10 x11 x12 x13 x14 x15 x16 x17 x18 x19 x20 : Option D} {p : Addr} : wpE G (.frz 21) (x0 :: x1 :: x2 :: x3 :: x4 :: x5 :: x6 :: x7 :: x8 :: x9 :: x10 :: x11 :: x12 :: x13 :: x14 :: x15 :: x16 :: x17 :: x18 :: x19 :: x20 :: some (.ref p) :: ρ) (supd S p (.lst ys)) Q E = (Q (.lst ys) (sdel (supd S p (.lst ys)) p)) := propext ⟨fun h => by
  simp only [wpE, List.getElem?_cons_succ, List.getElem?_cons_zero, Option.some.injEq, D.ref.injEq] at h
  obtain ⟨_, _, rfl, h1, h2⟩ := h
  rw [supd_same] at h1
  cases h1
  exact h2, fun h => by
  simp only [wpE, List.getElem?_cons_succ, List.getElem?_cons_zero, Option.some.injEq, D.ref.injEq]
  exact ⟨_, _, rfl, supd_same, h⟩⟩
theorem we_sft22 {x0 x1 x2 x3 x4 x5 x6 x7 x8 x9 x10 x11 x12 x13 x14 x15 x16 x17 x18 x19 x20 x21 : Option D} {d : D} : wpE G (.sft 22) (x0 :: x1 :: x2 :: x3 :: x4 :: x5 :: x6 :: x7 :: x8 :: x9 :: x10 :: x11 :: x12 :: x13 :: x14 :: x15 :: x16 :: x17 :: x18 :: x19 :: x20 :: x21 :: some d :: ρ) S Q E = (Q (soft d) S) := by simp only [wpE, List.getElem?_cons_succ, List.getElem?_cons_zero, Option.some.injEq, exists_eq_left']
theorem we_frz22 {x0 x1 x2 x3 x4 x5 x6 x7 x8 x9 x10 x11 x12 x13 x14 x15 x16 x17 x18 x19 x20 x21 : Option D} {p : Addr} : wpE G (.frz 22) (x0 :: x1 :: x2 :: x3 :: x4 :: x5 :: x6 :: x7 :: x8 :: x9 :: x10 :: x11 :: x12 :: x13 :: x14 :: x15 :: x16 :: x17 :: x18 :: x19 :: x20 :: x21 :: some (.ref p) :: ρ) (supd S p (.lst ys)) Q E = (Q (.lst ys) (sdel (supd S p (.lst ys)) p)) := propext ⟨fun h => by
  simp only [wpE, List.getElem?_cons_succ, List.getElem?_cons_zero, Option.some.injEq, D.ref.injEq] at h
  obtain ⟨_, _, rfl, h1, h2⟩ := h
  rw [supd_same] at h1
  cases h1
  exact h2, fun h => by
  simp only [wpE, List.getElem?_cons_succ, List.getElem?_cons_zero, Option.some.injEq, D.ref.injEq]
  exact ⟨_, _, rfl, supd_same, h⟩⟩
theorem we_sft23 {x0 x1 x2 x3 x4 x5 x6 x7 x8 x9 x10 x11 x12 x13 x14 x15 x16 x17 x18 x19 x20 x21 x22 : Option D} {d : D} : wpE G (.sft 23) (x0 :: x1 :: x2 :: x3 :: x4 :: x5 :: x6 :: x7 :: x8 :: x9 :: x10 :: x11 :: x12 :: x13 :: x14 :: x15 :: x16 :: x17 :: x18 :: x19 :: x20 :: x21 :: x22 :: some d :: ρ) S Q E = (Q (soft d) S) := by simp only [wpE, List.getElem?_cons_succ, List.getElem?_cons_zero, Option.some.injEq, exists_eq_left']
theorem we_frz23 {x0 x1 x2 x3 x4 x5 x6 x7 x8 x9 x10 x11 x12 x13 x14 x15 x16 x17 x18 x19 x20 x21 x22 : Option D} {p : Addr} : wpE G (.frz 23) (x0 :: x1 :: x2 :: x3 :: x4 :: x5 :: x6 :: x7 :: x8 :: x9 :: x10 :: x11 :: x12 :: x13 :: x14 :: x15 :: x16 :: x17 :: x18 :: x19 :: x20 :: x21 :: x22 :: some (.ref p) :: ρ) (supd S p (.lst ys)) Q E = (Q (.lst ys) (sdel (supd S p (.lst ys)) p)) := propext ⟨fun h => by
  simp only [wpE, List.getElem?_cons_succ, List.getElem?_cons_zero, Option.some.injEq, D.ref.injEq] at h
  obtain ⟨_, _, rfl, h1, h2⟩ := h
  rw [supd_same] at h1
  cases h1
  exact h2, fun h => by
  simp only [wpE, List.getElem?_cons_succ, List.getElem?_cons_zero, Option.some.injEq, D.ref.injEq]
  exact ⟨_, _, rfl, supd_same, h⟩⟩
theorem sf_tpx : soft (.tpx xs) = .tup xs := rfl
theorem sf_pl {d : D} (h : plain d = true) : soft d = d := soft_plain h
theorem nn_non : isNon (.non) = true := Eq.trans rfl rfl
theorem nn_bl {b : Bool} : isNon (.bl b) = false := Eq.trans rfl rfl
theorem nn_int : isNon (.int i) = false := Eq.trans rfl rfl
theorem nn_str : isNon (.str s) = false := Eq.trans rfl rfl
theorem nn_tup : isNon (.tup xs) = false := Eq.trans rfl rfl
theorem nn_lst : isNon (.lst xs) = false := Eq.trans rfl rfl
theorem nn_scr : isNon (.scr xs) = false := Eq.trans rfl rfl
theorem nn_ref {p : Addr} : isNon (.ref p) = false := Eq.trans rfl rfl
theorem we_lrg1 {m : Bool} {b : Ex} : wpE G (.lrg1 m b) ρ S Q E = (wpE G b ρ S (fun y S1 => ∃ j : Int, y = .int j ∧ 0 ≤ j ∧ j ≤ 16777216 ∧ newL m ((List.range j.toNat).map fun (k : Nat) => D.int (k : Int)) S1 Q) E) := by simp only [wpE]
theorem we_lrg2 {m : Bool} {a b : Ex} : wpE G (.lrg2 m a b) ρ S Q E = (wpE G a ρ S (fun x S1 => wpE G b ρ S1 (fun y S2 => ∃ i j : Int, x = .int i ∧ y = .int j ∧ 0 ≤ i ∧ i ≤ 16777216 ∧ 0 ≤ j ∧ j ≤ 16777216 ∧ newL m ((List.range (j - i).toNat).map fun (k : Nat) => D.int (i + (k : Int))) S2 Q) E) E) := by simp only [wpE]
theorem r_lss {m : Bool} : bltR (.lss m) [.str s] S Q = (newL m (s.map fun c => .str [c]) S Q) := rfl
theorem we_tpn {e : Ex} : wpE G (.tpn e) ρ S Q E = (wpE G e ρ S (fun x S1 => ∃ xs, listD S1 x = some xs ∧ Q (.tpx xs) S1) E) := by simp only [wpE]
theorem tn_lst {P : List D → Prop} : (∃ ys, listD S (.lst xs) = some ys ∧ P ys) = P xs := propext ⟨fun ⟨_, e, h⟩ => by cases e; exact h, fun h => ⟨_, rfl, h⟩⟩
theorem tn_ref {p : Addr} {P : List D → Prop} : (∃ ys, listD (supd S p (.lst xs)) (.ref p) = some ys ∧ P ys) = P xs := propext ⟨fun ⟨_, e, h⟩ => by rw [listD_supd] at e; cases e; exact h, fun h => ⟨_, listD_supd, h⟩⟩
theorem we_dsp {ks : List (List Nat)} {es : List Ex} : wpE G (.dsp ks es) ρ S Q E = (wpEs G es ρ S (fun vs S1 => vs.length = ks.length ∧ ∀ p, S1 p = none → Q (.ref p) (supd S1 p (.dct ((ks.map Sum.inr).zip vs)))) E) := by simp only [wpE]
theorem op_non {d : D} {P : Option Int → Prop} : (∃ l, optE .non d = some l ∧ P l) = P none := propext ⟨fun ⟨_, e, h⟩ => by cases e; exact h, fun h => ⟨_, rfl, h⟩⟩
theorem op_int {k : Int} {P : Option Int → Prop} : (∃ l, optE (.int k) (.int i) = some l ∧ P l) = P (some i) := propext ⟨fun ⟨_, e, h⟩ => by cases e; exact h, fun h => ⟨_, rfl, h⟩⟩
theorem op_var {k : Nat} {P : Option Int → Prop} : (∃ l, optE (.var k) (.int i) = some l ∧ P l) = P (some i) := propext ⟨fun ⟨_, e, h⟩ => by cases e; exact h, fun h => ⟨_, rfl, h⟩⟩
theorem op_bin {op : Bop} {m : Bool} {a b : Ex} {P : Option Int → Prop} : (∃ l, optE (.bin op m a b) (.int i) = some l ∧ P l) = P (some i) := propext ⟨fun ⟨_, e, h⟩ => by cases e; exact h, fun h => ⟨_, rfl, h⟩⟩
theorem op_call {f : Nat} {es : List Ex} {P : Option Int → Prop} : (∃ l, optE (.call f es) (.int i) = some l ∧ P l) = P (some i) := propext ⟨fun ⟨_, e, h⟩ => by cases e; exact h, fun h => ⟨_, rfl, h⟩⟩
theorem op_blt {b : Bl} {es : List Ex} {P : Option Int → Prop} : (∃ l, optE (.blt b es) (.int i) = some l ∧ P l) = P (some i) := propext ⟨fun ⟨_, e, h⟩ => by cases e; exact h, fun h => ⟨_, rfl, h⟩⟩
theorem op_neg {a : Ex} {P : Option Int → Prop} : (∃ l, optE (.neg a) (.int i) = some l ∧ P l) = P (some i) := propext ⟨fun ⟨_, e, h⟩ => by cases e; exact h, fun h => ⟨_, rfl, h⟩⟩
theorem sl_str {m : Bool} {l h : Option Int} : slcR m (.str s) l h S Q = (Q (.str (cutL s l h)) S) := rfl
theorem sl_tup {m : Bool} {l h : Option Int} : slcR m (.tup xs) l h S Q = (Q (.tup (cutL xs l h)) S) := rfl
theorem rr_tup {m : Bool} : revR m (.tup xs) S Q = (Q (.tup xs.reverse) S) := rfl
theorem rr_lst {m : Bool} : revR m (.lst xs) S Q = (newL m xs.reverse S Q) := propext ⟨fun ⟨_, e, h⟩ => by cases e; exact h, fun h => ⟨_, rfl, h⟩⟩
theorem rr_ref {m : Bool} {p : Addr} : revR m (.ref p) (supd S p (.lst xs)) Q = (newL m xs.reverse (supd S p (.lst xs)) Q) := propext ⟨fun ⟨_, e, h⟩ => by rw [listD_supd] at e; cases e; exact h, fun h => ⟨_, listD_supd, h⟩⟩
theorem sl_lst {m : Bool} {l h : Option Int} : slcR m (.lst xs) l h S Q = (newL m (cutL xs l h) S Q) := propext ⟨fun ⟨_, e, h⟩ => by cases e; exact h, fun h => ⟨_, rfl, h⟩⟩
theorem sl_ref {m : Bool} {l h : Option Int} {p : Addr} : slcR m (.ref p) l h (supd S p (.lst xs)) Q = (newL m (cutL xs l h) (supd S p (.lst xs)) Q) := propext ⟨fun ⟨_, e, h⟩ => by rw [listD_supd] at e; cases e; exact h, fun h => ⟨_, listD_supd, h⟩⟩
theorem mk_join {P : Prop} : (mtOk .join S (.str s) ∧ P) = P := propext ⟨fun h => h.2, fun h => ⟨⟨s, rfl⟩, h⟩⟩
theorem mk_split {m : Bool} {P : Prop} : (mtOk (.split m) S (.str s) ∧ P) = P := propext ⟨fun h => h.2, fun h => ⟨⟨s, rfl⟩, h⟩⟩
theorem mk_lower {P : Prop} : (mtOk .lower S (.str s) ∧ P) = P := propext ⟨fun h => h.2, fun h => ⟨⟨s, rfl⟩, h⟩⟩
theorem mk_upper {P : Prop} : (mtOk .upper S (.str s) ∧ P) = P := propext ⟨fun h => h.2, fun h => ⟨⟨s, rfl⟩, h⟩⟩
theorem mk_strip {P : Prop} : (mtOk .strip S (.str s) ∧ P) = P := propext ⟨fun h => h.2, fun h => ⟨⟨s, rfl⟩, h⟩⟩
theorem mk_tix {P : Prop} : (mtOk .tindex S (.tup xs) ∧ P) = P := propext ⟨fun h => h.2, fun h => ⟨⟨xs, rfl⟩, h⟩⟩
theorem mk_append {p : Addr} {P : Prop} : (mtOk .append (supd S p (.lst xs)) (.ref p) ∧ P) = P := propext ⟨fun h => h.2, fun h => ⟨⟨xs, listD_supd⟩, h⟩⟩
theorem mk_extend {p : Addr} {P : Prop} : (mtOk .extend (supd S p (.lst xs)) (.ref p) ∧ P) = P := propext ⟨fun h => h.2, fun h => ⟨⟨xs, listD_supd⟩, h⟩⟩
theorem mk_insert {p : Addr} {P : Prop} : (mtOk .insert (supd S p (.lst xs)) (.ref p) ∧ P) = P := propext ⟨fun h => h.2, fun h => ⟨⟨xs, listD_supd⟩, h⟩⟩
theorem mk_pop {p : Addr} {P : Prop} : (mtOk .pop (supd S p (.lst xs)) (.ref p) ∧ P) = P := propext ⟨fun h => h.2, fun h => ⟨⟨xs, listD_supd⟩, h⟩⟩
theorem mk_popAt {p : Addr} {P : Prop} : (mtOk .popAt (supd S p (.lst xs)) (.ref p) ∧ P) = P := propext ⟨fun h => h.2, fun h => ⟨⟨xs, listD_supd⟩, h⟩⟩
theorem mk_index {p : Addr} {P : Prop} : (mtOk .index (supd S p (.lst xs)) (.ref p) ∧ P) = P := propext ⟨fun h => h.2, fun h => ⟨⟨xs, listD_supd⟩, h⟩⟩
theorem mk_reverse {p : Addr} {P : Prop} : (mtOk .reverse (supd S p (.lst xs)) (.ref p) ∧ P) = P := propext ⟨fun h => h.2, fun h => ⟨⟨xs, listD_supd⟩, h⟩⟩
theorem mk_clear {p : Addr} {P : Prop} : (mtOk .clear (supd S p (.lst xs)) (.ref p) ∧ P) = P := propext ⟨fun h => h.2, fun h => ⟨⟨xs, listD_supd⟩, h⟩⟩
theorem mk_lix {P : Prop} : (mtOk .index S (.lst xs) ∧ P) = P := propext ⟨fun h => h.2, fun h => ⟨⟨xs, rfl⟩, h⟩⟩
theorem m_join_l {parts : List (List Nat)} : methR .join (.str s) [.lst (parts.map D.str)] S Q = ((parts.map List.length).sum + parts.length * s.length ≤ LIM ∧ Q (.str (TL.joinL s parts)) S) := by apply propext; constructor; (rintro ⟨ps, e, h1, h2⟩; skip; have e := Option.some.inj e; have := bmap_inj (α := Nat) (fun a b h => D.str.inj h) e; subst this; exact ⟨h1, h2⟩); (rintro ⟨h1, h2⟩; exact ⟨_, rfl, h1, h2⟩)
theorem m_join_t {parts : List (List Nat)} : methR .join (.str s) [.tup (parts.map D.str)] S Q = ((parts.map List.length).sum + parts.length * s.length ≤ LIM ∧ Q (.str (TL.joinL s parts)) S) := by apply propext; constructor; (rintro ⟨ps, e, h1, h2⟩; skip; have e := Option.some.inj e; have := bmap_inj (α := Nat) (fun a b h => D.str.inj h) e; subst this; exact ⟨h1, h2⟩); (rintro ⟨h1, h2⟩; exact ⟨_, rfl, h1, h2⟩)
theorem m_join_r {p : Addr} {parts : List (List Nat)} : methR .join (.str s) [.ref p] (supd S p (.lst (parts.map D.str))) Q = ((parts.map List.length).sum + parts.length * s.length ≤ LIM ∧ Q (.str (TL.joinL s parts)) (supd S p (.lst (parts.map D.str)))) := by apply propext; constructor; (rintro ⟨ps, e, h1, h2⟩; rw [seqD_supd] at e; have e := Option.some.inj e; have := bmap_inj (α := Nat) (fun a b h => D.str.inj h) e; subst this; exact ⟨h1, h2⟩); (rintro ⟨h1, h2⟩; exact ⟨_, seqD_supd, h1, h2⟩)
theorem m_join_f {α : Type} {l : List α} {f : α → List Nat} : methR .join (.str s) [.lst (l.map fun x => .str (f x))] S Q = (((l.map f).map List.length).sum + l.length * s.length ≤ LIM ∧ Q (.str (TL.joinL s (l.map f))) S) := by rw [show (l.map fun x => D.str (f x)) = (l.map f).map D.str by rw [List.map_map]; rfl, m_join_l, List.length_map]
theorem md_split {m : Bool} {c : Nat} : methR (.split m) (.str s) [.str [c]] S Q = (c < 256 ∧ newL m ((TL.spl [c] 0 [] s).map D.str) S Q) := propext ⟨fun ⟨_, e, h⟩ => by cases e; exact h, fun h => ⟨_, rfl, h⟩⟩
theorem md_lower : methR .lower (.str s) [] S Q = (s.all (· < 128) = true ∧ Q (.str (s.map lowC)) S) := rfl
theorem md_upper : methR .upper (.str s) [] S Q = (s.all (· < 128) = true ∧ Q (.str (s.map upC)) S) := rfl
theorem md_append {p : Addr} : methR .append (.ref p) [x] (supd S p (.lst xs)) Q = (xs.length < sizeLine ∧ Q .non (supd S p (.lst (xs ++ [x])))) := propext ⟨fun ⟨_, e, h⟩ => by rw [supd_at] at e; cases e; rw [supd_supd] at h; exact h, fun h => ⟨_, supd_at, by rw [supd_supd]; exact h⟩⟩
theorem md_reverse {p : Addr} : methR .reverse (.ref p) [] (supd S p (.lst xs)) Q = (Q .non (supd S p (.lst xs.reverse))) := propext ⟨fun ⟨_, e, h⟩ => by rw [supd_at] at e; cases e; rw [supd_supd] at h; exact h, fun h => ⟨_, supd_at, by rw [supd_supd]; exact h⟩⟩
theorem md_extend_t {p : Addr} : methR .extend (.ref p) [.tup ys] (supd S p (.lst xs)) Q = (xs.length + ys.length ≤ sizeLine ∧ Q .non (supd S p (.lst (xs ++ ys)))) := propext ⟨fun ⟨_, _, e, e2, h1, h⟩ => by rw [supd_at] at e; cases e; cases e2; rw [supd_supd] at h; exact ⟨h1, h⟩, fun ⟨h1, h⟩ => ⟨_, _, supd_at, rfl, h1, by rw [supd_supd]; exact h⟩⟩
theorem md_extend {p : Addr} : methR .extend (.ref p) [.lst ys] (supd S p (.lst xs)) Q = (xs.length + ys.length ≤ sizeLine ∧ Q .non (supd S p (.lst (xs ++ ys)))) := propext ⟨fun ⟨_, _, e, e2, h1, h⟩ => by rw [supd_at] at e; cases e; cases e2; rw [supd_supd] at h; exact ⟨h1, h⟩, fun ⟨h1, h⟩ => ⟨_, _, supd_at, rfl, h1, by rw [supd_supd]; exact h⟩⟩
theorem md_count {zs : List (List Nat)} : methR .count (.lst (zs.map D.str)) [.str t] S Q = (Q (.int (zs.count t : Nat)) S) := by apply propext; constructor; (rintro ⟨ps, e, h2⟩; have e := Option.some.inj e; have := bmap_inj (α := Nat) (fun a b h => D.str.inj h) e; subst this; exact h2); (intro h; exact ⟨zs, rfl, h⟩)
theorem mk_count {P : Prop} : (mtOk .count S (.lst xs) ∧ P) = P := propext ⟨fun h => h.2, fun h => ⟨⟨xs, rfl⟩, h⟩⟩
theorem mk_linsert {p : Addr} {P : Prop} : (mtOk .insert (supd S p (.lst xs)) (.ref p) ∧ P) = P := propext ⟨fun h => h.2, fun h => ⟨⟨xs, listD_supd⟩, h⟩⟩
theorem ss_expr {e : Ex} : wpS G (.expr e) ρ S C = (wpE G e ρ S (fun _ S1 => C.nx ρ S1) fun x S1 => C.ex x ρ S1) := by simp only [wpS]
theorem ss_asg {tg : Tg} {e : Ex} : wpS G (.asg tg e) ρ S C = (wpE G e ρ S (fun d S1 => ∃ ρ1, setT tg d ρ = some ρ1 ∧ C.nx ρ1 S1) fun x S1 => C.ex x ρ S1) := by simp only [wpS]
theorem ss_asgI {o i e : Ex} : wpS G (.asgI o i e) ρ S C = (wpE G e ρ S (fun v S1 => wpE G o ρ S1 (fun a S2 => wpE G i ρ S2 (fun k S3 => setR a k v S3 fun S4 => C.nx ρ S4) fun x S1 => C.ex x ρ S1) fun x S1 => C.ex x ρ S1) fun x S1 => C.ex x ρ S1) := by simp only [wpS]
theorem ss_ifs {c : Ex} {a b : List Sm} : wpS G (.ifs c a b) ρ S C = (wpE G c ρ S (fun v S1 => ∃ k, v = .bl k ∧ if k = true then wpB G a ρ S1 C else wpB G b ρ S1 C) fun x S1 => C.ex x ρ S1) := by simp only [wpS]
theorem ss_for {tg : Tg} {it : It} {body : List Sm} : wpS G (.for tg it body) ρ S C = (wpIt G it ρ S (fun src xs S1 => forW src xs tg (wpB G body) C xs ρ S1) fun x S1 => C.ex x ρ S1) := by simp only [wpS]
theorem ss_rett {e : Ex} : wpS G (.ret true e) ρ S C = (wpE G e ρ S (fun v S1 => ∃ p xs, v = .ref p ∧ S1 p = some (.lst xs) ∧ C.rt (.lst xs) (sdel S1 p)) fun x S1 => C.ex x ρ S1) := by simp only [wpS, if_true]
theorem ss_ret {e : Ex} : wpS G (.ret false e) ρ S C = (wpE G e ρ S (fun v S1 => C.rt v S1) fun x S1 => C.ex x ρ S1) := by simp only [wpS, Bool.false_eq_true, if_false]
theorem ss_retN : wpS G .retN ρ S C = (C.rt .non S) := by simp only [wpS]
theorem ss_brk : wpS G .brk ρ S C = (C.bk ρ S) := by simp only [wpS]
theorem ss_cont : wpS G .cont ρ S C = (C.ct ρ S) := by simp only [wpS]
theorem ss_pass : wpS G .pass ρ S C = (C.nx ρ S) := by simp only [wpS]
theorem ss_raise {c : Nat} {ns : List Str} {es : List Ex} : wpS G (.raise c ns es) ρ S C = (wpEs G es ρ S (fun vs S1 => C.ex ⟨c, ns.reverse, vs.reverse⟩ ρ S1) fun x S1 => C.ex x ρ S1) := by simp only [wpS]
theorem ss_tr {body : List Sm} {hs : List Hd} : wpS G (.tr body hs) ρ S C = (wpB G body ρ S { nx := C.nx, rt := C.rt, bk := C.bk, ct := C.ct, ex := fun x ρ1 S1 => wpHs G hs x ρ1 S1 C }) := by simp only [wpS]
theorem ss_aug0 {op : Bop} {e : Ex} : wpS G (.aug 0 op e) (some x :: ρ) S C = (wpE G e (some x :: ρ) S (fun y S1 => augR op x y S1 fun z S2 => C.nx (some z :: ρ) S2) fun y S1 => C.ex y (some x :: ρ) S1) := by simp only [wpS, List.getElem?_cons_succ, List.getElem?_cons_zero, Option.some.injEq, exists_eq_left']; rfl
theorem ss_aug1 {x0 : Option D} {op : Bop} {e : Ex} : wpS G (.aug 1 op e) (x0 :: some x :: ρ) S C = (wpE G e (x0 :: some x :: ρ) S (fun y S1 => augR op x y S1 fun z S2 => C.nx (x0 :: some z :: ρ) S2) fun y S1 => C.ex y (x0 :: some x :: ρ) S1) := by simp only [wpS, List.getElem?_cons_succ, List.getElem?_cons_zero, Option.some.injEq, exists_eq_left']; rfl
theorem ss_aug2 {x0 x1 : Option D} {op : Bop} {e : Ex} : wpS G (.aug 2 op e) (x0 :: x1 :: some x :: ρ) S C = (wpE G e (x0 :: x1 :: some x :: ρ) S (fun y S1 => augR op x y S1 fun z S2 => C.nx (x0 :: x1 :: some z :: ρ) S2) fun y S1 => C.ex y (x0 :: x1 :: some x :: ρ) S1) := by simp only [wpS, List.getElem?_cons_succ, List.getElem?_cons_zero, Option.some.injEq, exists_eq_left']; rfl
theorem ss_aug3 {x0 x1 x2 : Option D} {op : Bop} {e : Ex} : wpS G (.aug 3 op e) (x0 :: x1 :: x2 :: some x :: ρ) S C = (wpE G e (x0 :: x1 :: x2 :: some x :: ρ) S (fun y S1 => augR op x y S1 fun z S2 => C.nx (x0 :: x1 :: x2 :: some z :: ρ) S2) fun y S1 => C.ex y (x0 :: x1 :: x2 :: some x :: ρ) S1) := by simp only [wpS, List.getElem?_cons_succ, List.getElem?_cons_zero, Option.some.injEq, exists_eq_left']; rfl
theorem ss_aug4 {x0 x1 x2 x3 : Option D} {op : Bop} {e : Ex} : wpS G (.aug 4 op e) (x0 :: x1 :: x2 :: x3 :: some x :: ρ) S C = (wpE G e (x0 :: x1 :: x2 :: x3 :: some x :: ρ) S (fun y S1 => augR op x y S1 fun z S2 => C.nx (x0 :: x1 :: x2 :: x3 :: some z :: ρ) S2) fun y S1 => C.ex y (x0 :: x1 :: x2 :: x3 :: some x :: ρ) S1) := by simp only [wpS, List.getElem?_cons_succ, List.getElem?_cons_zero, Option.some.injEq, exists_eq_left']; rfl
theorem ss_aug5 {x0 x1 x2 x3 x4 : Option D} {op : Bop} {e : Ex} : wpS G (.aug 5 op e) (x0 :: x1 :: x2 :: x3 :: x4 :: some x :: ρ) S C = (wpE G e (x0 :: x1 :: x2 :: x3 :: x4 :: some x :: ρ) S (fun y S1 => augR op x y S1 fun z S2 => C.nx (x0 :: x1 :: x2 :: x3 :: x4 :: some z :: ρ) S2) fun y S1 => C.ex y (x0 :: x1 :: x2 :: x3 :: x4 :: some x :: ρ) S1) := by simp only [wpS, List.getElem?_cons_succ, List.getElem?_cons_zero, Option.some.injEq, exists_eq_left']; rfl
theorem ss_aug6 {x0 x1 x2 x3 x4 x5 : Option D} {op : Bop} {e : Ex} : wpS G (.aug 6 op e) (x0 :: x1 :: x2 :: x3 :: x4 :: x5 :: some x :: ρ) S C = (wpE G e (x0 :: x1 :: x2 :: x3 :: x4 :: x5 :: some x :: ρ) S (fun y S1 => augR op x y S1 fun z S2 => C.nx (x0 :: x1 :: x2 :: x3 :: x4 :: x5 :: some z :: ρ) S2) fun y S1 => C.ex y (x0 :: x1 :: x2 :: x3 :: x4 :: x5 :: some x :: ρ) S1) := by simp only [wpS, List.getElem?_cons_succ, List.getElem?_cons_zero, Option.some.injEq, exists_eq_left']; rfl
theorem ss_aug7 {x0 x1 x2 x3 x4 x5 x6 : Option D} {op : Bop} {e : Ex} : wpS G (.aug 7 op e) (x0 :: x1 :: x2 :: x3 :: x4 :: x5 :: x6 :: some x :: ρ) S C = (wpE G e (x0 :: x1 :: x2 :: x3 :: x4 :: x5 :: x6 :: some x :: ρ) S (fun y S1 => augR op x y S1 fun z S2 => C.nx (x0 :: x1 :: x2 :: x3 :: x4 :: x5 :: x6 :: some z :: ρ) S2) fun y S1 => C.ex y (x0 :: x1 :: x2 :: x3 :: x4 :: x5 :: x6 :: some x :: ρ) S1) := by simp only [wpS, List.getElem?_cons_succ, List.getElem?_cons_zero, Option.some.injEq, exists_eq_left']; rfl
theorem ss_aug8 {x0 x1 x2 x3 x4 x5 x6 x7 : Option D} {op : Bop} {e : Ex} : wpS G (.aug 8 op e) (x0 :: x1 :: x2 :: x3 :: x4 :: x5 :: x6 :: x7 :: some x :: ρ) S C = (wpE G e (x0 :: x1 :: x2 :: x3 :: x4 :: x5 :: x6 :: x7 :: some x :: ρ) S (fun y S1 => augR op x y S1 fun z S2 => C.nx (x0 :: x1 :: x2 :: x3 :: x4 :: x5 :: x6 :: x7 :: some z :: ρ) S2) fun y S1 => C.ex y (x0 :: x1 :: x2 :: x3 :: x4 :: x5 :: x6 :: x7 :: some x :: ρ) S1) := by simp only [wpS, List.getElem?_cons_succ, List.getElem?_cons_zero, Option.some.injEq, exists_eq_left']; rfl
theorem ss_aug9 {x0 x1 x2 x3 x4 x5 x6 x7 x8 : Option D} {op : Bop} {e : Ex} : wpS G (.aug 9 op e) (x0 :: x1 :: x2 :: x3 :: x4 :: x5 :: x6 :: x7 :: x8 :: some x :: ρ) S C = (wpE G e (x0 :: x1 :: x2 :: x3 :: x4 :: x5 :: x6 :: x7 :: x8 :: some x :: ρ) S (fun y S1 => augR op x y S1 fun z S2 => C.nx (x0 :: x1 :: x2 :: x3 :: x4 :: x5 :: x6 :: x7 :: x8 :: some z :: ρ) S2) fun y S1 => C.ex y (x0 :: x1 :: x2 :: x3 :: x4 :: x5 :: x6 :: x7 :: x8 :: some x :: ρ) S1) := by simp only [wpS, List.getElem?_cons_succ, List.getElem?_cons_zero, Option.some.injEq, exists_eq_left']; rfl
theorem ss_aug10 {x0 x1 x2 x3 x4 x5 x6 x7 x8 x9 : Option D} {op : Bop} {e : Ex} : wpS G (.aug 10 op e) (x0 :: x1 :: x2 :: x3 :: x4 :: x5 :: x6 :: x7 :: x8 :: x9 :: some x :: ρ) S C = (wpE G e (x0 :: x1 :: x2 :: x3 :: x4 :: x5 :: x6 :: x7 :: x8 :: x9 :: some x :: ρ) S (fun y S1 => augR op x y S1 fun z S2 => C.nx (x0 :: x1 :: x2 :: x3 :: x4 :: x5 :: x6 :: x7 :: x8 :: x9 :: some z :: ρ) S2) fun y S1 => C.ex y (x0 :: x1 :: x2 :: x3 :: x4 :: x5 :: x6 :: x7 :: x8 :: x9 :: some x :: ρ) S1) := by simp only [wpS, List.getElem?_cons_succ, List.getElem?_cons_zero, Option.some.injEq, exists_eq_left']; rfl
theorem ss_aug11 {x0 x1 x2 x3 x4 x5 x6 x7 x8 x9 x10 : Option D} {op : Bop} {e : Ex} : wpS G (.aug 11 op e) (x0 :: x1 :: x2 :: x3 :: x4 :: x5 :: x6 :: x7 :: x8 :: x9 :: x10 :: some x :: ρ) S C = (wpE G e (x0 :: x1 :: x2 :: x3 :: x4 :: x5 :: x6 :: x7 :: x8 :: x9 :: x10 :: some x :: ρ) S (fun y S1 => augR op x y S1 fun z S2 => C.nx (x0 :: x1 :: x2 :: x3 :: x4 :: x5 :: x6 :: x7 :: x8 :: x9 :: x10 :: some z :: ρ) S2) fun y S1 => C.ex y (x0 :: x1 :: x2 :: x3 :: x4 :: x5 :: x6 :: x7 :: x8 :: x9 :: x10 :: some x :: ρ) S1) := by simp only [wpS, List.getElem?_cons_succ, List.getElem?_cons_zero, Option.some.injEq, exists_eq_left']; rfl
theorem ss_aug12 {x0 x1 x2 x3 x4 x5 x6 x7 x8 x9 x10 x11 : Option D} {op : Bop} {e : Ex} : wpS G (.aug 12 op e) (x0 :: x1 :: x2 :: x3 :: x4 :: x5 :: x6 :: x7 :: x8 :: x9 :: x10 :: x11 :: some x :: ρ) S C = (wpE G e (x0 :: x1 :: x2 :: x3 :: x4 :: x5 :: x6 :: x7 :: x8 :: x9 :: x10 :: x11 :: some x :: ρ) S (fun y S1 => augR op x y S1 fun z S2 => C.nx (x0 :: x1 :: x2 :: x3 :: x4 :: x5 :: x6 :: x7 :: x8 :: x9 :: x10 :: x11 :: some z :: ρ) S2) fun y S1 => C.ex y (x0 :: x1 :: x2 :: x3 :: x4 :: x5 :: x6 :: x7 :: x8 :: x9 :: x10 :: x11 :: some x :: ρ) S1) := by simp only [wpS, List.getElem?_cons_succ, List.getElem?_cons_zero, Option.some.injEq, exists_eq_left']; rfl
theorem ss_aug13 {x0 x1 x2 x3 x4 x5 x6 x7 x8 x9 x10 x11 x12 : Option D} {op : Bop} {e : Ex} : wpS G (.aug 13 op e) (x0 :: x1 :: x2 :: x3 :: x4 :: x5 :: x6 :: x7 :: x8 :: x9 :: x10 :: x11 :: x12 :: some x :: ρ) S C = (wpE G e (x0 :: x1 :: x2 :: x3 :: x4 :: x5 :: x6 :: x7 :: x8 :: x9 :: x10 :: x11 :: x12 :: some x :: ρ) S (fun y S1 => augR op x y S1 fun z S2 => C.nx (x0 :: x1 :: x2 :: x3 :: x4 :: x5 :: x6 :: x7 :: x8 :: x9 :: x10 :: x11 :: x12 :: some z :: ρ) S2) fun y S1 => C.ex y (x0 :: x1 :: x2 :: x3 :: x4 :: x5 :: x6 :: x7 :: x8 :: x9 :: x10 :: x11 :: x12 :: some x :: ρ) S1) := by simp only [wpS, List.getElem?_cons_succ, List.getElem?_cons_zero, Option.some.injEq, exists_eq_left']; rfl
theorem ss_aug14 {x0 x1 x2 x3 x4 x5 x6 x7 x8 x9 x10 x11 x12 x13 : Option D} {op : Bop} {e : Ex} : wpS G (.aug 14 op e) (x0 :: x1 :: x2 :: x3 :: x4 :: x5 :: x6 :: x7 :: x8 :: x9 :: x10 :: x11 :: x12 :: x13 :: some x :: ρ) S C = (wpE G e (x0 :: x1 :: x2 :: x3 :: x4 :: x5 :: x6 :: x7 :: x8 :: x9 :: x10 :: x11 :: x12 :: x13 :: some x :: ρ) S (fun y S1 => augR op x y S1 fun z S2 => C.nx (x0 :: x1 :: x2 :: x3 :: x4 :: x5 :: x6 :: x7 :: x8 :: x9 :: x10 :: x11 :: x12 :: x13 :: some z :: ρ) S2) fun y S1 => C.ex y (x0 :: x1 :: x2 :: x3 :: x4 :: x5 :: x6 :: x7 :: x8 :: x9 :: x10 :: x11 :: x12 :: x13 :: some x :: ρ) S1) := by simp only [wpS, List.getElem?_cons_succ, List.getElem?_cons_zero, Option.some.injEq, exists_eq_left']; rfl
theorem ss_aug15 {x0 x1 x2 x3 x4 x5 x6 x7 x8 x9 x10 x11 x12 x13 x14 : Option D} {op : Bop} {e : Ex} : wpS G (.aug 15 op e) (x0 :: x1 :: x2 :: x3 :: x4 :: x5 :: x6 :: x7 :: x8 :: x9 :: x10 :: x11 :: x12 :: x13 :: x14 :: some x :: ρ) S C = (wpE G e (x0 :: x1 :: x2 :: x3 :: x4 :: x5 :: x6 :: x7 :: x8 :: x9 :: x10 :: x11 :: x12 :: x13 :: x14 :: some x :: ρ) S (fun y S1 => augR op x y S1 fun z S2 => C.nx (x0 :: x1 :: x2 :: x3 :: x4 :: x5 :: x6 :: x7 :: x8 :: x9 :: x10 :: x11 :: x12 :: x13 :: x14 :: some z :: ρ) S2) fun y S1 => C.ex y (x0 :: x1 :: x2 :: x3 :: x4 :: x5 :: x6 :: x7 :: x8 :: x9 :: x10 :: x11 :: x12 :: x13 :: x14 :: some x :: ρ) S1) := by simp only [wpS, List.getElem?_cons_succ, List.getElem?_cons_zero, Option.some.injEq, exists_eq_left']; rfl
theorem ss_aug16 {x0 x1 x2 x3 x4 x5 x6 x7 x8 x9 x10 x11 x12 x13 x14 x15 : Option D} {op : Bop} {e : Ex} : wpS G (.aug 16 op e) (x0 :: x1 :: x2 :: x3 :: x4 :: x5 :: x6 :: x7 :: x8 :: x9 :: x10 :: x11 :: x12 :: x13 :: x14 :: x15 :: some x :: ρ) S C = (wpE G e (x0 :: x1 :: x2 :: x3 :: x4 :: x5 :: x6 :: x7 :: x8 :: x9 :: x10 :: x11 :: x12 :: x13 :: x14 :: x15 :: some x :: ρ) S (fun y S1 => augR op x y S1 fun z S2 => C.nx (x0 :: x1 :: x2 :: x3 :: x4 :: x5 :: x6 :: x7 :: x8 :: x9 :: x10 :: x11 :: x12 :: x13 :: x14 :: x15 :: some z :: ρ) S2) fun y S1 => C.ex y (x0 :: x1 :: x2 :: x3 :: x4 :: x5 :: x6 :: x7 :: x8 :: x9 :: x10 :: x11 :: x12 :: x13 :: x14 :: x15 :: some x :: ρ) S1) := by simp only [wpS, List.getElem?_cons_succ, List.getElem?_cons_zero, Option.some.injEq, exists_eq_left']; rfl
theorem ss_aug17 {x0 x1 x2 x3 x4 x5 x6 x7 x8 x9 x10 x11 x12 x13 x14 x15 x16 : Option D} {op : Bop} {e : Ex} : wpS G (.aug 17 op e) (x0 :: x1 :: x2 :: x3 :: x4 :: x5 :: x6 :: x7 :: x8 :: x9 :: x10 :: x11 :: x12 :: x13 :: x14 :: x15 :: x16 :: some x :: ρ) S C = (wpE G e (x0 :: x1 :: x2 :: x3 :: x4 :: x5 :: x6 :: x7 :: x8 :: x9 :: x10 :: x11 :: x12 :: x13 :: x14 :: x15 :: x16 :: some x :: ρ) S (fun y S1 => augR op x y S1 fun z S2 => C.nx (x0 :: x1 :: x2 :: x3 :: x4 :: x5 :: x6 :: x7 :: x8 :: x9 :: x10 :: x11 :: x12 :: x13 :: x14 :: x15 :: x16 :: some z :: ρ) S2) fun y S1 => C.ex y (x0 :: x1 :: x2 :: x3 :: x4 :: x5 :: x6 :: x7 :: x8 :: x9 :: x10 :: x11 :: x12 :: x13 :: x14 :: x15 :: x16 :: some x :: ρ) S1) := by simp only [wpS, List.getElem?_cons_succ, List.getElem?_cons_zero, Option.some.injEq, exists_eq_left']; rfl
theorem ss_aug18 {x0 x1 x2 x3 x4 x5 x6 x7 x8 x9 x10 x11 x12 x13 x14 x15 x16 x17 : Option D} {op : Bop} {e : Ex} : wpS G (.aug 18 op e) (x0 :: x1 :: x2 :: x3 :: x4 :: x5 :: x6 :: x7 :: x8 :: x9 :: x10 :: x11 :: x12 :: x13 :: x14 :: x15 :: x16 :: x17 :: some x :: ρ) S C = (wpE G e (x0 :: x1 :: x2 :: x3 :: x4 :: x5 :: x6 :: x7 :: x8 :: x9 :: x10 :: x11 :: x12 :: x13 :: x14 :: x15 :: x16 :: x17 :: some x :: ρ) S (fun y S1 => augR op x y S1 fun z S2 => C.nx (x0 :: x1 :: x2 :: x3 :: x4 :: x5 :: x6 :: x7 :: x8 :: x9 :: x10 :: x11 :: x12 :: x13 :: x14 :: x15 :: x16 :: x17 :: some z :: ρ) S2) fun y S1 => C.ex y (x0 :: x1 :: x2 :: x3 :: x4 :: x5 :: x6 :: x7 :: x8 :: x9 :: x10 :: x11 :: x12 :: x13 :: x14 :: x15 :: x16 :: x17 :: some x :: ρ) S1) := by simp only [wpS, List.getElem?_cons_succ, List.getElem?_cons_zero, Option.some.injEq, exists_eq_left']; rfl
theorem ss_aug19 {x0 x1 x2 x3 x4 x5 x6 x7 x8 x9 x10 x11 x12 x13 x14 x15 x16 x17 x18 : Option D} {op : Bop} {e : Ex} : wpS G (.aug 19 op e) (x0 :: x1 :: x2 :: x3 :: x4 :: x5 :: x6 :: x7 :: x8 :: x9 :: x10 :: x11 :: x12 :: x13 :: x14 :: x15 :: x16 :: x17 :: x18 :: some x :: ρ) S C = (wpE G e (x0 :: x1 :: x2 :: x3 :: x4 :: x5 :: x6 :: x7 :: x8 :: x9 :: x10 :: x11 :: x12 :: x13 :: x14 :: x15 :: x16 :: x17 :: x18 :: some x :: ρ) S (fun y S1 => augR op x y S1 fun z S2 => C.nx (x0 :: x1 :: x2 :: x3 :: x4 :: x5 :: x6 :: x7 :: x8 :: x9 :: x10 :: x11 :: x12 :: x13 :: x14 :: x15 :: x16 :: x17 :: x18 :: some z :: ρ) S2) fun y S1 => C.ex y (x0 :: x1 :: x2 :: x3 :: x4 :: x5 :: x6 :: x7 :: x8 :: x9 :: x10 :: x11 :: x12 :: x13 :: x14 :: x15 :: x16 :: x17 :: x18 :: some x :: ρ) S1) := by simp only [wpS, List.getElem?_cons_succ, List.getElem?_cons_zero, Option.some.injEq, exists_eq_left']; rfl
theorem ss_aug20 {x0 x1 x2 x3 x4 x5 x6 x7 x8 x9 x10 x11 x12 x13 x14 x15 x16 x17 x18 x19 : Option D} {op : Bop} {e : Ex} : wpS G (.aug 20 op e) (x0 :: x1 :: x2 :: x3 :: x4 :: x5 :: x6 :: x7 :: x8 :: x9 :: x10 :: x11 :: x12 :: x13 :: x14 :: x15 :: x16 :: x17 :: x18 :: x19 :: some x :: ρ) S C = (wpE G e (x0 :: x1 :: x2 :: x3 :: x4 :: x5 :: x6 :: x7 :: x8 :: x9 :: x10 :: x11 :: x12 :: x13 :: x14 :: x15 :: x16 :: x17 :: x18 :: x19 :: some x :: ρ) S (fun y S1 => augR op x y S1 fun z S2 => C.nx (x0 :: x1 :: x2 :: x3 :: x4 :: x5 :: x6 :: x7 :: x8 :: x9 :: x10 :: x11 :: x12 :: x13 :: x14 :: x15 :: x16 :: x17 :: x18 :: x19 :: some z :: ρ) S2) fun y S1 => C.ex y (x0 :: x1 :: x2 :: x3 :: x4 :: x5 :: x6 :: x7 :: x8 :: x9 :: x10 :: x11 :: x12 :: x13 :: x14 :: x15 :: x16 :: x17 :: x18 :: x19 :: some x :: ρ) S1) := by simp only [wpS, List.getElem?_cons_succ, List.getElem?_cons_zero, Option.some.injEq, exists_eq_left']; rfl
theorem ss_aug21 {x0 x1 x2 x3 x4 x5 x6 x7 x8 x9 x10 x11 x12 x13 x14 x15 x16 x17 x18 x19 x20 : Option D} {op : Bop} {e : Ex} : wpS G (.aug 21 op e) (x0 :: x1 :: x2 :: x3 :: x4 :: x5 :: x6 :: x7 :: x8 :: x9 :: x10 :: x11 :: x12 :: x13 :: x14 :: x15 :: x16 :: x17 :: x18 :: x19 :: x20 :: some x :: ρ) S C = (wpE G e (x0 :: x1 :: x2 :: x3 :: x4 :: x5 :: x6 :: x7 :: x8 :: x9 :: x10 :: x11 :: x12 :: x13 :: x14 :: x15 :: x16 :: x17 :: x18 :: x19 :: x20 :: some x :: ρ) S (fun y S1 => augR op x y S1 fun z S2 => C.nx (x0 :: x1 :: x2 :: x3 :: x4 :: x5 :: x6 :: x7 :: x8 :: x9 :: x10 :: x11 :: x12 :: x13 :: x14 :: x15 :: x16 :: x17 :: x18 :: x19 :: x20 :: some z :: ρ) S2) fun y S1 => C.ex y (x0 :: x1 :: x2 :: x3 :: x4 :: x5 :: x6 :: x7 :: x8 :: x9 :: x10 :: x11 :: x12 :: x13 :: x14 :: x15 :: x16 :: x17 :: x18 :: x19 :: x20 :: some x :: ρ) S1) := by simp only [wpS, List.getElem?_cons_succ, List.getElem?_cons_zero, Option.some.injEq, exists_eq_left']; rfl
theorem ss_aug22 {x0 x1 x2 x3 x4 x5 x6 x7 x8 x9 x10 x11 x12 x13 x14 x15 x16 x17 x18 x19 x20 x21 : Option D} {op : Bop} {e : Ex} : wpS G (.aug 22 op e) (x0 :: x1 :: x2 :: x3 :: x4 :: x5 :: x6 :: x7 :: x8 :: x9 :: x10 :: x11 :: x12 :: x13 :: x14 :: x15 :: x16 :: x17 :: x18 :: x19 :: x20 :: x21 :: some x :: ρ) S C = (wpE G e (x0 :: x1 :: x2 :: x3 :: x4 :: x5 :: x6 :: x7 :: x8 :: x9 :: x10 :: x11 :: x12 :: x13 :: x14 :: x15 :: x16 :: x17 :: x18 :: x19 :: x20 :: x21 :: some x :: ρ) S (fun y S1 => augR op x y S1 fun z S2 => C.nx (x0 :: x1 :: x2 :: x3 :: x4 :: x5 :: x6 :: x7 :: x8 :: x9 :: x10 :: x11 :: x12 :: x13 :: x14 :: x15 :: x16 :: x17 :: x18 :: x19 :: x20 :: x21 :: some z :: ρ) S2) fun y S1 => C.ex y (x0 :: x1 :: x2 :: x3 :: x4 :: x5 :: x6 :: x7 :: x8 :: x9 :: x10 :: x11 :: x12 :: x13 :: x14 :: x15 :: x16 :: x17 :: x18 :: x19 :: x20 :: x21 :: some x :: ρ) S1) := by simp only [wpS, List.getElem?_cons_succ, List.getElem?_cons_zero, Option.some.injEq, exists_eq_left']; rfl
theorem ss_aug23 {x0 x1 x2 x3 x4 x5 x6 x7 x8 x9 x10 x11 x12 x13 x14 x15 x16 x17 x18 x19 x20 x21 x22 : Option D} {op : Bop} {e : Ex} : wpS G (.aug 23 op e) (x0 :: x1 :: x2 :: x3 :: x4 :: x5 :: x6 :: x7 :: x8 :: x9 :: x10 :: x11 :: x12 :: x13 :: x14 :: x15 :: x16 :: x17 :: x18 :: x19 :: x20 :: x21 :: x22 :: some x :: ρ) S C = (wpE G e (x0 :: x1 :: x2 :: x3 :: x4 :: x5 :: x6 :: x7 :: x8 :: x9 :: x10 :: x11 :: x12 :: x13 :: x14 :: x15 :: x16 :: x17 :: x18 :: x19 :: x20 :: x21 :: x22 :: some x :: ρ) S (fun y S1 => augR op x y S1 fun z S2 => C.nx (x0 :: x1 :: x2 :: x3 :: x4 :: x5 :: x6 :: x7 :: x8 :: x9 :: x10 :: x11 :: x12 :: x13 :: x14 :: x15 :: x16 :: x17 :: x18 :: x19 :: x20 :: x21 :: x22 :: some z :: ρ) S2) fun y S1 => C.ex y (x0 :: x1 :: x2 :: x3 :: x4 :: x5 :: x6 :: x7 :: x8 :: x9 :: x10 :: x11 :: x12 :: x13 :: x14 :: x15 :: x16 :: x17 :: x18 :: x19 :: x20 :: x21 :: x22 :: some x :: ρ) S1) := by simp only [wpS, List.getElem?_cons_succ, List.getElem?_cons_zero, Option.some.injEq, exists_eq_left']; rfl
theorem au_add_i : augR .add (.int i) (.int j) S Q = (Q (.int (i + j)) S) := rfl
theorem au_sub_i : augR .sub (.int i) (.int j) S Q = (Q (.int (i - j)) S) := rfl
theorem au_add_s : augR .add (.str s) (.str t) S Q = (s.length + t.length ≤ LIM ∧ Q (.str (s ++ t)) S) := rfl
theorem wb_nil : wpB G [] ρ S C = (C.nx ρ S) := wpB_nil
theorem wb_one {s : Sm} : wpB G [s] ρ S C = (wpS G s ρ S C) := by rw [wpB_cons]; simp only [wpB_nil]
theorem hs_nil {x : Exn} : wpHs G [] x ρ S C = (C.ex x ρ S) := by simp only [wpHs]
theorem hs_cn {x : Exn} {c : Nat} {b : List Sm} {hs : List Hd} : wpHs G (.mk c none b :: hs) x ρ S C = (if G.anc x.c c = true then wpB G b ρ S { nx := C.nx, rt := C.rt, bk := C.bk, ct := C.ct, ex := fun _ _ _ => False } else wpHs G hs x ρ S C) := by simp only [wpHs, wpH]
theorem hs_cs {x : Exn} {c i : Nat} {b : List Sm} {hs : List Hd} : wpHs G (.mk c (some i) b :: hs) x ρ S C = (if G.anc x.c c = true then (∀ a d, wpB G b (ρ.set i (some (.exc a d x.c x.ns x.fs))) S { nx := fun ρ1 S1 => C.nx (ρ1.set i none) S1, rt := C.rt, bk := fun ρ1 S1 => C.bk (ρ1.set i none) S1, ct := fun ρ1 S1 => C.ct (ρ1.set i none) S1, ex := fun _ _ _ => False }) else wpHs G hs x ρ S C) := by simp only [wpHs, wpH]
theorem ce_rt {d : D} {X : XPost} : (ctEnd Q X).rt d S = (∃ S'', Sub S'' S ∧ Q d S'') := rfl
theorem ce_nx {X : XPost} : (ctEnd Q X).nx ρ S = (∃ S'', Sub S'' S ∧ Q .non S'') := rfl
theorem ce_ex {x : Exn} {X : XPost} : (ctEnd Q X).ex x ρ S = (∃ S'', Sub S'' S ∧ X x S'') := rfl
theorem an_B {c k : Nat} : ancB c k = (c == k || k == 0 || k == 1) := rfl
end
end MP
/-! words shared by the laws: drawing states, sizes, texts -/
namespace MP
open PySem PySem.Spec PyProof.Rows L2
mutual
/-- no text in it is too long, no tuple -/
def smal : D → Bool
  | .str s => decide (s.length ≤ 1000000)
  | .tup xs => decide (xs.length ≤ 1000000) && smalL xs
  | .lst xs => decide (xs.length ≤ 1000000) && smalL xs
  | _ => true
def smalL : List D → Bool
  | [] => true
  | x :: xs => smal x && smalL xs
end
theorem smalL_mem : ∀ {xs : List D}, smalL xs = true → ∀ x ∈ xs, smal x = true
  | [], _, _, h => by cases h
  | y :: ys, h, x, hx => by
    simp only [smalL, Bool.and_eq_true] at h
    rcases List.mem_cons.mp hx with e | e
    · rw [e]; exact h.1
    · exact smalL_mem h.2 x e
theorem smalL_of : ∀ {xs : List D}, (∀ x ∈ xs, smal x = true) → smalL xs = true
  | [], _ => rfl
  | y :: ys, h => by
    simp only [smalL, Bool.and_eq_true]
    exact ⟨h y (List.mem_cons_self ..), smalL_of fun x hx => h x (List.mem_cons_of_mem _ hx)⟩
theorem depL_of {n : Nat} : ∀ {xs : List D}, (∀ x ∈ xs, dep x ≤ n) → depL xs ≤ n
  | [], _ => Nat.zero_le _
  | y :: ys, h => by
    simp only [depL]
    exact Nat.max_le.mpr ⟨h y (List.mem_cons_self ..), depL_of fun x hx => h x (List.mem_cons_of_mem _ hx)⟩
theorem smal_str {v : D} (h : smal v = true) : ∀ s, v = .str s → s.length ≤ 1000000 := fun s e => by
  subst e; simpa [smal] using h
theorem plainL_app : ∀ (xs ys : List D), plainL (xs ++ ys) = (plainL xs && plainL ys)
  | [], ys => by simp [plainL]
  | x :: xs, ys => by simp [plainL, plainL_app xs ys, Bool.and_assoc]
theorem smalL_app : ∀ (xs ys : List D), smalL (xs ++ ys) = (smalL xs && smalL ys)
  | [], ys => by simp [smalL]
  | x :: xs, ys => by simp [smalL, smalL_app xs ys, Bool.and_assoc]
theorem depL_app : ∀ (xs ys : List D), depL (xs ++ ys) = max (depL xs) (depL ys)
  | [], ys => by simp [depL]
  | x :: xs, ys => by simp only [List.cons_append, depL, depL_app xs ys]; omega
theorem dep_mem : ∀ {xs : List D} {x : D}, x ∈ xs → dep x ≤ depL xs
  | y :: ys, x, h => by
    simp only [depL]
    rcases List.mem_cons.mp h with e | e
    · subst e; exact Nat.le_max_left ..
    · exact Nat.le_trans (dep_mem e) (Nat.le_max_right ..)
/-- a value that may be handed on: plain, small, not deep -/
structure Lt (n : Nat) (d : D) : Prop where
  p : plain d = true
  s : smal d = true
  d : dep d ≤ n
theorem Lt.up {n m : Nat} {d : D} (h : Lt n d) (k : n ≤ m) : Lt m d := ⟨h.1, h.2, Nat.le_trans h.3 k⟩
theorem Lt.tup {n : Nat} {xs : List D} (h : ∀ x ∈ xs, Lt n x) (l : xs.length ≤ 1000000) : Lt (n + 1) (.tup xs) :=
  ⟨by simp only [plain]; exact plainL_of fun x hx => (h x hx).1, by simp only [smal, smalL_of fun x hx => (h x hx).2, Bool.and_true]; exact decide_eq_true l, by simp only [dep]; exact Nat.succ_le_succ (depL_of fun x hx => (h x hx).3)⟩
theorem Lt.lst {n : Nat} {xs : List D} (h : ∀ x ∈ xs, Lt n x) (l : xs.length ≤ 1000000) : Lt (n + 1) (.lst xs) :=
  ⟨by simp only [plain]; exact plainL_of fun x hx => (h x hx).1, by simp only [smal, smalL_of fun x hx => (h x hx).2, Bool.and_true]; exact decide_eq_true l, by simp only [dep]; exact Nat.succ_le_succ (depL_of fun x hx => (h x hx).3)⟩
theorem Lt.mem {n : Nat} {xs : List D} (h : Lt n (.tup xs)) : ∀ x ∈ xs, Lt (n - 1) x := fun x hx => by
  have h1 := h.1
  have h2 := h.2
  have h3 := h.3
  simp only [plain] at h1
  simp only [smal, Bool.and_eq_true] at h2
  simp only [dep] at h3
  exact ⟨plainL_mem h1 x hx, smalL_mem h2.2 x hx, by have := dep_mem hx; omega⟩
theorem Lt.len {n : Nat} {xs : List D} (h : Lt n (.tup xs)) : xs.length ≤ 1000000 := by
  have h2 := h.2
  simp only [smal, Bool.and_eq_true, decide_eq_true_eq] at h2
  exact h2.1
theorem lt_str {s : List Nat} {n : Nat} (h : s.length ≤ 1000000) : Lt n (.str s) := ⟨rfl, decide_eq_true h, Nat.zero_le _⟩
theorem lt_int {i : Int} {n : Nat} : Lt n (.int i) := ⟨rfl, rfl, Nat.zero_le _⟩
theorem lt_bl {b : Bool} {n : Nat} : Lt n (.bl b) := ⟨rfl, rfl, Nat.zero_le _⟩
theorem lt_non {n : Nat} : Lt n .non := ⟨rfl, rfl, Nat.zero_le _⟩
/-! drawing states -/
structure GstP (Good : Ob → Prop) where
  st : Ob
  ok : Good st
def drF (Good : Ob → Prop) {α : Type} (a : Addr) (P : α → Prop) (f : α → D) (S : Sto) (Q : Post) : Prop := ∃ σ : GstP Good, S a = some σ.st ∧ ∀ (σ : GstP Good) (x : α), P x → Q (f x) (supd S a σ.st)
section
variable {Good : Ob → Prop} {α : Type} {a p q : Addr} {P : α → Prop} {f : α → D} {S : Sto} {Q : Post} {σ : GstP Good} {o u : Ob}
theorem drF_at : drF Good a P f (supd S a σ.st) Q = ∀ (σ : GstP Good) (x : α), P x → Q (f x) (supd S a σ.st) :=
  propext ⟨fun ⟨_, _, h⟩ => by simpa only [supd_supd] using h, fun h => ⟨σ, supd_at, by simpa only [supd_supd] using h⟩⟩
theorem drF_at2 (h : p ≠ a) : drF Good a P f (supd (supd S a σ.st) p o) Q = ∀ (σ : GstP Good) (x : α), P x → Q (f x) (supd (supd S a σ.st) p o) := by
  rw [supd_comm h, drF_at]
  apply propext
  exact ⟨fun k σ x hx => by rw [supd_comm h]; exact k σ x hx, fun k σ x hx => by rw [← supd_comm h]; exact k σ x hx⟩
theorem drF_at3 (h : p ≠ a) (h2 : q ≠ a) : drF Good a P f (supd (supd (supd S a σ.st) p o) q u) Q = ∀ (σ : GstP Good) (x : α), P x → Q (f x) (supd (supd (supd S a σ.st) p o) q u) := by
  rw [supd_comm h, supd_comm h2, drF_at]
  apply propext
  exact ⟨fun k σ x hx => by rw [supd_comm h, supd_comm h2]; exact k σ x hx, fun k σ x hx => by rw [← supd_comm h2, ← supd_comm h]; exact k σ x hx⟩
/-- how a draw's promise is opened -/
theorem drF_go (h : drF Good a P f S Q) : ∃ (S0 : Sto) (σ : GstP Good), S = supd S0 a σ.st ∧ ∀ (σ : GstP Good) (x : α), P x → ∃ S'', Sub S'' (supd S0 a σ.st) ∧ Q (f x) S'' := by
  obtain ⟨σ, h1, h2⟩ := h
  exact ⟨S, σ, (supd_self h1).symm, fun σ x hx => ⟨_, .refl _, h2 σ x hx⟩⟩
end
/-- a comprehension whose turns draw -/
theorem lc_drw {Good : Ob → Prop} {α β : Type} {src : Option Addr} {all : List D} {tg : Tg} {ρ : Rho} {el : Rho → Sto → (Option D → Sto → Prop) → Prop} {K : List D → Sto → Prop} {S : Sto} {a : Addr} {σ : GstP Good} (T : Sto → Sto) (g : β → D) (P : α → Prop) (f : α → D) (l : List β) (hst : ∀ σ : GstP Good, Stab src all (T (supd S a σ.st))) (hl : l.length ≤ sizeLine)
    (h : ∀ x ∈ l, ∃ ρ1, setT tg (g x) ρ = some ρ1 ∧ ∀ (σ : GstP Good) (K' : Option D → Sto → Prop), (∀ (σ : GstP Good) y, P y → K' (some (f y)) (T (supd S a σ.st))) → el ρ1 (T (supd S a σ.st)) K')
    (hk : ∀ (σ : GstP Good) (ys : List α), ys.length = l.length → (∀ y ∈ ys, P y) → K (ys.map f) (T (supd S a σ.st))) : lcW src all tg ρ el K (l.map g) [] (T (supd S a σ.st)) := by
  have key : ∀ (m : List β) (acc : List α) (σ : GstP Good), (∀ x ∈ m, x ∈ l) → acc.length + m.length = l.length → (∀ y ∈ acc, P y) → lcW src all tg ρ el K (m.map g) (acc.map f) (T (supd S a σ.st)) := by
    intro m
    induction m with
    | nil =>
      intro acc σ _ h1 h2
      simp only [List.map_nil, lcW]
      exact ⟨hst σ, hk σ acc (by simpa using h1) h2⟩
    | cons x m ih =>
      intro acc σ hm h1 h2
      simp only [List.map_cons, lcW]
      obtain ⟨ρ1, h3, h4⟩ := h x (hm x (List.mem_cons_self ..))
      refine ⟨hst σ, by simp at h1 ⊢; omega, ρ1, h3, h4 σ _ fun σ y hy => ?_⟩
      have := ih (acc ++ [y]) σ (fun z hz => hm z (List.mem_cons_of_mem _ hz)) (by simp at h1 ⊢; omega) (fun z hz => by
        rcases List.mem_append.mp hz with e | e
        · exact h2 z e
        · rw [List.mem_singleton.mp e]; exact hy)
      simpa using this
  exact key l [] σ (fun _ h => h) (by simp) (fun _ h => by cases h)
/-- a loop whose turns are alike -/
theorem forW_all {src : Option Addr} {all : List D} {tg : Tg} {body : Rho → Sto → Ct → Prop} {C : Ct} (I : Rho → Sto → Prop) (h0 : ∀ ρ S, I ρ S → Stab src all S ∧ C.nx ρ S) : ∀ (xs : List D), (∀ x ∈ xs, ∀ ρ S, I ρ S → Stab src all S ∧ ∃ ρ1, setT tg x ρ = some ρ1 ∧ ∀ nx : Rho → Sto → Prop, (∀ ρ' S', I ρ' S' → nx ρ' S') → body ρ1 S { nx := nx, rt := C.rt, bk := C.nx, ct := nx, ex := C.ex }) → ∀ (ρ : Rho) (S : Sto), I ρ S → forW src all tg body C xs ρ S
  | [], _, ρ, S, h => by simp only [forW]; exact h0 ρ S h
  | x :: xs, hs, ρ, S, h => by
    simp only [forW]
    obtain ⟨h1, ρ1, h2, h3⟩ := hs x (List.mem_cons_self ..) ρ S h
    exact ⟨h1, ρ1, h2, h3 _ fun ρ' S' q => forW_all I h0 xs (fun y hy => hs y (List.mem_cons_of_mem _ hy)) ρ' S' q⟩
/-- a loop over typed items, by what is done and what is left -/
theorem forW_lr {α : Type} {src : Option Addr} {all : List D} {tg : Tg} {body : Rho → Sto → Ct → Prop} {C : Ct} (g : α → D) (l : List α) (I : List α → Rho → Sto → Prop) (h0 : ∀ ρ S, I l ρ S → Stab src all S ∧ C.nx ρ S)
    (hs : ∀ (dn : List α) (x : α) (r : List α), dn ++ x :: r = l → ∀ ρ S, I dn ρ S → Stab src all S ∧ ∃ ρ1, setT tg (g x) ρ = some ρ1 ∧ ∀ nx : Rho → Sto → Prop, (∀ ρ' S', I (dn ++ [x]) ρ' S' → nx ρ' S') → body ρ1 S { nx := nx, rt := C.rt, bk := C.nx, ct := nx, ex := C.ex }) (ρ : Rho) (S : Sto) (h : I [] ρ S) : forW src all tg body C (l.map g) ρ S := by
  have key : ∀ (m dn : List α) (ρ : Rho) (S : Sto), dn ++ m = l → I dn ρ S → forW src all tg body C (m.map g) ρ S := by
    intro m
    induction m with
    | nil =>
      intro dn ρ S e h
      rw [List.append_nil] at e
      subst e
      simp only [List.map_nil, forW]
      exact h0 ρ S h
    | cons x m ih =>
      intro dn ρ S e h
      simp only [List.map_cons, forW]
      obtain ⟨h1, ρ1, h2, h3⟩ := hs dn x m e ρ S h
      exact ⟨h1, ρ1, h2, h3 _ fun ρ' S' q => ih (dn ++ [x]) ρ' S' (by rw [← e]; simp) q⟩
  exact key l [] ρ S rfl h
theorem put_ne {G : GE} {i j : Nat} {sp : SpecD} (h : (j == i) = false) : (G.put i sp).sp j = G.sp j := if_neg (by simpa using h)
theorem put_eq {G : GE} {i : Nat} {sp : SpecD} : (G.put i sp).sp i = sp := if_pos rfl
theorem put_anc {G : GE} {i : Nat} {sp : SpecD} : (G.put i sp).anc = G.anc := rfl
/-! texts -/
def allIn (s t : List Nat) : Bool := s.all fun c => decide (c ∈ t)
theorem allIn_of {s t : List Nat} (h : ∀ c ∈ s, c ∈ t) : allIn s t = true := List.all_eq_true.mpr fun c hc => decide_eq_true (h c hc)
theorem allIn_cons {c : Nat} {s t : List Nat} : allIn (c :: s) t = (decide (c ∈ t) && allIn s t) := rfl
theorem allIn_app {r s t : List Nat} : allIn (r ++ s) t = (allIn r t && allIn s t) := List.all_append
theorem allIn_mem {s t : List Nat} (h : allIn s t = true) : ∀ c ∈ s, c ∈ t := fun c hc => of_decide_eq_true (List.all_eq_true.mp h c hc)
theorem joinL_len (sep : List Nat) : ∀ parts : List (List Nat), (TL.joinL sep parts).length ≤ (parts.map List.length).sum + parts.length * sep.length
  | [] => by simp [TL.joinL]
  | [p] => by simp [TL.joinL]
  | p :: q :: r => by
    have := joinL_len sep (q :: r)
    simp only [TL.joinL, List.length_append, List.map_cons, List.sum_cons, List.length_cons] at this ⊢
    simp only [Nat.add_mul] at this ⊢
    generalize r.length * sep.length = t at *
    omega
theorem join1 : ∀ (l : List Nat), TL.joinL [] (l.map fun c => [c]) = l
  | [] => rfl
  | [c] => rfl
  | c :: d :: r => by
    have := join1 (d :: r)
    simp only [List.map_cons] at this ⊢
    simp only [TL.joinL, List.nil_append, this]
    rfl
theorem joinL_nil (parts : List (List Nat)) : TL.joinL [] parts = parts.flatten := by
  match parts with
  | [] => rfl
  | [p] => simp [TL.joinL]
  | p :: q :: r =>
    have := joinL_nil (q :: r)
    simp only [TL.joinL, List.nil_append, this]
    simp
theorem ones_sum (l : List Nat) : ((l.map fun c => [c]).map List.length).sum = l.length := by
  induction l with
  | nil => rfl
  | cons a l ih => simp only [List.map_cons, List.sum_cons, List.length_cons, ih, List.length_nil]; omega
theorem spl_app (c : Nat) : ∀ (s t acc : List Nat), TL.spl [c] 0 acc (s ++ c :: t) = TL.spl [c] 0 acc s ++ TL.spl [c] 0 [] t
  | [], t, acc => by
    rw [List.nil_append, TL.spl_nil, TL.spl_hit (by simp [TL.pre])]; rfl
  | x :: s, t, acc => by
    by_cases h : c = x
    · rw [List.cons_append, TL.spl_hit (by simp [TL.pre, h]), TL.spl_hit (by simp [TL.pre, h])]
      have := spl_app c s t []
      simpa using this
    · rw [List.cons_append, TL.spl_miss (by simp [TL.pre]; exact fun e => h e.symm), TL.spl_miss (by simp [TL.pre]; exact fun e => h e.symm)]
      exact spl_app c s t _
theorem cmulR {i c : Int} (h0 : -(2 ^ 64) < c) (h1 : c < 2 ^ 64) : CMul i c := .inr ⟨h0, h1⟩
theorem cmulL {i c : Int} (h0 : -(2 ^ 64) < c) (h1 : c < 2 ^ 64) : CMul c i := .inl ⟨h0, h1⟩
theorem pos_mod {m : Int} (r : Int) (h : 1 ≤ m) : 0 ≤ r % m ∧ r % m < m := ⟨Int.emod_nonneg _ (by omega), Int.emod_lt_of_pos _ (by omega)⟩
def isIntD : D → Bool
  | .int _ => true
  | _ => false
def btw (l m : Int) : D → Bool
  | .int i => decide (l ≤ i) && decide (i ≤ m)
  | _ => false
abbrev CAPS : List Nat := [65, 66, 67, 68, 69, 70, 71, 72, 73, 74, 75, 76, 77, 78, 79, 80, 81, 82, 83, 84, 85, 86, 87, 88, 89, 90]
abbrev SMLS : List Nat := [97, 98, 99, 100, 101, 102, 103, 104, 105, 106, 107, 108, 109, 110, 111, 112, 113, 114, 115, 116, 117, 118, 119, 120, 121, 122]
theorem tyb_int_non : tyB .int .non = false := rfl
theorem tyb_int_bl {b : Bool} : tyB .int (.bl b) = true := rfl
theorem tyb_int_int {i : Int} : tyB .int (.int i) = true := rfl
theorem tyb_int_str {s : List Nat} : tyB .int (.str s) = false := rfl
theorem tyb_int_tup {l : List D} : tyB .int (.tup l) = false := rfl
theorem tyb_int_lst {l : List D} : tyB .int (.lst l) = false := rfl
theorem tyb_int_scr {l : List D} : tyB .int (.scr l) = false := rfl
theorem tyb_bool_non : tyB .bool .non = false := rfl
theorem tyb_bool_bl {b : Bool} : tyB .bool (.bl b) = true := rfl
theorem tyb_bool_int {i : Int} : tyB .bool (.int i) = false := rfl
theorem tyb_bool_str {s : List Nat} : tyB .bool (.str s) = false := rfl
theorem tyb_bool_tup {l : List D} : tyB .bool (.tup l) = false := rfl
theorem tyb_bool_lst {l : List D} : tyB .bool (.lst l) = false := rfl
theorem tyb_bool_scr {l : List D} : tyB .bool (.scr l) = false := rfl
theorem tyb_str_non : tyB .str .non = false := rfl
theorem tyb_str_bl {b : Bool} : tyB .str (.bl b) = false := rfl
theorem tyb_str_int {i : Int} : tyB .str (.int i) = false := rfl
theorem tyb_str_str {s : List Nat} : tyB .str (.str s) = true := rfl
theorem tyb_str_tup {l : List D} : tyB .str (.tup l) = false := rfl
theorem tyb_str_lst {l : List D} : tyB .str (.lst l) = false := rfl
theorem tyb_str_scr {l : List D} : tyB .str (.scr l) = false := rfl
theorem tyb_tuple_non : tyB .tuple .non = false := rfl
theorem tyb_tuple_bl {b : Bool} : tyB .tuple (.bl b) = false := rfl
theorem tyb_tuple_int {i : Int} : tyB .tuple (.int i) = false := rfl
theorem tyb_tuple_str {s : List Nat} : tyB .tuple (.str s) = false := rfl
theorem tyb_tuple_tup {l : List D} : tyB .tuple (.tup l) = true := rfl
theorem tyb_tuple_lst {l : List D} : tyB .tuple (.lst l) = false := rfl
theorem tyb_tuple_scr {l : List D} : tyB .tuple (.scr l) = false := rfl
theorem tyb_list_non : tyB .list .non = false := rfl
theorem tyb_list_bl {b : Bool} : tyB .list (.bl b) = false := rfl
theorem tyb_list_int {i : Int} : tyB .list (.int i) = false := rfl
theorem tyb_list_str {s : List Nat} : tyB .list (.str s) = false := rfl
theorem tyb_list_tup {l : List D} : tyB .list (.tup l) = false := rfl
theorem tyb_list_lst {l : List D} : tyB .list (.lst l) = true := rfl
theorem tyb_list_scr {l : List D} : tyB .list (.scr l) = true := rfl
theorem pl_non : plain .non = true := Eq.trans rfl rfl
theorem pl_bl {b : Bool} : plain (.bl b) = true := Eq.trans rfl rfl
theorem pl_int {i : Int} : plain (.int i) = true := Eq.trans rfl rfl
theorem pl_str {s : List Nat} : plain (.str s) = true := Eq.trans rfl rfl
theorem pl_tup {l : List D} : plain (.tup l) = plainL l := Eq.trans rfl rfl
theorem pl_lst {l : List D} : plain (.lst l) = plainL l := Eq.trans rfl rfl
theorem plL_nil : plainL [] = true := Eq.trans rfl rfl
theorem plL_cons {x : D} {l : List D} : plainL (x :: l) = (plain x && plainL l) := Eq.trans rfl rfl
theorem dp_non : dep .non = 0 := Eq.trans rfl rfl
theorem dp_bl {b : Bool} : dep (.bl b) = 0 := Eq.trans rfl rfl
theorem dp_int {i : Int} : dep (.int i) = 0 := Eq.trans rfl rfl
theorem dp_str {s : List Nat} : dep (.str s) = 0 := Eq.trans rfl rfl
theorem dp_tup {l : List D} : dep (.tup l) = depL l + 1 := Eq.trans rfl rfl
theorem dp_lst {l : List D} : dep (.lst l) = depL l + 1 := Eq.trans rfl rfl
theorem dpL_nil : depL [] = 0 := Eq.trans rfl rfl
theorem dpL_cons {x : D} {l : List D} : depL (x :: l) = max (dep x) (depL l) := Eq.trans rfl rfl
theorem tyB_int (v : D) : (tyB .int v && !tyB .bool v) = isIntD v := by cases v <;> rfl
theorem shape_of {v : D} : (∃ xs, v = .tup xs) ∨ tyB .tuple v = false := by cases v <;> first | exact .inl ⟨_, rfl⟩ | exact .inr rfl
theorem str_of {v : D} : (∃ s, v = .str s) ∨ tyB .str v = false := by cases v <;> first | exact .inl ⟨_, rfl⟩ | exact .inr rfl
/-- two clauses, pure -/
theorem lc2_flat {α : Type} {src : Option Addr} {all : List D} {tg : Tg} {ρ : Rho} {inn : Rho → Sto → List D → (List D → Sto → Prop) → Prop} {K : List D → Sto → Prop} {S : Sto} (g : α → D) (F : α → List D) (l : List α) (hst : Stab src all S)
    (h : ∀ x ∈ l, ∃ ρ1, setT tg (g x) ρ = some ρ1 ∧ ∀ (dn r : List α) (K' : List D → Sto → Prop), dn ++ x :: r = l → K' (dn.flatMap F ++ F x) S → inn ρ1 S (dn.flatMap F) K') (hk : K (l.flatMap F) S) : lc2W src all tg ρ inn K (l.map g) [] S := by
  have key : ∀ (m dn : List α), dn ++ m = l → lc2W src all tg ρ inn K (m.map g) (dn.flatMap F) S := by
    intro m
    induction m with
    | nil =>
      intro dn e
      rw [List.append_nil] at e; subst e
      simp only [List.map_nil, lc2W]
      exact ⟨hst, hk⟩
    | cons x m ih =>
      intro dn e
      simp only [List.map_cons, lc2W]
      obtain ⟨ρ1, h1, h2⟩ := h x (by rw [← e]; simp)
      refine ⟨hst, ρ1, h1, h2 dn m _ e ?_⟩
      have := ih (dn ++ [x]) (by rw [← e]; simp)
      simpa using this
  exact key l [] rfl
/-- right is told of the same -/
def sp_same_ (n : Nat) : SpecD := fun ds S Q E => ∃ x : D, ds = [x, x] ∧ Lt (n - 1) x ∧ 1 ≤ n ∧ Q (.bl true) S
theorem cut_3 {α : Type} {a b c : α} {l : List α} : cutL (a :: b :: c :: l) none (some 3) = [a, b, c] := cutk (a :: b :: c :: l) 3
theorem sdel_supd {S : Sto} {a : Addr} {o : Ob} (h : S a = none) : sdel (supd S a o) a = S := by
  funext b
  by_cases e : b = a
  · subst e; rw [sdel_same, h]
  · rw [sdel_ne e]; exact if_neg e
theorem Sub.sdel {S : Sto} {a : Addr} {o : Ob} (h : S a = none) : Sub S (sdel (supd S a o) a) := by rw [sdel_supd h]; exact .refl S
theorem Sub.old {S S' : Sto} {a : Addr} {o : Ob} (k : Sub S' S) (h : S a = none) : Sub S' (supd S a o) := k.trans (.new h)
theorem range_at {dn r : List Nat} {x m : Nat} (e : dn ++ x :: r = List.range m) : x = dn.length ∧ x < m := by
  have e1 := congrArg List.length e
  have e2 : (dn ++ x :: r)[dn.length]? = (List.range m)[dn.length]? := by rw [e]
  rw [List.getElem?_append_right (Nat.le_refl _), Nat.sub_self, List.getElem?_cons_zero] at e2
  simp only [List.length_append, List.length_cons, List.length_range] at e1
  rw [List.getElem?_range (by omega)] at e2
  have : x = dn.length := by simpa using e2
  exact ⟨this, by omega⟩
theorem Lt.memL {n : Nat} {xs : List D} (h : Lt n (.lst xs)) : ∀ x ∈ xs, Lt (n - 1) x := fun x hx => by
  have h1 := h.1
  have h2 := h.2
  have h3 := h.3
  simp only [plain] at h1
  simp only [smal, Bool.and_eq_true] at h2
  simp only [dep] at h3
  exact ⟨plainL_mem h1 x hx, smalL_mem h2.2 x hx, by have := dep_mem hx; omega⟩
theorem Lt.lenL {n : Nat} {xs : List D} (h : Lt n (.lst xs)) : xs.length ≤ 1000000 := by
  have h2 := h.2
  simp only [smal, Bool.and_eq_true, decide_eq_true_eq] at h2
  exact h2.1
theorem stab_at {S : Sto} {a : Addr} {xs : List D} : Stab (some a) xs (supd S a (.lst xs)) := supd_at
theorem plL_str : ∀ {l : List (List Nat)}, plainL (l.map D.str) = true
  | [] => rfl
  | _ :: l => by rw [List.map_cons, plL_cons, plL_str (l := l)]; rfl
theorem Sub.upd {S S' : Sto} {a : Addr} {o : Ob} (h : Sub S S') : Sub (supd S a o) (supd S' a o) := fun b u q => by
  unfold supd at q ⊢
  by_cases e : b = a
  · rw [if_pos e] at q ⊢; exact q
  · rw [if_neg e] at q ⊢; exact h b u q
theorem er_map {α β : Type} (f : α → β) : ∀ (l : List α) (k : Nat), (l.map f).eraseIdx k = (l.eraseIdx k).map f
  | [], _ => rfl
  | _ :: _, 0 => rfl
  | a :: l, k + 1 => by simp only [List.map_cons, List.eraseIdx_cons_succ, er_map f l k]
theorem er_perm {α : Type} : ∀ (l : List α) (k : Nat) (h : k < l.length), (l[k] :: l.eraseIdx k).Perm l
  | [], _, h => by cases h
  | a :: l, 0, _ => .refl _
  | a :: l, k + 1, h => by
    have ih := er_perm l k (by simpa using h)
    simp only [List.getElem_cons_succ, List.eraseIdx_cons_succ]
    exact (List.Perm.swap a _ _).trans (ih.cons a)
theorem mtok_append {S : Sto} {p : Addr} {xs : List D} (h : S p = some (.lst xs)) : mtOk .append S (.ref p) := ⟨xs, by simp only [listD, h]⟩
theorem mtok_popAt {S : Sto} {p : Addr} {xs : List D} (h : S p = some (.lst xs)) : mtOk .popAt S (.ref p) := ⟨xs, by simp only [listD, h]⟩
theorem pop_at {S : Sto} {p : Addr} {xs : List D} {k : Nat} {Q : Post} (h : S p = some (.lst xs)) (hk : k < xs.length) (q : Q xs[k] (supd S p (.lst (xs.eraseIdx k)))) : methR .popAt (.ref p) [.int k] S Q :=
  ⟨xs, k, xs[k], h, ix_lit hk, List.getElem?_eq_getElem hk, q⟩
end MP
/-! constants that are tuples -/
namespace MP
open PySem PySem.Spec PyProof.Rows L2
inductive RepVs (K : PySem.W.Frag) : List D → List Value → Prop
  | nil : RepVs K [] []
  | cons {d : D} {ds : List D} {u : Value} {us : List Value} (v : V) (h1 : RelV v u) (h2 : Rep (fun _ => False) K (fun _ => none) d v) (r : RepVs K ds us) : RepVs K (d :: ds) (u :: us)
theorem RepVs.reps {K : PySem.W.Frag} {ds : List D} {us : List Value} (h : RepVs K ds us) : ∃ vs, Vals vs us ∧ RepL (fun _ => False) K (fun _ => none) ds vs := by
  induction h with
  | nil => exact ⟨[], .nil, by simp only [RepL]⟩
  | cons v h1 h2 r ih =>
    obtain ⟨vs, k1, k2⟩ := ih
    exact ⟨v :: vs, .cons h1 k1, by simp only [RepL]; exact ⟨v, vs, rfl, h2, k2⟩⟩
theorem rep_tupK {K : PySem.W.Frag} {a : Addr} {dd : Option Addr} {its : Array Value} {n : Nat} {sl : Array (Option Value)} {xs : List D} {us : List Value} (k : K.lookup a = some ⟨.type "tuple", dd, .seq its n, sl⟩) (e : its.toList = us) (z : its.size ≤ sizeLine) (h : RepVs K xs us) : Rep (fun _ => False) K (fun _ => none) (.tup xs) (.ref a) := by
  obtain ⟨vs, k1, k2⟩ := h.reps
  simp only [Rep]
  exact ⟨a, vs, rfl, .inr (.inr ⟨_, its, n, k, rfl, rfl, z, by rw [e]; exact k1⟩), k2⟩
theorem rv_nil {K : PySem.W.Frag} : RepVs K [] [] := .nil
theorem rv_int {K : PySem.W.Frag} {i : Int} {t : Tok} {ds : List D} {us : List Value} (r : RepVs K ds us) : RepVs K (.int i :: ds) (.int i t :: us) := .cons (.int i) ⟨t, rfl⟩ rep_int r
theorem rv_str {K : PySem.W.Frag} {s : List Nat} {y : Str} {t : Tok} {ds : List D} {us : List Value} (e : mkS s = y) (o : okSB s = true) (r : RepVs K ds us) : RepVs K (.str s :: ds) (.str y t :: us) := .cons (.str y) ⟨t, rfl⟩ (by rw [← e]; exact rep_str (okSB_ok o)) r
theorem rv_tup {K : PySem.W.Frag} {a : Addr} {dd : Option Addr} {its : Array Value} {n : Nat} {sl : Array (Option Value)} {xs ds : List D} {us us2 : List Value} (k : K.lookup a = some ⟨.type "tuple", dd, .seq its n, sl⟩) (e : its.toList = us2) (z : its.size ≤ sizeLine) (h : RepVs K xs us2) (r : RepVs K ds us) : RepVs K (.tup xs :: ds) (.ref a :: us) := .cons (.ref a) rfl (rep_tupK k e z h) r
theorem con_tup {K : PySem.W.Frag} {x : Str} {a : Addr} {dd : Option Addr} {its : Array Value} {n : Nat} {sl : Array (Option Value)} {xs : List D} {us : List Value} (g : PySem.W.nsIn K mainGlobals x = some (some (.ref a))) (k : K.lookup a = some ⟨.type "tuple", dd, .seq its n, sl⟩) (e : its.toList = us) (z : its.size ≤ sizeLine) (h : RepVs K xs us) : ConSay K x (.tup xs) := ⟨_, .ref a, g, rfl, rep_tupK k e z h⟩
end MP
/-! books and letters, in plain Lean -/
namespace MP
open PySem PySem.Spec PyProof.Rows L2
/-- a while by an invariant and a measure -/
theorem whl_by {G : GE} {c : Ex} {body : List Sm} {ρ : Rho} {S : Sto} {C : Ct} (I : Nat → Rho → Sto → Prop) (m : Nat) (h0 : I m ρ S)
    (hs : ∀ m ρ S, I m ρ S → ∀ N : Rho → Sto → Prop, (∀ m' ρ' S', m' < m → I m' ρ' S' → N ρ' S') → wpE G c ρ S (fun v S1 => ∃ k, v = .bl k ∧ if k = true then wpB G body ρ S1 { nx := N, rt := C.rt, bk := C.nx, ct := N, ex := C.ex } else C.nx ρ S1) fun x S1 => C.ex x ρ S1) : wpS G (.whl c body) ρ S C := by
  simp only [MP.wpS]
  exact ⟨I, ⟨m, h0⟩, fun m ρ S h => hs m ρ S h _ fun m' ρ' S' h1 h2 => ⟨m', h1, h2⟩⟩
theorem cut_m1 {α : Type} (xs : List α) : cutL xs none (some (-1)) = xs.take (xs.length - 1) := by
  unfold cutL
  rw [HT.sIx_none, List.drop_zero, Nat.sub_zero]
  have : HT.sIx xs.length xs.length (some (-1)) = xs.length - 1 := by
    unfold HT.sIx
    simp only
    split <;> (try split) <;> omega
  rw [this]
theorem last_of {α : Type} {xs : List α} (h : 1 ≤ xs.length) : ∃ ys y, xs = ys ++ [y] := by
  refine ⟨xs.dropLast, xs.getLast (fun e => by rw [e] at h; simp at h), ?_⟩
  rw [List.dropLast_concat_getLast]
theorem atI_m1 {α : Type} (ys : List α) (y : α) : atI (ys ++ [y]) (-1) = some y := by
  unfold atI ixN
  rw [if_neg (by omega), if_pos (by simp; omega)]
  simp only [List.length_append, List.length_cons, List.length_nil]
  rw [show ((-1 : Int) + ((ys.length + (0 + 1) : Nat) : Int)).toNat = ys.length by omega]
  simp
/-- a comprehension whose turns draw, each by its item -/
theorem lc_drwR {Good : Ob → Prop} {α β : Type} {src : Option Addr} {all : List D} {tg : Tg} {ρ : Rho} {el : Rho → Sto → (Option D → Sto → Prop) → Prop} {K : List D → Sto → Prop} {S : Sto} {a : Addr} {σ : GstP Good} (T : Sto → Sto) (g : β → D) (R : β → α → Prop) (f : α → D) (l : List β) (hst : ∀ σ : GstP Good, Stab src all (T (supd S a σ.st))) (hl : l.length ≤ sizeLine)
    (h : ∀ x ∈ l, ∃ ρ1, setT tg (g x) ρ = some ρ1 ∧ ∀ (σ : GstP Good) (K' : Option D → Sto → Prop), (∀ (σ : GstP Good) y, R x y → K' (some (f y)) (T (supd S a σ.st))) → el ρ1 (T (supd S a σ.st)) K')
    (hk : ∀ (σ : GstP Good) (ys : List α), ys.length = l.length → (∀ (i : Nat) (x : β) (y : α), l[i]? = some x → ys[i]? = some y → R x y) → K (ys.map f) (T (supd S a σ.st))) : lcW src all tg ρ el K (l.map g) [] (T (supd S a σ.st)) := by
  have key : ∀ (m dn : List β) (acc : List α) (σ : GstP Good), dn ++ m = l → acc.length = dn.length → (∀ (i : Nat) (x : β) (y : α), dn[i]? = some x → acc[i]? = some y → R x y) → lcW src all tg ρ el K (m.map g) (acc.map f) (T (supd S a σ.st)) := by
    intro m
    induction m with
    | nil =>
      intro dn acc σ e h1 h2
      rw [List.append_nil] at e
      subst e
      simp only [List.map_nil, lcW]
      exact ⟨hst σ, hk σ acc h1 h2⟩
    | cons x m ih =>
      intro dn acc σ e h1 h2
      simp only [List.map_cons, lcW]
      obtain ⟨ρ1, h3, h4⟩ := h x (by rw [← e]; simp)
      have hlen : dn.length < l.length := by rw [← e]; simp
      refine ⟨hst σ, by simp; omega, ρ1, h3, h4 σ _ fun σ y hy => ?_⟩
      have := ih (dn ++ [x]) (acc ++ [y]) σ (by rw [← e]; simp) (by simp [h1]) (fun i x' y' q1 q2 => by
        by_cases hi : i < dn.length
        · rw [List.getElem?_append_left hi] at q1
          rw [List.getElem?_append_left (by omega)] at q2
          exact h2 i x' y' q1 q2
        · rw [List.getElem?_append_right (by omega)] at q1
          rw [List.getElem?_append_right (by omega)] at q2
          have hi0 : i - dn.length = 0 := by
            cases hz : i - dn.length with
            | zero => rfl
            | succ n => rw [hz] at q1; simp at q1
          rw [hi0] at q1
          rw [show i - acc.length = 0 by omega] at q2
          simp at q1 q2
          subst q1; subst q2
          exact hy)
      simpa using this
  exact key l [] [] σ rfl rfl (fun i x y q => by simp at q)
/-! values in which nothing is true or false -/
mutual
def shp : D → Bool
  | .tup xs => shpL xs
  | .lst xs => shpL xs
  | .non => true
  | .int _ => true
  | .str _ => true
  | _ => false
def shpL : List D → Bool
  | [] => true
  | x :: xs => shp x && shpL xs
end
mutual
theorem eqb_shp : ∀ (x y : D), shp x = true → shp y = true → (eqb x y = true ↔ x = y)
  | .non, y, _, h => by cases y <;> simp_all [eqb, shp]
  | .int i, y, _, h => by cases y <;> simp_all [eqb, shp]
  | .str s, y, _, h => by cases y <;> simp_all [eqb, shp]
  | .tup xs, y, g, h => by
    cases y with
    | tup ys =>
      simp only [shp] at g h
      simp only [eqb, D.tup.injEq]
      exact eqbL_shp xs ys g h
    | _ => simp_all [eqb, shp]
  | .lst xs, y, g, h => by
    cases y with
    | lst ys =>
      simp only [shp] at g h
      simp only [eqb, D.lst.injEq]
      exact eqbL_shp xs ys g h
    | _ => simp_all [eqb, shp]
  | .bl _, _, g, _ => by simp [shp] at g
  | .ref _, _, g, _ => by simp [shp] at g
  | .exc .., _, g, _ => by simp [shp] at g
  | .scr _, _, g, _ => by simp [shp] at g
theorem eqbL_shp : ∀ (xs ys : List D), shpL xs = true → shpL ys = true → (eqbL xs ys = true ↔ xs = ys)
  | [], [], _, _ => by simp [eqbL]
  | [], _ :: _, _, _ => by simp [eqbL]
  | _ :: _, [], _, _ => by simp [eqbL]
  | x :: xs, y :: ys, g, h => by
    simp only [shpL, Bool.and_eq_true] at g h
    simp only [eqbL, Bool.and_eq_true, eqb_shp x y g.1 h.1, eqbL_shp xs ys g.2 h.2, List.cons.injEq]
end
theorem shpL_of : ∀ {xs : List D}, (∀ x ∈ xs, shp x = true) → shpL xs = true
  | [], _ => rfl
  | y :: ys, h => by
    simp only [shpL, Bool.and_eq_true]
    exact ⟨h y (List.mem_cons_self ..), shpL_of fun x hx => h x (List.mem_cons_of_mem _ hx)⟩
theorem shp_tup {xs : List D} (h : ∀ x ∈ xs, shp x = true) : shp (.tup xs) = true := shpL_of h
mutual
theorem shp_plain : ∀ (x : D), shp x = true → plain x = true
  | .non, _ => rfl
  | .int _, _ => rfl
  | .str _, _ => rfl
  | .tup xs, h => by simp only [shp] at h; simp only [plain]; exact shpL_plain xs h
  | .lst xs, h => by simp only [shp] at h; simp only [plain]; exact shpL_plain xs h
  | .bl _, g => by simp [shp] at g
  | .ref _, g => by simp [shp] at g
  | .exc .., g => by simp [shp] at g
  | .scr _, g => by simp [shp] at g
theorem shpL_plain : ∀ (xs : List D), shpL xs = true → plainL xs = true
  | [], _ => rfl
  | x :: xs, h => by
    simp only [shpL, Bool.and_eq_true] at h
    simp only [plainL, Bool.and_eq_true]
    exact ⟨shp_plain x h.1, shpL_plain xs h.2⟩
end
/-- values of a kind, told apart by what they lie as -/
structure Knd {α : Type} (d : α → D) : Prop where
  s : ∀ a, shp (d a) = true
  i : ∀ a b, d a = d b → a = b
section
variable {α : Type} {d : α → D}
theorem Knd.iff (K : Knd d) (a b : α) : MP.eqb (d a) (d b) = true ↔ a = b := by
  rw [eqb_shp _ _ (K.s a) (K.s b)]
  exact ⟨K.i a b, fun e => by rw [e]⟩
theorem Knd.eqb (K : Knd d) (a b : α) [Decidable (a = b)] : MP.eqb (d a) (d b) = decide (a = b) := by
  rw [Bool.eq_iff_iff, K.iff, decide_eq_true_eq]
theorem Knd.any (K : Knd d) (l : List α) (a : α) [Decidable (a ∈ l)] : ((l.map d).any fun z => MP.eqb z (d a)) = decide (a ∈ l) := by
  rw [Bool.eq_iff_iff, List.any_map, List.any_eq_true, decide_eq_true_eq]
  constructor
  · rintro ⟨x, hx, h⟩
    simp only [Function.comp, K.iff] at h
    rw [← h]; exact hx
  · intro h
    exact ⟨a, h, by simp only [Function.comp, K.iff]⟩
theorem Knd.any' (K : Knd d) (l : List α) (a : α) [Decidable (a ∈ l)] : ((l.map d).any fun z => MP.eqb (d a) z) = decide (a ∈ l) := by
  rw [Bool.eq_iff_iff, List.any_map, List.any_eq_true, decide_eq_true_eq]
  constructor
  · rintro ⟨x, hx, h⟩
    simp only [Function.comp, K.iff] at h
    rw [h]; exact hx
  · intro h
    exact ⟨a, h, by simp only [Function.comp, K.iff]⟩
theorem Knd.dist_iff (K : Knd d) : ∀ l : List α, distD (l.map d) = true ↔ l.Nodup
  | [] => by simp [distD]
  | a :: l => by
    have := Classical.propDecidable (a ∈ l)
    simp only [List.map_cons, distD, K.any', Bool.and_eq_true, K.dist_iff l, List.nodup_cons, Bool.not_eq_true', decide_eq_false_iff_not]
theorem Knd.dist (K : Knd d) (l : List α) [Decidable l.Nodup] : distD (l.map d) = decide l.Nodup := by
  rw [Bool.eq_iff_iff, K.dist_iff, decide_eq_true_eq]
theorem Knd.map (K : Knd d) {l m : List α} (h : l.map d = m.map d) : l = m := by
  induction l generalizing m with
  | nil => cases m with
    | nil => rfl
    | cons b m => simp at h
  | cons a l ih => cases m with
    | nil => simp at h
    | cons b m =>
      simp only [List.map_cons, List.cons.injEq] at h
      rw [K.i a b h.1, ih h.2]
end
theorem knd_str : Knd D.str := ⟨fun _ => rfl, fun a b h => by cases h; rfl⟩
theorem knd_int : Knd D.int := ⟨fun _ => rfl, fun a b h => by cases h; rfl⟩
theorem knd_nat : Knd (fun n : Nat => D.int n) := ⟨fun _ => rfl, fun a b h => by
  simp only [D.int.injEq] at h; omega⟩
theorem Knd.tupL {α : Type} {d : α → D} (K : Knd d) : Knd (fun l : List α => D.tup (l.map d)) := ⟨fun l => shp_tup fun x hx => by
  obtain ⟨a, _, rfl⟩ := List.mem_map.mp hx
  exact K.s a, fun a b h => K.map (D.tup.inj h)⟩
/-! books -/
structure Nm where
  f : List Nat
  g : List Nat
  deriving DecidableEq
def Nm.d (x : Nm) : D := .tup [.str x.f, .str x.g]
structure Bk where
  ns : List Nm
  y : Int
  t : List Nat
  p : Option (List Nat)
  v : Option Int
  deriving DecidableEq
def osD : Option (List Nat) → D
  | none => .non
  | some s => .str s
def oiD : Option Int → D
  | none => .non
  | some i => .int i
def Bk.d (b : Bk) : D := .tup [.tup (b.ns.map Nm.d), .int b.y, .str b.t, osD b.p, oiD b.v]
def famL : List Nat → Bool
  | [] => false
  | c :: r => decide (c ∈ CAPS) && allIn r SMLS
def givL (s : List Nat) : Bool := decide (s ≠ []) && allIn s CAPS
def smlW (w : List Nat) : Bool := decide (w ≠ []) && allIn w SMLS
def titL (s : List Nat) : Bool := match TL.spl [32] 0 [] s with
  | w :: ws => famL w && ws.all smlW
  | [] => false
def famB : D → Bool
  | .str s => famL s
  | _ => false
def givB : D → Bool
  | .str s => givL s
  | _ => false
def titB : D → Bool
  | .str s => titL s
  | _ => false
def namB : D → Bool
  | .tup [f, g] => famB f && givB g
  | _ => false
def nmsB : D → Bool
  | .tup ns => decide (1 ≤ ns.length ∧ ns.length ≤ 3) && ns.all namB
  | _ => false
def bokB : D → Bool
  | .tup [n, y, t, p, v] => nmsB n && btw 1000 2999 y && titB t && (isNon p || famB p) && (isNon v || btw 1 999 v)
  | _ => false
structure Bk.Ok (b : Bk) : Prop where
  ok : bokB b.d = true
  sz : smal b.d = true
  tl : b.t.length ≤ 100000
theorem nm_of {x : D} (h : namB x = true) : ∃ n : Nm, x = n.d := by
  unfold namB at h
  split at h
  · rename_i f g
    rw [Bool.and_eq_true] at h
    cases f with
    | str s =>
      cases g with
      | str t => exact ⟨⟨s, t⟩, rfl⟩
      | _ => exact absurd h.2 Bool.false_ne_true
    | _ => exact absurd h.1 Bool.false_ne_true
  · cases h
theorem nms_of : ∀ {ns : List D}, ns.all namB = true → ∃ l : List Nm, ns = l.map Nm.d
  | [], _ => ⟨[], rfl⟩
  | x :: ns, h => by
    rw [List.all_cons, Bool.and_eq_true] at h
    obtain ⟨n, rfl⟩ := nm_of h.1
    obtain ⟨l, rfl⟩ := nms_of h.2
    exact ⟨n :: l, rfl⟩
theorem bk_of {x : D} (h : bokB x = true) : ∃ b : Bk, x = b.d := by
  unfold bokB at h
  split at h
  · rename_i n y t p v
    simp only [Bool.and_eq_true] at h
    obtain ⟨⟨⟨⟨h1, h2⟩, h3⟩, h4⟩, h5⟩ := h
    have hn : ∃ l : List Nm, n = .tup (l.map Nm.d) := by
      cases n with
      | tup ns =>
        simp only [nmsB, Bool.and_eq_true] at h1
        obtain ⟨l, rfl⟩ := nms_of h1.2
        exact ⟨l, rfl⟩
      | _ => exact absurd h1 Bool.false_ne_true
    have hy : ∃ i, y = .int i := by
      cases y with
      | int i => exact ⟨i, rfl⟩
      | _ => exact absurd h2 Bool.false_ne_true
    have ht : ∃ s, t = .str s := by
      cases t with
      | str s => exact ⟨s, rfl⟩
      | _ => exact absurd h3 Bool.false_ne_true
    have hp : ∃ q, p = osD q := by
      cases p with
      | non => exact ⟨none, rfl⟩
      | str s => exact ⟨some s, rfl⟩
      | _ => exact absurd h4 Bool.false_ne_true
    have hv : ∃ q, v = oiD q := by
      cases v with
      | non => exact ⟨none, rfl⟩
      | int i => exact ⟨some i, rfl⟩
      | _ => exact absurd h5 Bool.false_ne_true
    obtain ⟨l, rfl⟩ := hn
    obtain ⟨i, rfl⟩ := hy
    obtain ⟨s, rfl⟩ := ht
    obtain ⟨q, rfl⟩ := hp
    obtain ⟨r, rfl⟩ := hv
    exact ⟨⟨l, i, s, q, r⟩, rfl⟩
  · cases h
theorem knd_nm : Knd Nm.d := ⟨fun a => rfl, fun a b h => by
  cases a; cases b
  simp only [Nm.d, D.tup.injEq, List.cons.injEq, D.str.injEq, and_true] at h
  obtain ⟨rfl, rfl⟩ := h; rfl⟩
theorem osD_inj {a b : Option (List Nat)} (h : osD a = osD b) : a = b := by
  cases a <;> cases b <;> simp only [osD, reduceCtorEq, D.str.injEq] at h
  · rfl
  · rw [h]
theorem oiD_inj {a b : Option Int} (h : oiD a = oiD b) : a = b := by
  cases a <;> cases b <;> simp only [oiD, reduceCtorEq, D.int.injEq] at h
  · rfl
  · rw [h]
theorem shp_os (a : Option (List Nat)) : shp (osD a) = true := by cases a <;> rfl
theorem shp_oi (a : Option Int) : shp (oiD a) = true := by cases a <;> rfl
theorem knd_bk : Knd Bk.d := ⟨fun a => by
  have h := knd_nm.tupL.s a.ns
  simp only [shp] at h
  simp only [Bk.d, shp, shpL, h, shp_os, shp_oi, Bool.and_self], fun a b h => by
  obtain ⟨n, y, t, p, v⟩ := a
  obtain ⟨n', y', t', p', v'⟩ := b
  simp only [Bk.d, D.tup.injEq, List.cons.injEq, D.str.injEq, D.int.injEq, and_true] at h
  obtain ⟨h1, rfl, rfl, h4, h5⟩ := h
  rw [knd_nm.map h1, osD_inj h4, oiD_inj h5]⟩
theorem Bk.d_eq {a b : Bk} : a.d = b.d ↔ a = b := ⟨knd_bk.i a b, fun e => by rw [e]⟩
theorem Nm.d_eq {a b : Nm} : a.d = b.d ↔ a = b := ⟨knd_nm.i a b, fun e => by rw [e]⟩
theorem bok_parts {b : Bk} : bokB b.d = (nmsB (.tup (b.ns.map Nm.d)) && btw 1000 2999 (.int b.y) && titL b.t && (isNon (osD b.p) || famB (osD b.p)) && (isNon (oiD b.v) || btw 1 999 (oiD b.v))) := rfl
namespace Bk.Ok
variable {b : Bk} (h : b.Ok)
include h
theorem n1 : 1 ≤ b.ns.length := by
  have := h.ok
  rw [bok_parts] at this
  simp only [nmsB, Bool.and_eq_true, decide_eq_true_eq, List.length_map] at this
  exact this.1.1.1.1.1.1
theorem n3 : b.ns.length ≤ 3 := by
  have := h.ok
  rw [bok_parts] at this
  simp only [nmsB, Bool.and_eq_true, decide_eq_true_eq, List.length_map] at this
  exact this.1.1.1.1.1.2
theorem nm : ∀ x ∈ b.ns, famL x.f = true ∧ givL x.g = true := fun x hx => by
  have := h.ok
  rw [bok_parts] at this
  simp only [nmsB, Bool.and_eq_true] at this
  have := List.all_eq_true.mp this.1.1.1.1.2 x.d (List.mem_map_of_mem hx)
  simp only [Nm.d, namB, famB, givB, Bool.and_eq_true] at this
  exact this
theorem yr : 1000 ≤ b.y ∧ b.y ≤ 2999 := by
  have := h.ok
  rw [bok_parts] at this
  simp only [btw, Bool.and_eq_true, decide_eq_true_eq] at this
  exact this.1.1.1.2
theorem ti : titL b.t = true := by
  have := h.ok
  rw [bok_parts] at this
  simp only [Bool.and_eq_true] at this
  exact this.1.1.2
theorem pl : ∀ s, b.p = some s → famL s = true := fun s e => by
  have := h.ok
  rw [bok_parts] at this
  simp only [Bool.and_eq_true, e, osD, isNon, famB, Bool.false_or] at this
  exact this.1.2
theorem vo : ∀ i, b.v = some i → 1 ≤ i ∧ i ≤ 999 := fun s e => by
  have := h.ok
  rw [bok_parts] at this
  simp only [Bool.and_eq_true, e, oiD, isNon, btw, Bool.false_or, decide_eq_true_eq] at this
  exact this.2
theorem sm : (∀ x ∈ b.ns, x.f.length ≤ 1000000 ∧ x.g.length ≤ 1000000) ∧ b.t.length ≤ 1000000 ∧ ∀ s, b.p = some s → s.length ≤ 1000000 := by
  have := h.sz
  simp only [Bk.d, smal, smalL, Bool.and_eq_true, decide_eq_true_eq] at this
  obtain ⟨_, ⟨_, h1⟩, _, h3, h4, _⟩ := this
  refine ⟨fun x hx => ?_, h3, fun s e => ?_⟩
  · have := smalL_mem h1 x.d (List.mem_map_of_mem hx)
    simp only [Nm.d, smal, smalL, Bool.and_eq_true, decide_eq_true_eq] at this
    exact ⟨this.2.1, this.2.2.1⟩
  · rw [e] at h4
    simpa [osD, smal] using h4
end Bk.Ok
theorem dep_nms (l : List Nm) : depL (l.map Nm.d) ≤ 1 := depL_of fun x hx => by
  obtain ⟨a, _, rfl⟩ := List.mem_map.mp hx
  simp [Nm.d, dep, depL]
theorem dep_os (a : Option (List Nat)) : dep (osD a) = 0 := by cases a <;> rfl
theorem dep_oi (a : Option Int) : dep (oiD a) = 0 := by cases a <;> rfl
theorem Bk.Ok.lt {b : Bk} (h : b.Ok) : Lt 3 b.d := ⟨shp_plain _ (knd_bk.s b), h.sz, by
  have := dep_nms b.ns
  simp only [Bk.d, dep, depL, dep_os, dep_oi]; omega⟩
/-- a book by its parts -/
theorem Bk.mk_ok {b : Bk} (n1 : 1 ≤ b.ns.length) (n3 : b.ns.length ≤ 3) (nm : ∀ x ∈ b.ns, famL x.f = true ∧ givL x.g = true ∧ x.f.length ≤ 1000000 ∧ x.g.length ≤ 1000000) (y : 1000 ≤ b.y ∧ b.y ≤ 2999) (t : titL b.t = true) (tl : b.t.length ≤ 100000)
    (p : ∀ s, b.p = some s → famL s = true ∧ s.length ≤ 1000000) (v : ∀ i, b.v = some i → 1 ≤ i ∧ i ≤ 999) : b.Ok := by
  refine ⟨?_, ?_, tl⟩
  · rw [bok_parts]
    simp only [nmsB, btw, Bool.and_eq_true, decide_eq_true_eq, List.length_map, List.all_eq_true]
    refine ⟨⟨⟨⟨⟨⟨n1, n3⟩, fun x hx => ?_⟩, y⟩, t⟩, ?_⟩, ?_⟩
    · obtain ⟨a, ha, rfl⟩ := List.mem_map.mp hx
      simp only [Nm.d, namB, famB, givB, Bool.and_eq_true]
      exact ⟨(nm a ha).1, (nm a ha).2.1⟩
    · cases e : b.p with
      | none => rfl
      | some s => simp only [osD, isNon, famB, Bool.false_or]; exact (p s e).1
    · cases e : b.v with
      | none => rfl
      | some s => simp only [oiD, isNon, btw, Bool.false_or, Bool.and_eq_true, decide_eq_true_eq]; exact v s e
  · simp only [Bk.d, smal, smalL, Bool.and_eq_true, decide_eq_true_eq, List.length_cons, List.length_nil, List.length_map]
    refine ⟨by omega, ⟨by omega, smalL_of fun x hx => ?_⟩, True.intro, by omega, ?_, ?_, True.intro⟩
    · obtain ⟨a, ha, rfl⟩ := List.mem_map.mp hx
      simp only [Nm.d, smal, smalL, Bool.and_eq_true, decide_eq_true_eq, List.length_cons, List.length_nil]
      exact ⟨by omega, (nm a ha).2.2.1, (nm a ha).2.2.2, True.intro⟩
    · cases e : b.p with
      | none => rfl
      | some s => simp only [osD, smal, decide_eq_true_eq]; exact (p s e).2
    · cases e : b.v <;> rfl
theorem decI_len {i : Int} (h0 : 0 ≤ i) (h1 : i < 10000) : (decI i).length ≤ 4 := by
  unfold decI
  rw [if_neg (by omega)]
  exact TL.numL_len (by decide) (by omega)
/-! what is no book, by one part -/
theorem bad_n {n y t p v : D} (e : nmsB n = false) : bokB (.tup [n, y, t, p, v]) = false := by simp only [bokB, e, Bool.false_and]
theorem bad_y {n y t p v : D} (e : btw 1000 2999 y = false) : bokB (.tup [n, y, t, p, v]) = false := by simp only [bokB, e, Bool.false_and, Bool.and_false]
theorem bad_t {n y t p v : D} (e : titB t = false) : bokB (.tup [n, y, t, p, v]) = false := by simp only [bokB, e, Bool.false_and, Bool.and_false]
theorem bad_p {n y t p v : D} (e : (isNon p || famB p) = false) : bokB (.tup [n, y, t, p, v]) = false := by simp only [bokB, e, Bool.false_and, Bool.and_false]
theorem bad_v {n y t p v : D} (e : (isNon v || btw 1 999 v) = false) : bokB (.tup [n, y, t, p, v]) = false := by simp only [bokB, e, Bool.false_and, Bool.and_false]
theorem bad_len {xs : List D} (h : xs.length ≠ 5) : bokB (.tup xs) = false := by
  unfold bokB
  split
  · rename_i e
    cases e
    simp at h
  · rfl
theorem tit_bad (s t : List Nat) (h : (TL.spl [32] 0 [] t).all smlW = false) : titL (s ++ 32 :: t) = false := by
  simp only [titL, spl_app]
  obtain ⟨w, ws, h1, h2, h3⟩ := spl1 32 s []
  rw [h1]
  simp only [List.cons_append, List.all_append, h, Bool.and_false]
theorem spl_no {c : Nat} : ∀ (s acc : List Nat), c ∉ s → TL.spl [c] 0 acc s = [acc ++ s]
  | [], acc, _ => by rw [TL.spl_nil]; simp
  | x :: s, acc, h => by
    have h1 : ¬ c = x := fun e => h (by rw [e]; exact List.mem_cons_self ..)
    rw [TL.spl_miss (by simp [TL.pre]; exact fun e => h1 e.symm), spl_no s _ (fun e => h (List.mem_cons_of_mem _ e))]
    simp
theorem titL_one {w : List Nat} (h : famL w = true) : titL w = true := by
  have hn : (32 : Nat) ∉ w := fun e => by
    cases w with
    | nil => cases e
    | cons c r =>
      simp only [famL, Bool.and_eq_true, decide_eq_true_eq] at h
      rcases List.mem_cons.mp e with rfl | e
      · exact absurd h.1 (by decide)
      · exact absurd (allIn_mem h.2 _ e) (by decide)
  simp only [titL, spl_no w [] hn, List.nil_append, h, List.all_nil, Bool.and_self]
theorem sml_no {w : List Nat} (h : smlW w = true) : (32 : Nat) ∉ w := fun e => by
  simp only [smlW, Bool.and_eq_true] at h
  exact absurd (allIn_mem h.2 _ e) (by decide)
theorem titL_app {t w : List Nat} (h : titL t = true) (k : smlW w = true) : titL (t ++ 32 :: w) = true := by
  simp only [titL, spl_app] at h ⊢
  obtain ⟨x, xs, h1, h2, h3⟩ := spl1 32 t []
  rw [h1] at h ⊢
  simp only [Bool.and_eq_true] at h
  simp only [List.cons_append, List.all_append, spl_no w [] (sml_no k), List.nil_append, List.all_cons, List.all_nil, k, h.1, h.2, Bool.and_self]
theorem titL_join : ∀ (ws : List (List Nat)) (w : List Nat), famL w = true → (∀ x ∈ ws, smlW x = true) → titL (TL.joinL [32] (w :: ws)) = true := by
  intro ws
  have key : ∀ (ws : List (List Nat)) (t : List Nat), titL t = true → (∀ x ∈ ws, smlW x = true) → titL (t ++ (ws.flatMap fun x => 32 :: x)) = true := by
    intro ws
    induction ws with
    | nil => intro t h _; simpa using h
    | cons x ws ih =>
      intro t h hs
      have := ih _ (titL_app h (hs x (by simp))) (fun y hy => hs y (List.mem_cons_of_mem _ hy))
      simpa using this
  intro w h hs
  have e : ∀ (ws : List (List Nat)) (w : List Nat), TL.joinL [32] (w :: ws) = w ++ ws.flatMap fun x => 32 :: x := by
    intro ws
    induction ws with
    | nil => intro w; simp [TL.joinL]
    | cons x ws ih => intro w; simp [TL.joinL, ih]
  rw [e]
  exact key ws w (titL_one h) hs
end MP
/-! told letters, words cut, keys -/
namespace MP
open PySem PySem.Spec PyProof.Rows L2
def lowL (s : List Nat) : List Nat := s.map lowC
def letL (s : List Nat) : Bool := decide (1 ≤ s.length) && decide (s.length ≤ 2) && allIn s SMLS
def letB : D → Bool
  | .str s => letL s
  | _ => false
def ltsB : D → Bool
  | .tup xs => decide (xs.length ≤ 40) && xs.all letB && distD xs && SMLS.all fun c => xs.any fun z => eqb z (.str [c])
  | _ => false
structure Lts (ls : List (List Nat)) : Prop where
  n : ls.length ≤ 40
  l : ∀ l ∈ ls, letL l = true
  d : ls.Nodup
  a : ∀ c ∈ SMLS, [c] ∈ ls
theorem lets_of : ∀ {xs : List D}, xs.all letB = true → ∃ ls : List (List Nat), xs = ls.map D.str
  | [], _ => ⟨[], rfl⟩
  | x :: xs, h => by
    rw [List.all_cons, Bool.and_eq_true] at h
    obtain ⟨ls, rfl⟩ := lets_of h.2
    cases x with
    | str s => exact ⟨s :: ls, rfl⟩
    | _ => exact absurd h.1 Bool.false_ne_true
theorem lts_eq (ls : List (List Nat)) : ltsB (.tup (ls.map D.str)) = (decide (ls.length ≤ 40) && ls.all letL && decide ls.Nodup && SMLS.all fun c => decide ([c] ∈ ls)) := by
  have e1 : (ls.map D.str).all letB = ls.all letL := by rw [List.all_map]; rfl
  have e2 : (SMLS.all fun c => (ls.map D.str).any fun z => eqb z (.str [c])) = SMLS.all fun c => decide ([c] ∈ ls) := by
    congr 1
    funext c
    exact knd_str.any ls [c]
  simp only [ltsB, e1, e2, knd_str.dist, List.length_map]
theorem lts_iff {ls : List (List Nat)} : ltsB (.tup (ls.map D.str)) = true ↔ Lts ls := by
  rw [lts_eq]
  simp only [Bool.and_eq_true, decide_eq_true_eq, List.all_eq_true]
  exact ⟨fun ⟨⟨⟨h1, h2⟩, h3⟩, h4⟩ => ⟨h1, h2, h3, h4⟩, fun h => ⟨⟨⟨h.n, h.l⟩, h.d⟩, h.a⟩⟩
theorem lts_of {x : D} (h : ltsB x = true) : ∃ ls : List (List Nat), x = .tup (ls.map D.str) ∧ Lts ls := by
  cases x with
  | tup xs =>
    have h' := h
    simp only [ltsB, Bool.and_eq_true] at h'
    obtain ⟨ls, rfl⟩ := lets_of h'.1.1.2
    exact ⟨ls, rfl, lts_iff.mp h⟩
  | _ => exact absurd h Bool.false_ne_true
theorem Lts.len2 {ls : List (List Nat)} (h : Lts ls) {l : List Nat} (hl : l ∈ ls) : 1 ≤ l.length ∧ l.length ≤ 2 ∧ ∀ c ∈ l, c ∈ SMLS := by
  have := h.l l hl
  simp only [letL, Bool.and_eq_true, decide_eq_true_eq] at this
  exact ⟨this.1.1, this.1.2, allIn_mem this.2⟩
/-- where a letter stands -/
def ixOf (x : List Nat) : List (List Nat) → Nat
  | [] => 0
  | y :: ys => if y = x then 0 else ixOf x ys + 1
theorem ixOf_get {x : List Nat} : ∀ {ls : List (List Nat)}, x ∈ ls → ls[ixOf x ls]? = some x
  | y :: ys, h => by
    unfold ixOf
    by_cases e : y = x
    · rw [if_pos e, e]; rfl
    · rw [if_neg e]
      rcases List.mem_cons.mp h with h | h
      · exact absurd h.symm e
      · simpa using ixOf_get h
theorem ixOf_first {x : List Nat} : ∀ {ls : List (List Nat)} {m : Nat}, m < ixOf x ls → ls[m]? ≠ some x
  | [], m, h => by simp [ixOf] at h
  | y :: ys, m, h => by
    unfold ixOf at h
    by_cases e : y = x
    · rw [if_pos e] at h; omega
    · rw [if_neg e] at h
      cases m with
      | zero => simpa using e
      | succ m => simpa using ixOf_first (x := x) (ls := ys) (m := m) (by omega)
theorem tix_at {ls : List (List Nat)} {x : List Nat} {S : Sto} {Q : Post} (h : x ∈ ls) : methR .tindex (.tup (ls.map D.str)) [.str x] S Q = Q (.int (ixOf x ls : Nat)) S := by
  apply propext
  constructor
  · rintro ⟨zs, j, e, h1, h2, q⟩
    have := knd_str.map e
    subst this
    have : j = ixOf x ls := by
      rcases Nat.lt_trichotomy j (ixOf x ls) with z | z | z
      · exact absurd h1 (ixOf_first z)
      · exact z
      · exact absurd (ixOf_get h) (h2 _ z)
    rw [← this]; exact q
  · intro q
    exact ⟨ls, ixOf x ls, rfl, ixOf_get h, fun m hm => ixOf_first hm, q⟩
/-- a word cut from the left -/
def cutF (ls : List (List Nat)) : List Nat → List Nat
  | [] => []
  | [c] => [ixOf [c] ls]
  | c :: d :: r => if [c, d] ∈ ls then ixOf [c, d] ls :: cutF ls r else ixOf [c] ls :: cutF ls (d :: r)
theorem cut_two {ls : List (List Nat)} {c d : Nat} {r : List Nat} (h : [c, d] ∈ ls) : cutF ls (c :: d :: r) = ixOf [c, d] ls :: cutF ls r := by rw [cutF, if_pos h]
theorem cut_one {ls : List (List Nat)} {c : Nat} : ∀ {r : List Nat}, (c :: r).take 2 ∉ ls → cutF ls (c :: r) = ixOf [c] ls :: cutF ls r
  | [], _ => rfl
  | d :: r, h => by rw [cutF, if_neg (by simpa using h)]
theorem cut_lone {ls : List (List Nat)} {c : Nat} : cutF ls [c] = [ixOf [c] ls] := rfl
theorem cut_back {ls : List (List Nat)} (h : ∀ c ∈ SMLS, [c] ∈ ls) : ∀ w : List Nat, (∀ c ∈ w, c ∈ SMLS) → (cutF ls w).flatMap (fun i => (ls[i]?).getD []) = w
  | [], _ => rfl
  | [c], hw => by
    rw [cutF]
    simp only [List.flatMap_cons, List.flatMap_nil, ixOf_get (h c (hw c (by simp))), Option.getD_some, List.append_nil]
  | c :: d :: r, hw => by
    by_cases e : [c, d] ∈ ls
    · rw [cut_two e]
      simp only [List.flatMap_cons, ixOf_get e, Option.getD_some, cut_back h r (fun x hx => hw x (by simp [hx]))]
      rfl
    · rw [cutF, if_neg e]
      simp only [List.flatMap_cons, ixOf_get (h c (hw c (by simp))), Option.getD_some, cut_back h (d :: r) (fun x hx => hw x (List.mem_cons_of_mem _ hx))]
      rfl
theorem cut_inj {ls : List (List Nat)} (h : ∀ c ∈ SMLS, [c] ∈ ls) {v w : List Nat} (hv : ∀ c ∈ v, c ∈ SMLS) (hw : ∀ c ∈ w, c ∈ SMLS) (e : cutF ls v = cutF ls w) : v = w := by
  rw [← cut_back h v hv, ← cut_back h w hw, e]
theorem cut_len {ls : List (List Nat)} : ∀ w : List Nat, (cutF ls w).length ≤ w.length
  | [] => by simp [cutF]
  | [c] => by simp [cutF]
  | c :: d :: r => by
    have h1 := cut_len (ls := ls) r
    have h2 := cut_len (ls := ls) (d :: r)
    rw [cutF]
    split <;> simp only [List.length_cons] at * <;> omega
/-- one letter more -/
def cutP (ls : List (List Nat)) (w : List Nat) : List Nat := if w.take 2 ∈ ls then w.take 2 else w.take 1
theorem cut_step {ls : List (List Nat)} (h : ∀ c ∈ SMLS, [c] ∈ ls) {w : List Nat} (hw : ∀ c ∈ w, c ∈ SMLS) (h0 : w ≠ []) : cutP ls w ∈ ls ∧ 1 ≤ (cutP ls w).length ∧ (cutP ls w).length ≤ w.length ∧ cutF ls w = ixOf (cutP ls w) ls :: cutF ls (w.drop (cutP ls w).length) := by
  match w, h0, hw with
  | [c], _, hw =>
    have hc := h c (hw c (by simp))
    have e : cutP ls [c] = [c] := by unfold cutP; split <;> rfl
    rw [e]
    exact ⟨hc, by simp, by simp, rfl⟩
  | c :: d :: r, _, hw =>
    by_cases e : [c, d] ∈ ls
    · have e1 : cutP ls (c :: d :: r) = [c, d] := by unfold cutP; rw [if_pos (by simpa using e)]; rfl
      rw [e1]
      exact ⟨e, by simp, by simp, cut_two e⟩
    · have e1 : cutP ls (c :: d :: r) = [c] := by unfold cutP; rw [if_neg (by simpa using e)]; rfl
      rw [e1]
      exact ⟨h c (hw c (by simp)), by simp, by simp, by rw [cutF, if_neg e]; rfl⟩
theorem cutL_at {α : Type} (xs : List α) (k j : Nat) : cutL xs (some (k : Int)) (some (j : Int)) = (xs.drop k).take (j - k) := by
  unfold cutL
  rw [HT.sIx_nat, HT.sIx_nat]
  rcases Nat.le_total k xs.length with h | h
  · rw [Nat.min_eq_left h]
    rcases Nat.le_total j xs.length with h2 | h2
    · rw [Nat.min_eq_left h2]
    · rw [Nat.min_eq_right h2, List.take_of_length_le (by simp), List.take_of_length_le (by simp; omega)]
  · rw [Nat.min_eq_right h, List.drop_of_length_le h, List.drop_of_length_le (Nat.le_refl _)]; simp
def cutN (ls : List (List Nat)) (w : List Nat) : D := .tup ((cutF ls w).map fun n : Nat => D.int n)
def cutD (ls : List (List Nat)) (w : List Nat) : D := .tup ((cutF ls (lowL w)).map fun n : Nat => D.int n)
/-- small and capital signs -/
theorem low_sml {c : Nat} (h : c ∈ SMLS) : lowC c = c := by
  have : ∀ c ∈ SMLS, lowC c = c := by decide
  exact this c h
theorem low_cap {c : Nat} (h : c ∈ CAPS) : lowC c = c + 32 ∧ c + 32 ∈ SMLS := by
  have : ∀ c ∈ CAPS, lowC c = c + 32 ∧ c + 32 ∈ SMLS := by decide
  exact this c h
theorem sml_lt {c : Nat} (h : c ∈ SMLS) : c < 128 := by
  have : ∀ c ∈ SMLS, c < 128 := by decide
  exact this c h
theorem cap_lt {c : Nat} (h : c ∈ CAPS) : c < 128 := by
  have : ∀ c ∈ CAPS, c < 128 := by decide
  exact this c h
theorem lowL_sml {w : List Nat} (h : allIn w SMLS = true) : lowL w = w := by
  have e : w.map lowC = w.map id := List.map_congr_left fun c hc => low_sml (allIn_mem h c hc)
  unfold lowL
  rw [e, List.map_id]
/-- a letter's sign, small or not -/
def wrdL (w : List Nat) : Bool := w.all fun c => decide (c ∈ SMLS) || decide (c ∈ CAPS)
theorem wrdL_low {w : List Nat} (h : wrdL w = true) : ∀ c ∈ lowL w, c ∈ SMLS := fun c hc => by
  obtain ⟨x, hx, rfl⟩ := List.mem_map.mp hc
  have := List.all_eq_true.mp h x hx
  simp only [Bool.or_eq_true, decide_eq_true_eq] at this
  rcases this with e | e
  · rw [low_sml e]; exact e
  · rw [(low_cap e).1]; exact (low_cap e).2
theorem wrdL_asc {w : List Nat} (h : wrdL w = true) : (w.all fun c => decide (c < 128)) = true := List.all_eq_true.mpr fun c hc => by
  have := List.all_eq_true.mp h c hc
  simp only [Bool.or_eq_true, decide_eq_true_eq] at this ⊢
  rcases this with e | e
  · exact sml_lt e
  · exact cap_lt e
theorem fam_wrd {w : List Nat} (h : famL w = true) : wrdL w = true := by
  cases w with
  | nil => cases h
  | cons c r =>
    simp only [famL, Bool.and_eq_true, decide_eq_true_eq] at h
    refine List.all_eq_true.mpr fun x hx => ?_
    rcases List.mem_cons.mp hx with rfl | hx
    · simp [h.1]
    · simp [allIn_mem h.2 x hx]
theorem sml_wrd {w : List Nat} (h : allIn w SMLS = true) : wrdL w = true := List.all_eq_true.mpr fun x hx => by simp [allIn_mem h x hx]
theorem low_fam {v w : List Nat} (hv : famL v = true) (hw : famL w = true) (e : lowL v = lowL w) : v = w := by
  cases v with
  | nil => cases hv
  | cons c r =>
    cases w with
    | nil => cases hw
    | cons d t =>
      simp only [famL, Bool.and_eq_true, decide_eq_true_eq] at hv hw
      have e' : lowC c :: lowL r = lowC d :: lowL t := e
      rw [(low_cap hv.1).1, (low_cap hw.1).1, lowL_sml hv.2, lowL_sml hw.2] at e'
      simp only [List.cons.injEq] at e'
      rw [show c = d by omega, e'.2]
/-- the words of a title -/
def wds (t : List Nat) : List (List Nat) := TL.spl [32] 0 [] t
theorem spl_join (c : Nat) : ∀ (s acc : List Nat), TL.joinL [c] (TL.spl [c] 0 acc s) = acc ++ s
  | [], acc => by rw [TL.spl_nil]; simp [TL.joinL]
  | x :: s, acc => by
    by_cases e : c = x
    · subst e
      rw [TL.spl_hit (by simp [TL.pre])]
      obtain ⟨w, ws, h1, _, _⟩ := spl1 c s []
      have ih := spl_join c s []
      show TL.joinL [c] (acc :: TL.spl [c] 0 [] s) = _
      rw [h1] at ih ⊢
      simp only [TL.joinL, ih]
      simp
    · rw [TL.spl_miss (by simp [TL.pre]; exact fun z => e z.symm), spl_join c s]
      simp
theorem wds_inj {t u : List Nat} (h : wds t = wds u) : t = u := by
  have h1 := spl_join 32 t []
  have h2 := spl_join 32 u []
  simp only [List.nil_append] at h1 h2
  rw [← h1, ← h2]
  exact congrArg (TL.joinL [32]) h
theorem tit_wds {t : List Nat} (h : titL t = true) : ∃ w ws, wds t = w :: ws ∧ famL w = true ∧ ∀ x ∈ ws, smlW x = true := by
  unfold titL at h
  unfold wds
  split at h
  · rename_i w ws e
    rw [Bool.and_eq_true] at h
    exact ⟨w, ws, e, h.1, List.all_eq_true.mp h.2⟩
  · cases h
theorem wds_wrd {t : List Nat} (h : titL t = true) : ∀ w ∈ wds t, wrdL w = true := by
  obtain ⟨w, ws, e, h1, h2⟩ := tit_wds h
  rw [e]
  intro x hx
  rcases List.mem_cons.mp hx with rfl | hx
  · exact fam_wrd h1
  · have := h2 x hx
    simp only [smlW, Bool.and_eq_true] at this
    exact sml_wrd this.2
theorem wds_len (t : List Nat) : (wds t).length ≤ t.length + 1 ∧ ∀ w ∈ wds t, w.length ≤ t.length := by
  obtain ⟨w, ws, h1, h2, h3⟩ := spl1 32 t []
  unfold wds
  rw [h1]
  refine ⟨by simp; omega, fun x hx => ?_⟩
  have := h3 x hx
  simpa using this
/-- a book's key -/
def keyD (ls : List (List Nat)) (b : Bk) : D := .tup [.tup (b.ns.map fun x => D.tup [cutD ls x.f, .str x.g]), .int b.y, .tup ((wds b.t).map (cutD ls)), .tup (match b.p with | none => [] | some s => [cutD ls s]), .tup (match b.v with | none => [] | some i => [.int i])]
theorem cutD_inj {ls : List (List Nat)} (h : ∀ c ∈ SMLS, [c] ∈ ls) {v w : List Nat} (hv : wrdL v = true) (hw : wrdL w = true) (e : cutD ls v = cutD ls w) : lowL v = lowL w :=
  cut_inj h (wrdL_low hv) (wrdL_low hw) (knd_nat.map (D.tup.inj e))
theorem shp_cut (ls : List (List Nat)) (w : List Nat) : shp (cutD ls w) = true := shp_tup fun x hx => by
  obtain ⟨n, _, rfl⟩ := List.mem_map.mp hx
  rfl
theorem shp_key (ls : List (List Nat)) (b : Bk) : shp (keyD ls b) = true := by
  have h1 : shpL (b.ns.map fun x => D.tup [cutD ls x.f, .str x.g]) = true := shpL_of fun x hx => by
    obtain ⟨n, _, rfl⟩ := List.mem_map.mp hx
    simp only [shp, shpL, shp_cut, Bool.and_self]
  have h2 : shpL ((wds b.t).map (cutD ls)) = true := shpL_of fun x hx => by
    obtain ⟨n, _, rfl⟩ := List.mem_map.mp hx
    exact shp_cut ls n
  cases hp : b.p <;> cases hv : b.v <;> simp only [keyD, hp, hv, shp, shpL, h1, h2, shp_cut, Bool.and_self]
theorem map_inj2 {α β : Type} {f : α → β} : ∀ {l m : List α}, (∀ a ∈ l, ∀ b ∈ m, f a = f b → a = b) → l.map f = m.map f → l = m
  | [], [], _, _ => rfl
  | [], _ :: _, _, h => by simp at h
  | _ :: _, [], _, h => by simp at h
  | a :: l, b :: m, hf, h => by
    simp only [List.map_cons, List.cons.injEq] at h
    rw [hf a (by simp) b (by simp) h.1, map_inj2 (fun x hx y hy => hf x (List.mem_cons_of_mem _ hx) y (List.mem_cons_of_mem _ hy)) h.2]
theorem keyD_inj {ls : List (List Nat)} (h : ∀ c ∈ SMLS, [c] ∈ ls) {a b : Bk} (ha : a.Ok) (hb : b.Ok) (e : keyD ls a = keyD ls b) : a = b := by
  obtain ⟨n, y, t, p, v⟩ := a
  obtain ⟨n', y', t', p', v'⟩ := b
  simp only [keyD, D.tup.injEq, List.cons.injEq, D.int.injEq, and_true] at e
  obtain ⟨e1, rfl, e3, e4, e5⟩ := e
  have h1 : n = n' := map_inj2 (fun x hx z hz q => by
    simp only [D.tup.injEq, List.cons.injEq, D.str.injEq, and_true] at q
    obtain ⟨fx, gx⟩ := x
    obtain ⟨fz, gz⟩ := z
    have hx1 := (ha.nm _ hx).1
    have hz1 := (hb.nm _ hz).1
    have := low_fam hx1 hz1 (cutD_inj h (fam_wrd hx1) (fam_wrd hz1) q.1)
    simp only at this q
    rw [this, q.2]) e1
  have h3 : t = t' := by
    obtain ⟨w, ws, k1, k2, k3⟩ := tit_wds ha.ti
    obtain ⟨w', ws', k1', k2', k3'⟩ := tit_wds hb.ti
    apply wds_inj
    simp only at k1 k1'
    rw [k1, k1'] at e3 ⊢
    simp only [List.map_cons, List.cons.injEq] at e3
    have q1 := low_fam k2 k2' (cutD_inj h (fam_wrd k2) (fam_wrd k2') e3.1)
    have q2 : ws = ws' := map_inj2 (fun x hx z hz q => by
      have sx := k3 x hx
      have sz := k3' z hz
      simp only [smlW, Bool.and_eq_true] at sx sz
      have := cutD_inj h (sml_wrd sx.2) (sml_wrd sz.2) q
      rw [lowL_sml sx.2, lowL_sml sz.2] at this
      exact this) e3.2
    rw [q1, q2]
  have h4 : p = p' := by
    cases p with
    | none => cases p' with
      | none => rfl
      | some s => simp at e4
    | some s => cases p' with
      | none => simp at e4
      | some s' =>
        simp only [List.cons.injEq, and_true] at e4
        have f1 := ha.pl s rfl
        have f2 := hb.pl s' rfl
        rw [low_fam f1 f2 (cutD_inj h (fam_wrd f1) (fam_wrd f2) e4)]
  have h5 : v = v' := by
    cases v with
    | none => cases v' with
      | none => rfl
      | some s => simp at e5
    | some s => cases v' with
      | none => simp at e5
      | some s' =>
        simp only [List.cons.injEq, D.int.injEq, and_true] at e5
        rw [e5]
  rw [h1, h3, h4, h5]
theorem eqb_key {ls : List (List Nat)} (h : ∀ c ∈ SMLS, [c] ∈ ls) {a b : Bk} (ha : a.Ok) (hb : b.Ok) : eqb (keyD ls a) (keyD ls b) = eqb a.d b.d := by
  rw [knd_bk.eqb, Bool.eq_iff_iff, eqb_shp _ _ (shp_key ls a) (shp_key ls b), decide_eq_true_eq]
  exact ⟨keyD_inj h ha hb, fun e => by rw [e]⟩
theorem dep_cut (ls : List (List Nat)) (w : List Nat) : dep (cutD ls w) ≤ 1 := by
  simp only [cutD, dep]
  exact Nat.succ_le_succ (depL_of fun x hx => by
    obtain ⟨n, _, rfl⟩ := List.mem_map.mp hx
    exact Nat.le_refl _)
theorem dep_key (ls : List (List Nat)) (b : Bk) : dep (keyD ls b) ≤ 4 := by
  have h1 : depL (b.ns.map fun x => D.tup [cutD ls x.f, .str x.g]) ≤ 2 := depL_of fun x hx => by
    obtain ⟨n, _, rfl⟩ := List.mem_map.mp hx
    have := dep_cut ls n.f
    simp only [dep, depL]; omega
  have h2 : depL ((wds b.t).map (cutD ls)) ≤ 1 := depL_of fun x hx => by
    obtain ⟨n, _, rfl⟩ := List.mem_map.mp hx
    exact dep_cut ls n
  have h3 : ∀ s, dep (cutD ls s) ≤ 1 := dep_cut ls
  cases hp : b.p with
  | none => cases hv : b.v <;> simp only [keyD, hp, hv, dep, depL] <;> omega
  | some s =>
    have := h3 s
    cases hv : b.v <;> simp only [keyD, hp, hv, dep, depL] <;> omega
theorem smal_cut {ls : List (List Nat)} {w : List Nat} (h : w.length ≤ 1000000) : smal (cutD ls w) = true := by
  have := cut_len (ls := ls) (lowL w)
  have e : (lowL w).length = w.length := by simp [lowL]
  simp only [cutD, smal, Bool.and_eq_true, decide_eq_true_eq, List.length_map]
  refine ⟨by omega, smalL_of fun x hx => ?_⟩
  obtain ⟨n, _, rfl⟩ := List.mem_map.mp hx
  rfl
theorem lt_cut {ls : List (List Nat)} {w : List Nat} (h : w.length ≤ 1000000) : Lt 1 (cutD ls w) := ⟨shp_plain _ (shp_cut ls w), smal_cut h, dep_cut ls w⟩
theorem lt_key {ls : List (List Nat)} {b : Bk} (h : b.Ok) : Lt 4 (keyD ls b) := by
  refine ⟨shp_plain _ (shp_key ls b), ?_, dep_key ls b⟩
  have hn := h.n3
  have hs := h.sm
  have hw := wds_len b.t
  have h1 : smalL (b.ns.map fun x => D.tup [cutD ls x.f, .str x.g]) = true := smalL_of fun x hx => by
    obtain ⟨n, hn, rfl⟩ := List.mem_map.mp hx
    have := hs.1 n hn
    simp only [smal, smalL, smal_cut this.1, decide_eq_true this.2, List.length_cons, List.length_nil]
    rfl
  have h2 : smalL ((wds b.t).map (cutD ls)) = true := smalL_of fun x hx => by
    obtain ⟨n, hn, rfl⟩ := List.mem_map.mp hx
    exact smal_cut (by have := hw.2 n hn; have := h.tl; omega)
  have hp2 := hs.2.2
  have := h.tl
  cases hp : b.p with
  | none => cases hv : b.v <;> simp only [keyD, hp, hv, smal, smalL, h1, h2, List.length_map, Bool.and_true, Bool.and_eq_true, decide_eq_true_eq, List.length_cons, List.length_nil] <;> exact ⟨by omega, by omega, True.intro, by omega, by omega, by omega⟩
  | some s =>
    have h3 := smal_cut (ls := ls) (hp2 s hp)
    cases hv : b.v <;> simp only [keyD, hp, hv, smal, smalL, h1, h2, h3, List.length_map, Bool.and_true, Bool.and_eq_true, decide_eq_true_eq, List.length_cons, List.length_nil] <;> exact ⟨by omega, by omega, True.intro, by omega, by omega, by omega⟩
theorem up_low : ∀ c ∈ SMLS, lowC (upC c) = c ∧ upC c ∈ CAPS := by decide
/-- the same word, with capitals anywhere -/
theorem low_any {w v : List Nat} (hw : allIn w SMLS = true) (hl : v.length = w.length) (h : ∀ (i : Nat) (c d : Nat), w[i]? = some c → v[i]? = some d → d = c ∨ d = upC c) : lowL v = lowL w ∧ wrdL v = true := by
  constructor
  · unfold lowL
    apply List.ext_getElem?
    intro i
    rw [List.getElem?_map, List.getElem?_map]
    cases hc : w[i]? with
    | none =>
      have : v[i]? = none := List.getElem?_eq_none_iff.mpr (by rw [hl]; exact List.getElem?_eq_none_iff.mp hc)
      rw [this]
    | some c =>
      have hi := (List.getElem?_eq_some_iff.mp hc).1
      have hd : v[i]? = some v[i] := List.getElem?_eq_getElem (by omega)
      rw [hd, Option.map_some, Option.map_some]
      have hc2 := allIn_mem hw c (List.mem_of_getElem? hc)
      rcases h i c _ hc hd with e | e
      · rw [e]
      · rw [e, (up_low c hc2).1, low_sml hc2]
  · refine List.all_eq_true.mpr fun x hx => ?_
    obtain ⟨i, hi, rfl⟩ := List.getElem_of_mem hx
    have hiw : i < w.length := by omega
    have hc2 := allIn_mem hw w[i] (List.getElem_mem hiw)
    rcases h i w[i] v[i] (List.getElem?_eq_getElem hiw) (List.getElem?_eq_getElem hi) with e | e
    · rw [e]; simp [hc2]
    · rw [e]; simp [(up_low _ hc2).2]
end MP
namespace K02
open PySem PySem.Spec PyProof.Rows L2 MP
def top (i : Nat) : Stmt := PySem.Challenge.pw_ibidem_k02_books_and_lists.main.body.getD i (.Pass ⟨0, 0, 0, 0⟩)
def cons : List Str := ["CAPITALS", "SMALLS", "MOST_NAMES", "FIRST_YEAR", "LAST_YEAR", "LAST_VOLUME", "SHAPES"]
def conV : List D := [.str [65, 66, 67, 68, 69, 70, 71, 72, 73, 74, 75, 76, 77, 78, 79, 80, 81, 82, 83, 84, 85, 86, 87, 88, 89, 90], .str [97, 98, 99, 100, 101, 102, 103, 104, 105, 106, 107, 108, 109, 110, 111, 112, 113, 114, 115, 116, 117, 118, 119, 120, 121, 122], .int 3, .int 1000, .int 2999, .int 999, .tup [.tup [.int 1, .int 0, .int 0], .tup [.int 1, .int 0, .int 1], .tup [.int 1, .int 1, .int 0], .tup [.int 1, .int 1, .int 1], .tup [.int 2, .int 0, .int 0], .tup [.int 2, .int 0, .int 1], .tup [.int 2, .int 1, .int 0], .tup [.int 2, .int 1, .int 1], .tup [.int 3, .int 0, .int 0], .tup [.int 3, .int 0, .int 1], .tup [.int 3, .int 1, .int 0], .tup [.int 3, .int 1, .int 1]]]
def excs : List (Str × List Str) := [("CiteError", []), ("ValueError", []), ("InvalidBook", ["value"])]
abbrev i_is_integer : Nat := 0
abbrev i_are_all_of : Nat := 1
abbrev i_is_family : Nat := 2
abbrev i_is_given : Nat := 3
abbrev i_is_title : Nat := 4
abbrev i_is_name : Nat := 5
abbrev i_is_book : Nat := 6
abbrev i_is_list : Nat := 7
abbrev i_need_book : Nat := 8
abbrev i_shape_of : Nat := 9
abbrev i__law_flow : Nat := 10
abbrev i__law_load : Nat := 11
abbrev i__law_draw : Nat := 12
abbrev i__law_pick : Nat := 13
abbrev i__law_same : Nat := 14
abbrev i__law_small : Nat := 15
abbrev i__law_capital : Nat := 16
abbrev i__law_family : Nat := 17
abbrev i__law_name : Nat := 18
abbrev i__law_book : Nat := 19
abbrev i__law_bad_words : Nat := 20
abbrev i__law_bad_names : Nat := 21
abbrev i__law_bad_titles : Nat := 22
abbrev i__law_spoilt : Nat := 23
abbrev i__law_near : Nat := 24
abbrev i__law_long : Nat := 25
abbrev i__law_refused : Nat := 26
abbrev i__law_books_right : Nat := 27
abbrev i__law_lists_right : Nat := 28
abbrev i_law : Nat := 29
abbrev j_CAPITALS : Nat := 0
abbrev j_SMALLS : Nat := 1
abbrev j_MOST_NAMES : Nat := 2
abbrev j_FIRST_YEAR : Nat := 3
abbrev j_LAST_YEAR : Nat := 4
abbrev j_LAST_VOLUME : Nat := 5
abbrev j_SHAPES : Nat := 6
abbrev e_CiteError : Nat := 0
abbrev e_ValueError : Nat := 1
abbrev e_InvalidBook : Nat := 2
/-- is_integer(value) -/
def n_is_integer : List Str := ["value"]
def m_is_integer : List Sm :=
  [.ret false (.and [.isty .int (.var 0), .not (.isty .bool (.var 0))])]
abbrev s_is_integer : Stmt := top 11
abbrev P_is_integer : List Str := ["value"]
def f_is_integer : Str × List Str × List (List Str × List Nat) := ("is_integer", P_is_integer, [])
/-- are_all_of(text, signs) -/
def n_are_all_of : List Str := ["text", "signs", "sign"]
def m_are_all_of : List Sm :=
  [.ret false (.blt .all [.lc false (.cmp .isin (.var 2) (.var 1)) (.nm 2) (.ex (.var 0)) [2]])]
abbrev s_are_all_of : Stmt := top 12
abbrev P_are_all_of : List Str := ["text", "signs"]
def f_are_all_of : Str × List Str × List (List Str × List Nat) := ("are_all_of", P_are_all_of, [])
/-- is_family(value) -/
def n_is_family : List Str := ["value"]
def m_is_family : List Sm :=
  [.ifs (.or [.not (.isty .str (.var 0)), .cmp .eq (.var 0) (.str [])])
    [.ret false (.bl false)]
    [],
  .ret false (.and [.cmp .isin (.idx (.var 0) (.int 0)) (.glb j_CAPITALS), .call i_are_all_of [.slc false (.var 0) (.int 1) (.non), .glb j_SMALLS]])]
abbrev s_is_family : Stmt := top 13
abbrev P_is_family : List Str := ["value"]
def f_is_family : Str × List Str × List (List Str × List Nat) := ("is_family", P_is_family, [])
/-- is_given(value) -/
def n_is_given : List Str := ["value"]
def m_is_given : List Sm :=
  [.ret false (.and [.isty .str (.var 0), .cmp .ne (.var 0) (.str []), .call i_are_all_of [.var 0, .glb j_CAPITALS]])]
abbrev s_is_given : Stmt := top 14
abbrev P_is_given : List Str := ["value"]
def f_is_given : Str × List Str × List (List Str × List Nat) := ("is_given", P_is_given, [])
/-- is_title(value) -/
def n_is_title : List Str := ["value", "words", "word"]
def m_is_title : List Sm :=
  [.ifs (.not (.isty .str (.var 0)))
    [.ret false (.bl false)]
    [],
  .asg (.nm 1) (.meth (.split false) (.var 0) [.str [32]]),
  .ret false (.and [.call i_is_family [.idx (.var 1) (.int 0)], .blt .all [.lc false (.and [.cmp .ne (.var 2) (.str []), .call i_are_all_of [.var 2, .glb j_SMALLS]]) (.nm 2) (.ex (.slc false (.var 1) (.int 1) (.non))) [2]]])]
abbrev s_is_title : Stmt := top 15
abbrev P_is_title : List Str := ["value"]
def f_is_title : Str × List Str × List (List Str × List Nat) := ("is_title", P_is_title, [])
/-- is_name(value) -/
def n_is_name : List Str := ["value"]
def m_is_name : List Sm :=
  [.ret false (.and [.isty .tuple (.var 0), .cmp .eq (.blt .len [.var 0]) (.int 2), .call i_is_family [.idx (.var 0) (.int 0)], .call i_is_given [.idx (.var 0) (.int 1)]])]
abbrev s_is_name : Stmt := top 16
abbrev P_is_name : List Str := ["value"]
def f_is_name : Str × List Str × List (List Str × List Nat) := ("is_name", P_is_name, [])
/-- is_book(value) -/
def n_is_book : List Str := ["value", "names", "year", "title", "place", "volume", "one"]
def m_is_book : List Sm :=
  [.ifs (.or [.not (.isty .tuple (.var 0)), .cmp .ne (.blt .len [.var 0]) (.int 5)])
    [.ret false (.bl false)]
    [],
  .asg (.tp [.nm 1, .nm 2, .nm 3, .nm 4, .nm 5]) (.var 0),
  .ifs (.or [.not (.isty .tuple (.var 1)), .not (.chain .le .le (.int 1) (.blt .len [.var 1]) (.glb j_MOST_NAMES)), .not (.blt .all [.lc false (.call i_is_name [.var 6]) (.nm 6) (.ex (.var 1)) [6]])])
    [.ret false (.bl false)]
    [],
  .ifs (.or [.not (.call i_is_integer [.var 2]), .not (.chain .le .le (.glb j_FIRST_YEAR) (.var 2) (.glb j_LAST_YEAR)), .not (.call i_is_title [.var 3])])
    [.ret false (.bl false)]
    [],
  .ifs (.and [.nsN (.var 4), .not (.call i_is_family [.var 4])])
    [.ret false (.bl false)]
    [],
  .ret false (.or [.isN (.var 5), .and [.call i_is_integer [.var 5], .chain .le .le (.int 1) (.var 5) (.glb j_LAST_VOLUME)]])]
abbrev s_is_book : Stmt := top 17
abbrev P_is_book : List Str := ["value"]
def f_is_book : Str × List Str × List (List Str × List Nat) := ("is_book", P_is_book, [(["value"], [0])])
/-- is_list(value) -/
def n_is_list : List Str := ["value", "book"]
def m_is_list : List Sm :=
  [.ifs (.or [.not (.isty .tuple (.var 0)), .not (.blt .all [.lc false (.call i_is_book [.var 1]) (.nm 1) (.ex (.var 0)) [1]])])
    [.ret false (.bl false)]
    [],
  .ret false (.cmp .eq (.nd true 1 (.ex (.var 0)) [1]) (.blt .len [.var 0]))]
abbrev s_is_list : Stmt := top 18
abbrev P_is_list : List Str := ["value"]
def f_is_list : Str × List Str × List (List Str × List Nat) := ("is_list", P_is_list, [(["value"], [0])])
/-- need_book(value) -/
def n_need_book : List Str := ["value"]
def m_need_book : List Sm :=
  [.ifs (.not (.call i_is_book [.var 0]))
    [.raise e_InvalidBook ["value"] [.var 0]]
    [],
  .ret false (.var 0)]
abbrev s_need_book : Stmt := top 19
abbrev P_need_book : List Str := ["value"]
def f_need_book : Str × List Str × List (List Str × List Nat) := ("need_book", P_need_book, [])
/-- shape_of(book) -/
def n_shape_of : List Str := ["book", "names", "_", "place", "volume"]
def m_shape_of : List Sm :=
  [.asg (.tp [.nm 1, .nm 2, .nm 2, .nm 3, .nm 4]) (.call i_need_book [.var 0]),
  .ret false (.tup [.blt .len [.var 1], .ite (.isN (.var 3)) (.int 0) (.int 1), .ite (.isN (.var 4)) (.int 0) (.int 1)])]
abbrev s_shape_of : Stmt := top 20
abbrev P_shape_of : List Str := ["book"]
def f_shape_of : Str × List Str × List (List Str × List Nat) := ("shape_of", P_shape_of, [(["book"], [0])])
/-- _law_flow(_law_script) -/
def n__law_flow : List Str := ["_law_script", "_law_mixed", "_law_cell"]
def m__law_flow : List Sm :=
  [.asg (.nm 1) (.int 1),
  .for (.nm 2) (.ex (.var 0))
    [.asg (.nm 1) (.bin .mod false (.blt .int [.bin .add false (.bin .mul false (.var 1) (.int 31)) (.blt .int [.var 2])]) (.int 2147483647))],
  .ret false (.lst true [.blt (.lst false) [.var 0], .int 0, .int 0, .int 0, .var 1, .int 0])]
abbrev s__law_flow : Stmt := top 22
abbrev P__law_flow : List Str := ["_law_script"]
def f__law_flow : Str × List Str × List (List Str × List Nat) := ("_law_flow", P__law_flow, [])
/-- _law_load(_law_flow_here) -/
def n__law_load : List Str := ["_law_flow_here", "_law_cell"]
def m__law_load : List Sm :=
  [.ifs (.cmp .ge (.idx (.var 0) (.int 1)) (.blt .len [.idx (.var 0) (.int 0)]))
    [.asgI (.var 0) (.int 2) (.int 40503),
    .asgI (.var 0) (.int 3) (.int 1000),
    .asgI (.var 0) (.int 5) (.int 1),
    .retN]
    [],
  .asg (.nm 1) (.blt .int [.idx (.idx (.var 0) (.int 0)) (.idx (.var 0) (.int 1))]),
  .asgI (.var 0) (.int 1) (.bin .add false (.idx (.var 0) (.int 1)) (.int 1)),
  .asgI (.var 0) (.int 2) (.bin .fdiv false (.blt .abs [.var 1]) (.int 2)),
  .asgI (.var 0) (.int 3) (.int 60),
  .asgI (.var 0) (.int 5) (.bin .mod false (.blt .int [.var 1]) (.int 2)),
  .ifs (.cmp .eq (.idx (.var 0) (.int 5)) (.int 1))
    [.asgI (.var 0) (.int 2) (.bin .mod false (.blt .int [.idx (.var 0) (.int 2)]) (.int 2147483629)),
    .asgI (.var 0) (.int 3) (.int 6)]
    []]
abbrev s__law_load : Stmt := top 23
abbrev P__law_load : List Str := ["_law_flow_here"]
def f__law_load : Str × List Str × List (List Str × List Nat) := ("_law_load", P__law_load, [])
/-- _law_draw(_law_flow_here, _law_many) -/
def n__law_draw : List Str := ["_law_flow_here", "_law_many", "_law_drawn"]
def m__law_draw : List Sm :=
  [.ifs (.cmp .eq (.idx (.var 0) (.int 3)) (.int 0))
    [.expr (.call i__law_load [.var 0])]
    [],
  .asgI (.var 0) (.int 3) (.bin .sub false (.idx (.var 0) (.int 3)) (.int 1)),
  .ifs (.cmp .eq (.idx (.var 0) (.int 5)) (.int 1))
    [.asgI (.var 0) (.int 4) (.bin .mod false (.blt .int [.bin .add false (.bin .add false (.bin .mul false (.idx (.var 0) (.int 4)) (.int 48271)) (.idx (.var 0) (.int 2))) (.int 12345)]) (.int 2147483647)),
    .ret false (.bin .mod false (.blt .int [.bin .fdiv false (.idx (.var 0) (.int 4)) (.int 7)]) (.blt .max2 [.int 1, .var 1]))]
    [],
  .asg (.nm 2) (.bin .mod false (.blt .int [.idx (.var 0) (.int 2)]) (.blt .max2 [.int 1, .var 1])),
  .asgI (.var 0) (.int 2) (.bin .fdiv false (.idx (.var 0) (.int 2)) (.blt .max2 [.int 1, .var 1])),
  .ifs (.cmp .eq (.idx (.var 0) (.int 2)) (.int 0))
    [.asgI (.var 0) (.int 3) (.int 0)]
    [],
  .ret false (.var 2)]
abbrev s__law_draw : Stmt := top 24
abbrev P__law_draw : List Str := ["_law_flow_here", "_law_many"]
def f__law_draw : Str × List Str × List (List Str × List Nat) := ("_law_draw", P__law_draw, [])
/-- _law_pick(_law_flow_here, _law_things) -/
def n__law_pick : List Str := ["_law_flow_here", "_law_things"]
def m__law_pick : List Sm :=
  [.ret false (.idx (.var 1) (.call i__law_draw [.var 0, .blt .len [.var 1]]))]
abbrev s__law_pick : Stmt := top 25
abbrev P__law_pick : List Str := ["_law_flow_here", "_law_things"]
def f__law_pick : Str × List Str × List (List Str × List Nat) := ("_law_pick", P__law_pick, [])
/-- _law_same(_law_actual, _law_due) -/
def n__law_same : List Str := ["_law_actual", "_law_due", "_law_k"]
def m__law_same : List Sm :=
  [.ifs (.or [.isty .tuple (.var 1), .isty .list (.var 1)])
    [.ifs (.or [.cmp .ne (.isty .tuple (.var 1)) (.isty .tuple (.var 0)), .cmp .ne (.isty .list (.var 1)) (.isty .list (.var 0))])
      [.ret false (.bl false)]
      [],
    .ret false (.and [.cmp .eq (.blt .len [.var 0]) (.blt .len [.var 1]), .blt .all [.lc false (.call i__law_same [.idx (.var 0) (.var 2), .idx (.var 1) (.var 2)]) (.nm 2) (.rng1 (.blt .len [.var 1])) [2]]])]
    [],
  .ifs (.isN (.var 1))
    [.ret false (.isN (.var 0))]
    [],
  .ifs (.isty .str (.var 1))
    [.ret false (.and [.isty .str (.var 0), .cmp .eq (.var 0) (.var 1)])]
    [],
  .ifs (.isty .bool (.var 1))
    [.ret false (.and [.isty .bool (.var 0), .cmp .eq (.var 0) (.var 1)])]
    [],
  .ret false (.and [.isty .int (.var 0), .not (.isty .bool (.var 0)), .cmp .eq (.var 0) (.var 1)])]
abbrev s__law_same : Stmt := top 26
abbrev P__law_same : List Str := ["_law_actual", "_law_due"]
def f__law_same : Str × List Str × List (List Str × List Nat) := ("_law_same", P__law_same, [])
/-- _law_small(_law_flow_here, _law_many) -/
def n__law_small : List Str := ["_law_flow_here", "_law_many", "_law_k"]
def m__law_small : List Sm :=
  [.ret false (.meth .join (.str []) [.lc false (.idx (.str [97, 98, 99, 100, 101, 102, 103, 104, 105, 106, 107, 108, 109, 110, 111, 112, 113, 114, 115, 116, 117, 118, 119, 120, 121, 122]) (.call i__law_draw [.var 0, .int 26])) (.nm 2) (.rng1 (.var 1)) [2]])]
abbrev s__law_small : Stmt := top 27
abbrev P__law_small : List Str := ["_law_flow_here", "_law_many"]
def f__law_small : Str × List Str × List (List Str × List Nat) := ("_law_small", P__law_small, [])
/-- _law_capital(_law_flow_here) -/
def n__law_capital : List Str := ["_law_flow_here"]
def m__law_capital : List Sm :=
  [.ret false (.idx (.str [65, 66, 67, 68, 69, 70, 71, 72, 73, 74, 75, 76, 77, 78, 79, 80, 81, 82, 83, 84, 85, 86, 87, 88, 89, 90]) (.call i__law_draw [.var 0, .int 26]))]
abbrev s__law_capital : Stmt := top 28
abbrev P__law_capital : List Str := ["_law_flow_here"]
def f__law_capital : Str × List Str × List (List Str × List Nat) := ("_law_capital", P__law_capital, [])
/-- _law_family(_law_flow_here) -/
def n__law_family : List Str := ["_law_flow_here", "_law_many"]
def m__law_family : List Sm :=
  [.asg (.nm 1) (.idx (.lst false [.int 0, .int 1, .int 7, .call i__law_draw [.var 0, .int 8]]) (.call i__law_draw [.var 0, .int 4])),
  .ret false (.bin .add false (.call i__law_capital [.var 0]) (.call i__law_small [.var 0, .var 1]))]
abbrev s__law_family : Stmt := top 29
abbrev P__law_family : List Str := ["_law_flow_here"]
def f__law_family : Str × List Str × List (List Str × List Nat) := ("_law_family", P__law_family, [])
/-- _law_name(_law_flow_here) -/
def n__law_name : List Str := ["_law_flow_here", "_law_k"]
def m__law_name : List Sm :=
  [.ret false (.tup [.call i__law_family [.var 0], .meth .join (.str []) [.lc false (.call i__law_capital [.var 0]) (.nm 1) (.rng1 (.bin .add false (.int 1) (.call i__law_draw [.var 0, .int 8]))) [1]]])]
abbrev s__law_name : Stmt := top 30
abbrev P__law_name : List Str := ["_law_flow_here"]
def f__law_name : Str × List Str × List (List Str × List Nat) := ("_law_name", P__law_name, [])
/-- _law_book(_law_flow_here) -/
def n__law_book : List Str := ["_law_flow_here", "_law_title", "_law_k", "_law_year", "_law_place", "_law_volume", "_law_names"]
def m__law_book : List Sm :=
  [.asg (.nm 1) (.bin .add false (.call i__law_capital [.var 0]) (.call i__law_small [.var 0, .call i__law_draw [.var 0, .int 6]])),
  .for (.nm 2) (.rng1 (.call i__law_draw [.var 0, .int 5]))
    [.asg (.nm 1) (.bin .add false (.bin .add false (.var 1) (.str [32])) (.call i__law_small [.var 0, .bin .add false (.int 1) (.call i__law_draw [.var 0, .int 5])]))],
  .asg (.nm 3) (.idx (.lst false [.int 1000, .int 2999, .bin .add false (.int 1000) (.call i__law_draw [.var 0, .int 2000])]) (.call i__law_draw [.var 0, .int 3])),
  .asg (.nm 4) (.idx (.lst false [.non, .call i__law_family [.var 0]]) (.call i__law_draw [.var 0, .int 2])),
  .asg (.nm 5) (.idx (.lst false [.non, .non, .int 1, .int 999, .bin .add false (.int 1) (.call i__law_draw [.var 0, .int 999])]) (.call i__law_draw [.var 0, .int 5])),
  .asg (.nm 6) (.blt .tup [.lc false (.call i__law_name [.var 0]) (.nm 2) (.rng1 (.bin .add false (.int 1) (.call i__law_draw [.var 0, .int 3]))) [2]]),
  .ifs (.cmp .eq (.call i__law_draw [.var 0, .int 6]) (.int 1))
    [.asg (.nm 6) (.slc false (.bin .mul false (.slc false (.var 6) (.non) (.int 1)) (.int 3)) (.non) (.blt .len [.var 6]))]
    [],
  .ret false (.tup [.var 6, .var 3, .var 1, .var 4, .var 5])]
abbrev s__law_book : Stmt := top 31
abbrev P__law_book : List Str := ["_law_flow_here"]
def f__law_book : Str × List Str × List (List Str × List Nat) := ("_law_book", P__law_book, [])
/-- _law_bad_words(_law_word) -/
def n__law_bad_words : List Str := ["_law_word", "_law_found"]
def m__law_bad_words : List Sm :=
  [.asg (.nm 1) (.lst false [.str [], .meth .lower (.var 0) [], .bin .add false (.var 0) (.str [65]), .bin .add false (.var 0) (.str [49]), .bin .add false (.var 0) (.str [32]), .bin .add false (.str [32]) (.var 0), .bin .add false (.var 0) (.str [45]), .bin .add false (.str [49]) (.var 0), .bin .add false (.slc false (.var 0) (.non) (.int 1)) (.str [95])]),
  .ret false (.bin .add false (.var 1) (.lst false [.bin .add false (.var 0) (.str [32, 97]), .bin .add false (.var 0) (.str [10]), .bin .add false (.var 0) (.str [46]), .int 5, .bl true, .tup [.var 0], .lst false [.var 0], .tup [], .bin .add false (.meth .lower (.var 0) []) (.var 0)]))]
abbrev s__law_bad_words : Stmt := top 32
abbrev P__law_bad_words : List Str := ["_law_word"]
def f__law_bad_words : Str × List Str × List (List Str × List Nat) := ("_law_bad_words", P__law_bad_words, [])
/-- _law_bad_names(_law_flow_here, _law_names) -/
def n__law_bad_names : List Str := ["_law_flow_here", "_law_names", "_law_at", "_law_odd", "_law_wrong", "_law_found", "_law_four", "_law_family_here", "_law_given", "_law_one"]
def m__law_bad_names : List Sm :=
  [.asg (.nm 2) (.call i__law_draw [.var 0, .blt .len [.var 1]]),
  .asg (.tp [.nm 7, .nm 8]) (.idx (.var 1) (.var 2)),
  .asg (.nm 3) (.bin .add false (.lc false (.tup [.var 9, .var 8]) (.nm 9) (.ex (.call i__law_bad_words [.var 7])) [9]) (.lst false [.tup [.non, .var 8]])),
  .asg (.nm 4) (.lst false [.str [], .meth .lower (.var 8) [], .bin .add false (.var 8) (.str [97]), .bin .add false (.var 8) (.str [46]), .bin .add false (.var 8) (.str [32]), .bin .add false (.str [32]) (.var 8), .bin .add false (.var 8) (.str [49]), .non, .int 5, .bl true]),
  .asg (.nm 3) (.bin .add false (.var 3) (.lc false (.tup [.var 7, .var 9]) (.nm 9) (.ex (.bin .add false (.var 4) (.lst false [.tup [.var 8], .bin .add false (.var 8) (.str [32, 65]), .bin .add false (.str [97]) (.var 8)]))) [9])),
  .asg (.nm 3) (.bin .add false (.var 3) (.lst false [.tup [.var 7], .tup [.var 7, .var 8, .var 8], .var 7, .non, .int 5, .bl true, .tup [], .tup [.meth .lower (.var 8) [], .var 7]])),
  .asg (.nm 5) (.lc false (.bin .add false (.bin .add false (.slc false (.var 1) (.non) (.var 2)) (.tup [.var 9])) (.slc false (.var 1) (.bin .add false (.var 2) (.int 1)) (.non))) (.nm 9) (.ex (.var 3)) [9]),
  .asg (.nm 6) (.slc false (.bin .add false (.bin .add false (.bin .add false (.var 1) (.var 1)) (.var 1)) (.var 1)) (.non) (.int 4)),
  .ret false (.bin .add false (.var 5) (.lst false [.tup [], .var 6, .non, .int 5, .bl true, .var 7, .blt (.lst false) [.var 1], .tup [.var 7, .var 8], .str [65, 98]]))]
abbrev s__law_bad_names : Stmt := top 33
abbrev P__law_bad_names : List Str := ["_law_flow_here", "_law_names"]
def f__law_bad_names : Str × List Str × List (List Str × List Nat) := ("_law_bad_names", P__law_bad_names, [])
/-- _law_bad_titles(_law_title) -/
def n__law_bad_titles : List Str := ["_law_title", "_law_found"]
def m__law_bad_titles : List Sm :=
  [.asg (.nm 1) (.lst false [.str [], .meth .lower (.var 0) [], .bin .add false (.str [32]) (.var 0), .bin .add false (.var 0) (.str [32]), .bin .add false (.var 0) (.str [32, 32, 97]), .bin .add false (.var 0) (.str [32, 65]), .bin .add false (.var 0) (.str [49]), .bin .add false (.var 0) (.str [32, 97, 49])]),
  .asg (.nm 1) (.bin .add false (.var 1) (.lst false [.bin .add false (.var 0) (.str [45, 97]), .bin .add false (.var 0) (.str [10]), .bin .add false (.var 0) (.str [46]), .bin .add false (.str [65]) (.var 0), .str [49], .non, .int 5, .bl true, .tup [.var 0], .lst false [.var 0]])),
  .ret false (.bin .add false (.var 1) (.lst false [.bin .add false (.var 0) (.str [32, 97, 32, 66]), .bin .add false (.var 0) (.str [9, 97])]))]
abbrev s__law_bad_titles : Stmt := top 34
abbrev P__law_bad_titles : List Str := ["_law_title"]
def f__law_bad_titles : Str × List Str × List (List Str × List Nat) := ("_law_bad_titles", P__law_bad_titles, [])
/-- _law_spoilt(_law_flow_here, _law_book_here) -/
def n__law_spoilt : List Str := ["_law_flow_here", "_law_book_here", "_law_far", "_law_word", "_law_found", "_law_one", "_law_names", "_law_year", "_law_title", "_law_place", "_law_volume"]
def m__law_spoilt : List Sm :=
  [.asg (.tp [.nm 6, .nm 7, .nm 8, .nm 9, .nm 10]) (.var 1),
  .asg (.nm 2) (.call i__law_draw [.var 0, .bin .pow false (.int 10) (.int 20)]),
  .asg (.nm 3) (.var 9),
  .ifs (.isN (.var 9))
    [.asg (.nm 3) (.call i__law_family [.var 0])]
    [],
  .asg (.nm 4) (.lc true (.tup [.var 5, .var 7, .var 8, .var 9, .var 10]) (.nm 5) (.ex (.call i__law_bad_names [.var 0, .var 6])) [5]),
  .for (.nm 5) (.ex (.lst false [.int 999, .int 3000, .int 0, .bin .sub false (.int 0) (.var 7), .bin .add false (.int 3000) (.var 2), .bin .sub false (.neg (.int 1)) (.var 2), .non, .blt .str [.var 7], .bl true, .tup [.var 7], .lst false [.var 7], .tup []]))
    [.expr (.meth .append (.var 4) [.tup [.var 6, .var 5, .var 8, .var 9, .var 10]])],
  .asg (.nm 4) (.bin .add true (.var 4) (.lc false (.tup [.var 6, .var 7, .var 5, .var 9, .var 10]) (.nm 5) (.ex (.call i__law_bad_titles [.var 8])) [5])),
  .asg (.nm 4) (.bin .add true (.var 4) (.lc false (.tup [.var 6, .var 7, .var 8, .var 5, .var 10]) (.nm 5) (.ex (.call i__law_bad_words [.var 3])) [5])),
  .for (.nm 5) (.ex (.lst false [.int 0, .int 1000, .neg (.int 1), .bin .add false (.int 1000) (.var 2), .bin .sub false (.neg (.int 1)) (.var 2), .str [49], .str [], .bl true, .bl false, .tup [.int 1], .lst false [], .tup []]))
    [.expr (.meth .append (.var 4) [.tup [.var 6, .var 7, .var 8, .var 9, .var 5]])],
  .asg (.nm 4) (.bin .add true (.var 4) (.lst false [.blt (.lst false) [.var 1], .tup [.bin .add false (.lst false [.blt (.lst false) [.idx (.var 6) (.int 0)]]) (.blt (.lst false) [.slc false (.var 6) (.int 1) (.non)]), .var 7, .var 8, .var 9, .var 10]])),
  .expr (.meth .append (.var 4) [.tup [.bin .add false (.tup [.blt (.lst false) [.idx (.var 6) (.int 0)]]) (.slc false (.var 6) (.int 1) (.non)), .var 7, .var 8, .var 9, .var 10]]),
  .asg (.nm 4) (.bin .add true (.var 4) (.lst false [.slc false (.var 1) (.non) (.int 4), .bin .add false (.var 1) (.tup [.non]), .slc false (.var 1) (.non) (.int 3), .tup [], .non, .int 5, .bl true, .bl false, .str [], .var 8, .tup [.var 1]])),
  .asg (.nm 4) (.bin .add true (.var 4) (.lst false [.tup [.var 6, .var 8, .var 7], .tup [.var 6, .var 8, .var 7, .var 9, .var 10], .rev false (.var 1)])),
  .ret false (.bin .add false (.var 4) (.lst false [.tup [.var 7, .var 6, .var 8, .var 9, .var 10]]))]
abbrev s__law_spoilt : Stmt := top 35
abbrev P__law_spoilt : List Str := ["_law_flow_here", "_law_book_here"]
def f__law_spoilt : Str × List Str × List (List Str × List Nat) := ("_law_spoilt", P__law_spoilt, [])
/-- _law_near(_law_flow_here, _law_book_here) -/
def n__law_near : List Str := ["_law_flow_here", "_law_book_here", "_law_kind", "_law_names", "_law_year", "_law_title", "_law_place", "_law_volume"]
def m__law_near : List Sm :=
  [.asg (.tp [.nm 3, .nm 4, .nm 5, .nm 6, .nm 7]) (.var 1),
  .asg (.nm 2) (.call i__law_draw [.var 0, .int 6]),
  .ifs (.cmp .eq (.var 2) (.int 0))
    [.ret false (.tup [.var 3, .idx (.lst false [.bin .add false (.var 4) (.int 1), .bin .sub false (.var 4) (.int 1)]) (.blt .int [.cmp .gt (.var 4) (.int 2000)]), .var 5, .var 6, .var 7])]
    [],
  .ifs (.and [.cmp .eq (.var 2) (.int 1), .cmp .lt (.blt .len [.var 5]) (.int 29)])
    [.ret false (.tup [.var 3, .var 4, .bin .add false (.var 5) (.str [32, 97]), .var 6, .var 7])]
    [],
  .ifs (.cmp .eq (.var 2) (.int 2))
    [.ret false (.tup [.var 3, .var 4, .var 5, .idx (.lst false [.call i__law_family [.var 0], .non]) (.blt .int [.nsN (.var 6)]), .var 7])]
    [],
  .ifs (.cmp .eq (.var 2) (.int 3))
    [.ret false (.tup [.var 3, .var 4, .var 5, .var 6, .idx (.lst false [.int 7, .non]) (.blt .int [.nsN (.var 7)])])]
    [],
  .ifs (.and [.cmp .eq (.var 2) (.int 4), .cmp .gt (.blt .len [.var 3]) (.int 1), .cmp .ne (.idx (.var 3) (.int 0)) (.idx (.var 3) (.int 1))])
    [.ret false (.tup [.bin .add false (.tup [.idx (.var 3) (.int 1), .idx (.var 3) (.int 0)]) (.slc false (.var 3) (.int 2) (.non)), .var 4, .var 5, .var 6, .var 7])]
    [],
  .ifs (.cmp .eq (.blt .len [.idx (.idx (.var 3) (.int 0)) (.int 0)]) (.int 8))
    [.ret false (.tup [.bin .add false (.tup [.tup [.slc false (.idx (.idx (.var 3) (.int 0)) (.int 0)) (.non) (.int 7), .idx (.idx (.var 3) (.int 0)) (.int 1)]]) (.slc false (.var 3) (.int 1) (.non)), .var 4, .var 5, .var 6, .var 7])]
    [],
  .ret false (.tup [.bin .add false (.tup [.tup [.bin .add false (.idx (.idx (.var 3) (.int 0)) (.int 0)) (.str [97]), .idx (.idx (.var 3) (.int 0)) (.int 1)]]) (.slc false (.var 3) (.int 1) (.non)), .var 4, .var 5, .var 6, .var 7])]
abbrev s__law_near : Stmt := top 36
abbrev P__law_near : List Str := ["_law_flow_here", "_law_book_here"]
def f__law_near : Str × List Str × List (List Str × List Nat) := ("_law_near", P__law_near, [])
/-- _law_long(_law_flow_here, _law_book_here) -/
def n__law_long : List Str := ["_law_flow_here", "_law_book_here", "_law_more", "_law_far", "_law_given", "_law_found", "_law_names", "_law_year", "_law_title", "_law_place", "_law_volume", "_law_k"]
def m__law_long : List Sm :=
  [.asg (.tp [.nm 6, .nm 7, .nm 8, .nm 9, .nm 10]) (.var 1),
  .asg (.nm 2) (.call i__law_small [.var 0, .bin .add false (.int 9) (.call i__law_draw [.var 0, .int 200])]),
  .asg (.nm 3) (.tup [.bin .add false (.idx (.idx (.var 6) (.int 0)) (.int 0)) (.var 2), .idx (.idx (.var 6) (.int 0)) (.int 1)]),
  .asg (.nm 4) (.meth .join (.str []) [.lc false (.idx (.idx (.var 6) (.int 0)) (.int 1)) (.nm 11) (.rng1 (.int 9)) [11]]),
  .asg (.nm 5) (.lst false [.tup [.bin .add false (.tup [.var 3]) (.slc false (.var 6) (.int 1) (.non)), .var 7, .var 8, .var 9, .var 10], .tup [.var 6, .var 7, .bin .add false (.var 8) (.var 2), .var 9, .var 10]]),
  .asg (.nm 5) (.bin .add false (.var 5) (.lst false [.tup [.var 6, .var 7, .bin .add false (.bin .add false (.var 8) (.str [32])) (.var 2), .var 9, .var 10], .tup [.var 6, .var 7, .var 8, .bin .add false (.str [65]) (.var 2), .var 10]])),
  .ret false (.call i__law_pick [.var 0, .bin .add false (.var 5) (.lst false [.tup [.bin .add false (.tup [.tup [.idx (.idx (.var 6) (.int 0)) (.int 0), .var 4]]) (.slc false (.var 6) (.int 1) (.non)), .var 7, .var 8, .var 9, .var 10]])])]
abbrev s__law_long : Stmt := top 37
abbrev P__law_long : List Str := ["_law_flow_here", "_law_book_here"]
def f__law_long : Str × List Str × List (List Str × List Nat) := ("_law_long", P__law_long, [])
/-- _law_refused(_law_thing) -/
def n__law_refused : List Str := ["_law_thing", "e"]
def m__law_refused : List Sm :=
  [.tr [.expr (.call i_shape_of [.var 0])]
    [.mk e_InvalidBook (some 1) [.ret false (.call i__law_same [.exf 1 "value", .var 0])]],
  .ret false (.bl false)]
abbrev s__law_refused : Stmt := top 38
abbrev P__law_refused : List Str := ["_law_thing"]
def f__law_refused : Str × List Str × List (List Str × List Nat) := ("_law_refused", P__law_refused, [])
/-- _law_books_right(_law_flow_here, _law_books) -/
def n__law_books_right : List Str := ["_law_flow_here", "_law_books", "_law_book_here", "_law_odd", "_law_due"]
def m__law_books_right : List Sm :=
  [.for (.nm 2) (.ex (.var 1))
    [.ifs (.or [.nsB true (.call i_is_book [.var 2]), .nsB true (.callk i_is_book [.var 2] [0])])
      [.ret false (.bl false)]
      [],
    .asg (.nm 4) (.tup [.blt .len [.idx (.var 2) (.int 0)], .blt .int [.nsN (.idx (.var 2) (.int 3))], .blt .int [.nsN (.idx (.var 2) (.int 4))]]),
    .ifs (.or [.not (.call i__law_same [.callk i_shape_of [.var 2] [0], .var 4]), .cmp .notin (.var 4) (.glb j_SHAPES)])
      [.ret false (.bl false)]
      []],
  .ifs (.or [.nsB true (.call i_is_book [.call i__law_long [.var 0, .idx (.var 1) (.neg (.int 1))]]), .nsB true (.call i_is_list [.tup [.call i__law_long [.var 0, .idx (.var 1) (.int 0)]]])])
    [.ret false (.bl false)]
    [],
  .for (.nm 3) (.ex (.call i__law_spoilt [.var 0, .idx (.var 1) (.int 0)]))
    [.ifs (.or [.nsB false (.call i_is_book [.var 3]), .not (.call i__law_refused [.var 3])])
      [.ret false (.bl false)]
      []],
  .ret false (.bl true)]
abbrev s__law_books_right : Stmt := top 39
abbrev P__law_books_right : List Str := ["_law_flow_here", "_law_books"]
def f__law_books_right : Str × List Str × List (List Str × List Nat) := ("_law_books_right", P__law_books_right, [])
/-- _law_lists_right(_law_flow_here, _law_books) -/
def n__law_lists_right : List Str := ["_law_flow_here", "_law_books", "_law_many", "_law_at", "_law_twice", "_law_odd", "_law_k", "_law_thing", "_law_one"]
def m__law_lists_right : List Sm :=
  [.for (.nm 2) (.rng1 (.bin .add false (.blt .len [.var 1]) (.int 1)))
    [.ifs (.or [.nsB true (.call i_is_list [.blt .tup [.slc false (.var 1) (.non) (.var 2)]]), .nsB true (.callk i_is_list [.blt .tup [.slc false (.var 1) (.var 2) (.non)]] [0])])
      [.ret false (.bl false)]
      []],
  .asg (.nm 3) (.call i__law_draw [.var 0, .bin .add false (.blt .len [.var 1]) (.int 1)]),
  .asg (.nm 4) (.bin .add false (.bin .add false (.slc false (.var 1) (.non) (.var 3)) (.lst false [.call i__law_pick [.var 0, .var 1]])) (.slc false (.var 1) (.var 3) (.non))),
  .ifs (.or [.nsB false (.call i_is_list [.blt .tup [.var 4]]), .nsB false (.call i_is_list [.blt (.lst false) [.var 1]])])
    [.ret false (.bl false)]
    [],
  .asg (.nm 5) (.call i__law_spoilt [.var 0, .idx (.var 1) (.int 0)]),
  .for (.nm 6) (.rng1 (.int 6))
    [.asg (.nm 8) (.call i__law_pick [.var 0, .var 5]),
    .ifs (.or [.nsB false (.call i_is_list [.blt .tup [.bin .add false (.bin .add false (.slc false (.var 1) (.non) (.var 3)) (.lst false [.var 8])) (.slc false (.var 1) (.var 3) (.non))]]), .nsB false (.call i_is_list [.tup [.var 8]])])
      [.ret false (.bl false)]
      []],
  .for (.nm 7) (.ex (.lst false [.non, .int 5, .bl true, .str [], .str [65, 115, 104], .idx (.var 1) (.int 0), .tup [.var 1], .tup [.blt .tup [.var 1]], .lst false [], .tup [.tup []]]))
    [.ifs (.nsB false (.call i_is_list [.var 7]))
      [.ret false (.bl false)]
      []],
  .ret false (.bl true)]
abbrev s__law_lists_right : Stmt := top 40
abbrev P__law_lists_right : List Str := ["_law_flow_here", "_law_books"]
def f__law_lists_right : Str × List Str × List (List Str × List Nat) := ("_law_lists_right", P__law_lists_right, [])
/-- law(_law_script) -/
def n_law : List Str := ["_law_script", "_law_flow_here", "_law_twelve", "_law_many", "_law_books", "_law_k", "_law_book_here"]
def m_law : List Sm :=
  [.asg (.nm 1) (.call i__law_flow [.var 0]),
  .asg (.nm 2) (.lst false []),
  .for (.nm 3) (.rng2 (.int 1) (.int 4))
    [.asg (.nm 2) (.bin .add false (.var 2) (.lst false [.tup [.var 3, .int 0, .int 0], .tup [.var 3, .int 0, .int 1], .tup [.var 3, .int 1, .int 0], .tup [.var 3, .int 1, .int 1]]))],
  .ifs (.not (.call i__law_same [.glb j_SHAPES, .blt .tup [.var 2]]))
    [.ret false (.bl false)]
    [],
  .asg (.nm 4) (.lst true [.call i__law_book [.var 1]]),
  .for (.nm 5) (.rng1 (.call i__law_draw [.var 1, .int 6]))
    [.asg (.nm 6) (.call i__law_book [.var 1]),
    .ifs (.cmp .eq (.call i__law_draw [.var 1, .int 2]) (.int 1))
      [.asg (.nm 6) (.call i__law_near [.var 1, .call i__law_pick [.var 1, .var 4]])]
      [],
    .ifs (.cmp .notin (.var 6) (.var 4))
      [.expr (.meth .append (.var 4) [.var 6])]
      []],
  .ret false (.and [.call i__law_books_right [.var 1, .var 4], .call i__law_lists_right [.var 1, .frz 4]])]
abbrev s_law : Stmt := top 41
abbrev P_law : List Str := ["_law_script"]
def f_law : Str × List Str × List (List Str × List Nat) := ("law", P_law, [])
def fns : List (Str × List Str × List (List Str × List Nat)) := [f_is_integer, f_are_all_of, f_is_family, f_is_given, f_is_title, f_is_name, f_is_book, f_is_list, f_need_book, f_shape_of, f__law_flow, f__law_load, f__law_draw, f__law_pick, f__law_same, f__law_small, f__law_capital, f__law_family, f__law_name, f__law_book, f__law_bad_words, f__law_bad_names, f__law_bad_titles, f__law_spoilt, f__law_near, f__law_long, f__law_refused, f__law_books_right, f__law_lists_right, f_law]
def hots : List Nat := [14]
def nt (i : Nat) : NT := ⟨fns.take i, cons, excs, none, hots, false, false⟩
abbrev T_is_integer : NT := nt 0
theorem c_is_integer : chkB T_is_integer n_is_integer (defScope s_is_integer) (fun _ => true) m_is_integer (defBody s_is_integer) = true := by decide +kernel
theorem sc_is_integer : FnScope n_is_integer P_is_integer (defScope s_is_integer) := ⟨rfl, rfl, rfl, by decide +kernel, rfl, by decide +kernel, by decide +kernel⟩
abbrev T_are_all_of : NT := nt 1
theorem c_are_all_of : chkB T_are_all_of n_are_all_of (defScope s_are_all_of) (fun _ => true) m_are_all_of (defBody s_are_all_of) = true := by decide +kernel
theorem sc_are_all_of : FnScope n_are_all_of P_are_all_of (defScope s_are_all_of) := ⟨rfl, rfl, rfl, by decide +kernel, rfl, by decide +kernel, by decide +kernel⟩
abbrev T_is_family : NT := nt 2
theorem c_is_family : chkB T_is_family n_is_family (defScope s_is_family) (fun _ => true) m_is_family (defBody s_is_family) = true := by decide +kernel
theorem sc_is_family : FnScope n_is_family P_is_family (defScope s_is_family) := ⟨rfl, rfl, rfl, by decide +kernel, rfl, by decide +kernel, by decide +kernel⟩
abbrev T_is_given : NT := nt 3
theorem c_is_given : chkB T_is_given n_is_given (defScope s_is_given) (fun _ => true) m_is_given (defBody s_is_given) = true := by decide +kernel
theorem sc_is_given : FnScope n_is_given P_is_given (defScope s_is_given) := ⟨rfl, rfl, rfl, by decide +kernel, rfl, by decide +kernel, by decide +kernel⟩
abbrev T_is_title : NT := nt 4
theorem c_is_title : chkB T_is_title n_is_title (defScope s_is_title) (fun _ => true) m_is_title (defBody s_is_title) = true := by decide +kernel
theorem sc_is_title : FnScope n_is_title P_is_title (defScope s_is_title) := ⟨rfl, rfl, rfl, by decide +kernel, rfl, by decide +kernel, by decide +kernel⟩
abbrev T_is_name : NT := nt 5
theorem c_is_name : chkB T_is_name n_is_name (defScope s_is_name) (fun _ => true) m_is_name (defBody s_is_name) = true := by decide +kernel
theorem sc_is_name : FnScope n_is_name P_is_name (defScope s_is_name) := ⟨rfl, rfl, rfl, by decide +kernel, rfl, by decide +kernel, by decide +kernel⟩
abbrev T_is_book : NT := nt 6
theorem c_is_book : chkB T_is_book n_is_book (defScope s_is_book) (fun _ => true) m_is_book (defBody s_is_book) = true := by decide +kernel
theorem sc_is_book : FnScope n_is_book P_is_book (defScope s_is_book) := ⟨rfl, rfl, rfl, by decide +kernel, rfl, by decide +kernel, by decide +kernel⟩
abbrev T_is_list : NT := nt 7
theorem c_is_list : chkB T_is_list n_is_list (defScope s_is_list) (fun _ => true) m_is_list (defBody s_is_list) = true := by decide +kernel
theorem sc_is_list : FnScope n_is_list P_is_list (defScope s_is_list) := ⟨rfl, rfl, rfl, by decide +kernel, rfl, by decide +kernel, by decide +kernel⟩
abbrev T_need_book : NT := nt 8
theorem c_need_book : chkB T_need_book n_need_book (defScope s_need_book) (fun _ => true) m_need_book (defBody s_need_book) = true := by decide +kernel
theorem sc_need_book : FnScope n_need_book P_need_book (defScope s_need_book) := ⟨rfl, rfl, rfl, by decide +kernel, rfl, by decide +kernel, by decide +kernel⟩
abbrev T_shape_of : NT := nt 9
theorem c_shape_of : chkB T_shape_of n_shape_of (defScope s_shape_of) (fun _ => true) m_shape_of (defBody s_shape_of) = true := by decide +kernel
theorem sc_shape_of : FnScope n_shape_of P_shape_of (defScope s_shape_of) := ⟨rfl, rfl, rfl, by decide +kernel, rfl, by decide +kernel, by decide +kernel⟩
abbrev T__law_flow : NT := nt 10
theorem c__law_flow : chkB T__law_flow n__law_flow (defScope s__law_flow) (fun _ => true) m__law_flow (defBody s__law_flow) = true := by decide +kernel
theorem sc__law_flow : FnScope n__law_flow P__law_flow (defScope s__law_flow) := ⟨rfl, rfl, rfl, by decide +kernel, rfl, by decide +kernel, by decide +kernel⟩
abbrev T__law_load : NT := nt 11
theorem c__law_load : chkB T__law_load n__law_load (defScope s__law_load) (fun _ => true) m__law_load (defBody s__law_load) = true := by decide +kernel
theorem sc__law_load : FnScope n__law_load P__law_load (defScope s__law_load) := ⟨rfl, rfl, rfl, by decide +kernel, rfl, by decide +kernel, by decide +kernel⟩
abbrev T__law_draw : NT := nt 12
theorem c__law_draw : chkB T__law_draw n__law_draw (defScope s__law_draw) (fun _ => true) m__law_draw (defBody s__law_draw) = true := by decide +kernel
theorem sc__law_draw : FnScope n__law_draw P__law_draw (defScope s__law_draw) := ⟨rfl, rfl, rfl, by decide +kernel, rfl, by decide +kernel, by decide +kernel⟩
abbrev T__law_pick : NT := nt 13
theorem c__law_pick : chkB T__law_pick n__law_pick (defScope s__law_pick) (fun _ => true) m__law_pick (defBody s__law_pick) = true := by decide +kernel
theorem sc__law_pick : FnScope n__law_pick P__law_pick (defScope s__law_pick) := ⟨rfl, rfl, rfl, by decide +kernel, rfl, by decide +kernel, by decide +kernel⟩
abbrev T__law_same : NT := nt 15
theorem c__law_same : chkB T__law_same n__law_same (defScope s__law_same) (fun _ => true) m__law_same (defBody s__law_same) = true := by decide +kernel
theorem sc__law_same : FnScope n__law_same P__law_same (defScope s__law_same) := ⟨rfl, rfl, rfl, by decide +kernel, rfl, by decide +kernel, by decide +kernel⟩
theorem h__law_same : DoesH T__law_same s__law_same n__law_same m__law_same := ⟨by decide, by decide +kernel⟩
abbrev T__law_small : NT := nt 15
theorem c__law_small : chkB T__law_small n__law_small (defScope s__law_small) (fun _ => true) m__law_small (defBody s__law_small) = true := by decide +kernel
theorem sc__law_small : FnScope n__law_small P__law_small (defScope s__law_small) := ⟨rfl, rfl, rfl, by decide +kernel, rfl, by decide +kernel, by decide +kernel⟩
abbrev T__law_capital : NT := nt 16
theorem c__law_capital : chkB T__law_capital n__law_capital (defScope s__law_capital) (fun _ => true) m__law_capital (defBody s__law_capital) = true := by decide +kernel
theorem sc__law_capital : FnScope n__law_capital P__law_capital (defScope s__law_capital) := ⟨rfl, rfl, rfl, by decide +kernel, rfl, by decide +kernel, by decide +kernel⟩
abbrev T__law_family : NT := nt 17
theorem c__law_family : chkB T__law_family n__law_family (defScope s__law_family) (fun _ => true) m__law_family (defBody s__law_family) = true := by decide +kernel
theorem sc__law_family : FnScope n__law_family P__law_family (defScope s__law_family) := ⟨rfl, rfl, rfl, by decide +kernel, rfl, by decide +kernel, by decide +kernel⟩
abbrev T__law_name : NT := nt 18
theorem c__law_name : chkB T__law_name n__law_name (defScope s__law_name) (fun _ => true) m__law_name (defBody s__law_name) = true := by decide +kernel
theorem sc__law_name : FnScope n__law_name P__law_name (defScope s__law_name) := ⟨rfl, rfl, rfl, by decide +kernel, rfl, by decide +kernel, by decide +kernel⟩
abbrev T__law_book : NT := nt 19
theorem c__law_book : chkB T__law_book n__law_book (defScope s__law_book) (fun _ => true) m__law_book (defBody s__law_book) = true := by decide +kernel
theorem sc__law_book : FnScope n__law_book P__law_book (defScope s__law_book) := ⟨rfl, rfl, rfl, by decide +kernel, rfl, by decide +kernel, by decide +kernel⟩
abbrev T__law_bad_words : NT := nt 20
theorem c__law_bad_words : chkB T__law_bad_words n__law_bad_words (defScope s__law_bad_words) (fun _ => true) m__law_bad_words (defBody s__law_bad_words) = true := by decide +kernel
theorem sc__law_bad_words : FnScope n__law_bad_words P__law_bad_words (defScope s__law_bad_words) := ⟨rfl, rfl, rfl, by decide +kernel, rfl, by decide +kernel, by decide +kernel⟩
abbrev T__law_bad_names : NT := nt 21
theorem c__law_bad_names : chkB T__law_bad_names n__law_bad_names (defScope s__law_bad_names) (fun _ => true) m__law_bad_names (defBody s__law_bad_names) = true := by decide +kernel
theorem sc__law_bad_names : FnScope n__law_bad_names P__law_bad_names (defScope s__law_bad_names) := ⟨rfl, rfl, rfl, by decide +kernel, rfl, by decide +kernel, by decide +kernel⟩
abbrev T__law_bad_titles : NT := nt 22
theorem c__law_bad_titles : chkB T__law_bad_titles n__law_bad_titles (defScope s__law_bad_titles) (fun _ => true) m__law_bad_titles (defBody s__law_bad_titles) = true := by decide +kernel
theorem sc__law_bad_titles : FnScope n__law_bad_titles P__law_bad_titles (defScope s__law_bad_titles) := ⟨rfl, rfl, rfl, by decide +kernel, rfl, by decide +kernel, by decide +kernel⟩
abbrev T__law_spoilt : NT := nt 23
theorem c__law_spoilt : chkB T__law_spoilt n__law_spoilt (defScope s__law_spoilt) (fun _ => true) m__law_spoilt (defBody s__law_spoilt) = true := by decide +kernel
theorem sc__law_spoilt : FnScope n__law_spoilt P__law_spoilt (defScope s__law_spoilt) := ⟨rfl, rfl, rfl, by decide +kernel, rfl, by decide +kernel, by decide +kernel⟩
abbrev T__law_near : NT := nt 24
theorem c__law_near : chkB T__law_near n__law_near (defScope s__law_near) (fun _ => true) m__law_near (defBody s__law_near) = true := by decide +kernel
theorem sc__law_near : FnScope n__law_near P__law_near (defScope s__law_near) := ⟨rfl, rfl, rfl, by decide +kernel, rfl, by decide +kernel, by decide +kernel⟩
abbrev T__law_long : NT := nt 25
theorem c__law_long : chkB T__law_long n__law_long (defScope s__law_long) (fun _ => true) m__law_long (defBody s__law_long) = true := by decide +kernel
theorem sc__law_long : FnScope n__law_long P__law_long (defScope s__law_long) := ⟨rfl, rfl, rfl, by decide +kernel, rfl, by decide +kernel, by decide +kernel⟩
abbrev T__law_refused : NT := nt 26
theorem c__law_refused : chkB T__law_refused n__law_refused (defScope s__law_refused) (fun _ => true) m__law_refused (defBody s__law_refused) = true := by decide +kernel
theorem sc__law_refused : FnScope n__law_refused P__law_refused (defScope s__law_refused) := ⟨rfl, rfl, rfl, by decide +kernel, rfl, by decide +kernel, by decide +kernel⟩
abbrev T__law_books_right : NT := nt 27
theorem c__law_books_right : chkB T__law_books_right n__law_books_right (defScope s__law_books_right) (fun _ => true) m__law_books_right (defBody s__law_books_right) = true := by decide +kernel
theorem sc__law_books_right : FnScope n__law_books_right P__law_books_right (defScope s__law_books_right) := ⟨rfl, rfl, rfl, by decide +kernel, rfl, by decide +kernel, by decide +kernel⟩
abbrev T__law_lists_right : NT := nt 28
theorem c__law_lists_right : chkB T__law_lists_right n__law_lists_right (defScope s__law_lists_right) (fun _ => true) m__law_lists_right (defBody s__law_lists_right) = true := by decide +kernel
theorem sc__law_lists_right : FnScope n__law_lists_right P__law_lists_right (defScope s__law_lists_right) := ⟨rfl, rfl, rfl, by decide +kernel, rfl, by decide +kernel, by decide +kernel⟩
abbrev T_law : NT := nt 29
theorem c_law : chkB T_law n_law (defScope s_law) (fun _ => true) m_law (defBody s_law) = true := by decide +kernel
theorem sc_law : FnScope n_law P_law (defScope s_law) := ⟨rfl, rfl, rfl, by decide +kernel, rfl, by decide +kernel, by decide +kernel⟩
end K02
-- v2
set_option Elab.async false
set_option linter.all false
set_option maxRecDepth 100000
set_option maxHeartbeats 8000000
namespace K02
open PySem PySem.Spec PyProof.Rows L2 MP

/-- the drawing state -/
def Good : Ob → Prop := fun o => ∃ (cs : List Int) (i1 i2 i3 i4 i5 : Int), o = .lst [.lst (cs.map .int), .int i1, .int i2, .int i3, .int i4, .int i5] ∧ 0 ≤ i1
abbrev Gst := GstP Good
def badB (d : D) : Prop := bokB d = false ∧ Lt 11 d
/-! is_integer -/
def sp_is_integer : SpecD := fun ds S Q E => ∃ v, ds = [v] ∧ plain v = true ∧ Q (.bl (isIntD v)) S
/-! are_all_of -/
def sp_are_all_of : SpecD := fun ds S Q E => ∃ (s t : List Nat), ds = [.str s, .str t] ∧ s.length ≤ 1000000 ∧ Q (.bl (allIn s t)) S
/-! is_family -/
def sp_is_family : SpecD := fun ds S Q E => ∃ (v : D), ds = [v] ∧ Lt 60 v ∧ Q (.bl (famB v)) S
/-! is_given -/
def sp_is_given : SpecD := fun ds S Q E => ∃ (v : D), ds = [v] ∧ Lt 60 v ∧ Q (.bl (givB v)) S
/-! is_title -/
def sp_is_title : SpecD := fun ds S Q E => ∃ (v : D), ds = [v] ∧ Lt 60 v ∧ Q (.bl (titB v)) S
/-! is_name -/
def sp_is_name : SpecD := fun ds S Q E => ∃ (v : D), ds = [v] ∧ Lt 60 v ∧ Q (.bl (namB v)) S
/-! is_book -/
def sp_is_book : SpecD := fun ds S Q E => ∃ (v : D), ds = [v] ∧ Lt 60 v ∧ Q (.bl (bokB v)) S
/-! is_list -/
/-- lists of books -/
def lisB : D → Bool
  | .tup xs => xs.all bokB && distD xs
  | _ => false
def sp_is_list : SpecD := fun ds S Q E => ∃ (v : D), ds = [v] ∧ Lt 60 v ∧ Q (.bl (lisB v)) S
/-! need_book -/
def sp_need_book : SpecD := fun ds S Q E => ∃ (v : D), ds = [v] ∧ Lt 60 v ∧ (bokB v = true → Q v S) ∧ (bokB v = false → E ⟨e_InvalidBook, ["value"], [v]⟩ S)
/-! shape_of -/
def SHP : List D := [D.tup [.int 1, .int 0, .int 0], .tup [.int 1, .int 0, .int 1], .tup [.int 1, .int 1, .int 0], .tup [.int 1, .int 1, .int 1], .tup [.int 2, .int 0, .int 0], .tup [.int 2, .int 0, .int 1], .tup [.int 2, .int 1, .int 0], .tup [.int 2, .int 1, .int 1], .tup [.int 3, .int 0, .int 0], .tup [.int 3, .int 0, .int 1], .tup [.int 3, .int 1, .int 0], .tup [.int 3, .int 1, .int 1]]
def shpD (b : Bk) : D := .tup [.int b.ns.length, .int (if b.p = none then 0 else 1), .int (if b.v = none then 0 else 1)]
def sp_shape_of : SpecD := fun ds S Q E => ∃ (v : D), ds = [v] ∧ Lt 60 v ∧ (∀ b : Bk, bokB b.d = true → v = b.d → Q (shpD b) S) ∧ (bokB v = false → E ⟨e_InvalidBook, ["value"], [v]⟩ S)
/-! _law_flow -/
def sp__law_flow : SpecD := fun ds S Q E => ∃ ns : List Int, ds = [.scr (ns.map .int)] ∧ ∀ (p : Addr) (σ : Gst), S p = none → Q (.ref p) (supd S p σ.st)
/-! _law_load -/
def sp__law_load : SpecD := fun ds S Q E => ∃ a : Addr, ds = [.ref a] ∧ drF Good a (fun _ : Unit => True) (fun _ => D.non) S Q
/-! _law_draw -/
def sp__law_draw : SpecD := fun ds S Q E => ∃ (a : Addr) (m : Int), ds = [.ref a, .int m] ∧ 1 ≤ m ∧ m < 10 ^ 39 ∧ drF Good a (fun r : Int => 0 ≤ r ∧ r < m) D.int S Q
/-! _law_pick -/
def sp__law_pick : SpecD := fun ds S Q E => ∃ (a : Addr) (x : D) (l : List D), ds = [.ref a, x] ∧ (x = .lst l ∨ ∃ p, x = .ref p ∧ p ≠ a ∧ S p = some (.lst l)) ∧ 1 ≤ l.length ∧ l.length ≤ 1000000 ∧ drF Good a (fun x : D => x ∈ l) id S Q
/-! _law_same -/
/-! _law_small -/
def sp__law_small : SpecD := fun ds S Q E => ∃ (a : Addr) (m : Nat), ds = [.ref a, .int m] ∧ m ≤ 1000 ∧ drF Good a (fun w : List Nat => w.length = m ∧ allIn w SMLS = true) D.str S Q
/-! _law_capital -/
def sp__law_capital : SpecD := fun ds S Q E => ∃ (a : Addr), ds = [.ref a] ∧ drF Good a (fun c : Nat => c ∈ CAPS) (fun c => D.str [c]) S Q
/-! _law_family -/
def FamS (w : List Nat) : Prop := famL w = true ∧ w.length ≤ 8
def sp__law_family : SpecD := fun ds S Q E => ∃ (a : Addr), ds = [.ref a] ∧ drF Good a FamS D.str S Q
/-! _law_name -/
def NmS (n : Nm) : Prop := FamS n.f ∧ givL n.g = true ∧ n.g.length ≤ 8
def sp__law_name : SpecD := fun ds S Q E => ∃ (a : Addr), ds = [.ref a] ∧ drF Good a NmS Nm.d S Q
/-! _law_book -/
/-- a drawn book: short -/
def BkS (b : Bk) : Prop := b.Ok ∧ (∀ n ∈ b.ns, n.f.length ≤ 8 ∧ n.g.length ≤ 8) ∧ b.t.length ≤ 1000 ∧ ∀ s, b.p = some s → s.length ≤ 1000
def sp__law_book : SpecD := fun ds S Q E => ∃ (a : Addr), ds = [.ref a] ∧ drF Good a BkS Bk.d S Q
/-! _law_bad_words -/
def badW (d : D) : Prop := famB d = false ∧ MP.isNon d = false ∧ Lt 4 d
def sp__law_bad_words : SpecD := fun ds S Q E => ∃ (w : List Nat), ds = [.str w] ∧ famL w = true ∧ w.length ≤ 1000 ∧ ∀ l : List D, l.length = 18 → (∀ d ∈ l, badW d) → Q (.lst l) S
/-! _law_bad_names -/
def badN (d : D) : Prop := nmsB d = false ∧ Lt 7 d
def sp__law_bad_names : SpecD := fun ds S Q E => ∃ (a : Addr) (ns : List Nm), ds = [.ref a, .tup (ns.map Nm.d)] ∧ 1 ≤ ns.length ∧ ns.length ≤ 3 ∧ (∀ n ∈ ns, famL n.f = true ∧ givL n.g = true ∧ n.f.length ≤ 1000 ∧ n.g.length ≤ 1000) ∧ drF Good a (fun l : List D => 1 ≤ l.length ∧ l.length ≤ 100 ∧ ∀ d ∈ l, badN d) D.lst S Q
/-! _law_bad_titles -/
def badT (d : D) : Prop := titB d = false ∧ Lt 4 d
def sp__law_bad_titles : SpecD := fun ds S Q E => ∃ (w : List Nat), ds = [.str w] ∧ titL w = true ∧ w.length ≤ 1000 ∧ ∀ l : List D, l.length = 20 → (∀ d ∈ l, badT d) → Q (.lst l) S
/-! _law_spoilt -/
def sp__law_spoilt : SpecD := fun ds S Q E => ∃ (a : Addr) (b : Bk), ds = [.ref a, b.d] ∧ BkS b ∧ drF Good a (fun l : List D => 1 ≤ l.length ∧ l.length ≤ 1000 ∧ ∀ d ∈ l, badB d) D.lst S Q
/-! _law_near -/
def sp__law_near : SpecD := fun ds S Q E => ∃ (a : Addr) (b : Bk), ds = [.ref a, b.d] ∧ BkS b ∧ drF Good a BkS Bk.d S Q
/-! _law_long -/
def sp__law_long : SpecD := fun ds S Q E => ∃ (a : Addr) (b : Bk), ds = [.ref a, b.d] ∧ BkS b ∧ drF Good a (fun d : D => bokB d = true ∧ Lt 11 d) id S Q
/-! _law_refused -/
def sp__law_refused : SpecD := fun ds S Q E => ∃ (v : D), ds = [v] ∧ badB v ∧ Q (.bl true) S
/-! _law_books_right -/
def sp__law_books_right : SpecD := fun ds S Q E => ∃ (a p : Addr) (bs : List Bk), ds = [.ref a, .ref p] ∧ p ≠ a ∧ S p = some (.lst (bs.map Bk.d)) ∧ 1 ≤ bs.length ∧ bs.length ≤ 1000 ∧ (∀ b ∈ bs, BkS b) ∧ drF Good a (fun _ : Unit => True) (fun _ => .bl true) S Q
/-! _law_lists_right -/
def sp__law_lists_right : SpecD := fun ds S Q E => ∃ (a : Addr) (bs : List Bk), ds = [.ref a, .lst (bs.map Bk.d)] ∧ 1 ≤ bs.length ∧ bs.length ≤ 1000 ∧ (∀ b ∈ bs, BkS b) ∧ bs.Nodup ∧ drF Good a (fun _ : Unit => True) (fun _ => .bl true) S Q
/-! law -/
def sp_law : SpecD := fun ds S Q E => ∃ (ns : List Int), ds = [.scr (ns.map .int)] ∧ Q (.bl true) S
def bad : SpecD := fun _ _ _ _ => False
def sps : List SpecD := [sp_is_integer, sp_are_all_of, sp_is_family, sp_is_given, sp_is_title, sp_is_name, sp_is_book, sp_is_list, sp_need_book, sp_shape_of, sp__law_flow, sp__law_load, sp__law_draw, sp__law_pick, sp_same_ 12, sp__law_small, sp__law_capital, sp__law_family, sp__law_name, sp__law_book, sp__law_bad_words, sp__law_bad_names, sp__law_bad_titles, sp__law_spoilt, sp__law_near, sp__law_long, sp__law_refused, sp__law_books_right, sp__law_lists_right, sp_law]
def gk : GE := ⟨fun i => (sps[i]?).getD bad, fun i => (conV[i]?).getD .non, ancB⟩
theorem g_is_integer : gk.sp i_is_integer = sp_is_integer := rfl
theorem g_are_all_of : gk.sp i_are_all_of = sp_are_all_of := rfl
theorem g_is_family : gk.sp i_is_family = sp_is_family := rfl
theorem g_is_given : gk.sp i_is_given = sp_is_given := rfl
theorem g_is_title : gk.sp i_is_title = sp_is_title := rfl
theorem g_is_name : gk.sp i_is_name = sp_is_name := rfl
theorem g_is_book : gk.sp i_is_book = sp_is_book := rfl
theorem g_is_list : gk.sp i_is_list = sp_is_list := rfl
theorem g_need_book : gk.sp i_need_book = sp_need_book := rfl
theorem g_shape_of : gk.sp i_shape_of = sp_shape_of := rfl
theorem g__law_flow : gk.sp i__law_flow = sp__law_flow := rfl
theorem g__law_load : gk.sp i__law_load = sp__law_load := rfl
theorem g__law_draw : gk.sp i__law_draw = sp__law_draw := rfl
theorem g__law_pick : gk.sp i__law_pick = sp__law_pick := rfl
theorem g__law_same : gk.sp i__law_same = sp_same_ 12 := rfl
theorem g__law_small : gk.sp i__law_small = sp__law_small := rfl
theorem g__law_capital : gk.sp i__law_capital = sp__law_capital := rfl
theorem g__law_family : gk.sp i__law_family = sp__law_family := rfl
theorem g__law_name : gk.sp i__law_name = sp__law_name := rfl
theorem g__law_book : gk.sp i__law_book = sp__law_book := rfl
theorem g__law_bad_words : gk.sp i__law_bad_words = sp__law_bad_words := rfl
theorem g__law_bad_names : gk.sp i__law_bad_names = sp__law_bad_names := rfl
theorem g__law_bad_titles : gk.sp i__law_bad_titles = sp__law_bad_titles := rfl
theorem g__law_spoilt : gk.sp i__law_spoilt = sp__law_spoilt := rfl
theorem g__law_near : gk.sp i__law_near = sp__law_near := rfl
theorem g__law_long : gk.sp i__law_long = sp__law_long := rfl
theorem g__law_refused : gk.sp i__law_refused = sp__law_refused := rfl
theorem g__law_books_right : gk.sp i__law_books_right = sp__law_books_right := rfl
theorem g__law_lists_right : gk.sp i__law_lists_right = sp__law_lists_right := rfl
theorem g_law : gk.sp i_law = sp_law := rfl
theorem kc_CAPITALS : gk.con j_CAPITALS = .str [65, 66, 67, 68, 69, 70, 71, 72, 73, 74, 75, 76, 77, 78, 79, 80, 81, 82, 83, 84, 85, 86, 87, 88, 89, 90] := rfl
theorem wg_CAPITALS {ρ : Rho} {S : Sto} {Q : Post} {E : XPost} : wpE gk (.glb j_CAPITALS) ρ S Q E = Q (.str [65, 66, 67, 68, 69, 70, 71, 72, 73, 74, 75, 76, 77, 78, 79, 80, 81, 82, 83, 84, 85, 86, 87, 88, 89, 90]) S := by simp only [wpE]; rfl
theorem wgp_CAPITALS {i : Nat} {sp : SpecD} {ρ : Rho} {S : Sto} {Q : Post} {E : XPost} : wpE (gk.put i sp) (.glb j_CAPITALS) ρ S Q E = Q (.str [65, 66, 67, 68, 69, 70, 71, 72, 73, 74, 75, 76, 77, 78, 79, 80, 81, 82, 83, 84, 85, 86, 87, 88, 89, 90]) S := by simp only [wpE]; rfl
theorem kc_SMALLS : gk.con j_SMALLS = .str [97, 98, 99, 100, 101, 102, 103, 104, 105, 106, 107, 108, 109, 110, 111, 112, 113, 114, 115, 116, 117, 118, 119, 120, 121, 122] := rfl
theorem wg_SMALLS {ρ : Rho} {S : Sto} {Q : Post} {E : XPost} : wpE gk (.glb j_SMALLS) ρ S Q E = Q (.str [97, 98, 99, 100, 101, 102, 103, 104, 105, 106, 107, 108, 109, 110, 111, 112, 113, 114, 115, 116, 117, 118, 119, 120, 121, 122]) S := by simp only [wpE]; rfl
theorem wgp_SMALLS {i : Nat} {sp : SpecD} {ρ : Rho} {S : Sto} {Q : Post} {E : XPost} : wpE (gk.put i sp) (.glb j_SMALLS) ρ S Q E = Q (.str [97, 98, 99, 100, 101, 102, 103, 104, 105, 106, 107, 108, 109, 110, 111, 112, 113, 114, 115, 116, 117, 118, 119, 120, 121, 122]) S := by simp only [wpE]; rfl
theorem kc_MOST_NAMES : gk.con j_MOST_NAMES = .int 3 := rfl
theorem wg_MOST_NAMES {ρ : Rho} {S : Sto} {Q : Post} {E : XPost} : wpE gk (.glb j_MOST_NAMES) ρ S Q E = Q (.int 3) S := by simp only [wpE]; rfl
theorem wgp_MOST_NAMES {i : Nat} {sp : SpecD} {ρ : Rho} {S : Sto} {Q : Post} {E : XPost} : wpE (gk.put i sp) (.glb j_MOST_NAMES) ρ S Q E = Q (.int 3) S := by simp only [wpE]; rfl
theorem kc_FIRST_YEAR : gk.con j_FIRST_YEAR = .int 1000 := rfl
theorem wg_FIRST_YEAR {ρ : Rho} {S : Sto} {Q : Post} {E : XPost} : wpE gk (.glb j_FIRST_YEAR) ρ S Q E = Q (.int 1000) S := by simp only [wpE]; rfl
theorem wgp_FIRST_YEAR {i : Nat} {sp : SpecD} {ρ : Rho} {S : Sto} {Q : Post} {E : XPost} : wpE (gk.put i sp) (.glb j_FIRST_YEAR) ρ S Q E = Q (.int 1000) S := by simp only [wpE]; rfl
theorem kc_LAST_YEAR : gk.con j_LAST_YEAR = .int 2999 := rfl
theorem wg_LAST_YEAR {ρ : Rho} {S : Sto} {Q : Post} {E : XPost} : wpE gk (.glb j_LAST_YEAR) ρ S Q E = Q (.int 2999) S := by simp only [wpE]; rfl
theorem wgp_LAST_YEAR {i : Nat} {sp : SpecD} {ρ : Rho} {S : Sto} {Q : Post} {E : XPost} : wpE (gk.put i sp) (.glb j_LAST_YEAR) ρ S Q E = Q (.int 2999) S := by simp only [wpE]; rfl
theorem kc_LAST_VOLUME : gk.con j_LAST_VOLUME = .int 999 := rfl
theorem wg_LAST_VOLUME {ρ : Rho} {S : Sto} {Q : Post} {E : XPost} : wpE gk (.glb j_LAST_VOLUME) ρ S Q E = Q (.int 999) S := by simp only [wpE]; rfl
theorem wgp_LAST_VOLUME {i : Nat} {sp : SpecD} {ρ : Rho} {S : Sto} {Q : Post} {E : XPost} : wpE (gk.put i sp) (.glb j_LAST_VOLUME) ρ S Q E = Q (.int 999) S := by simp only [wpE]; rfl
theorem kc_SHAPES : gk.con j_SHAPES = .tup [.tup [.int 1, .int 0, .int 0], .tup [.int 1, .int 0, .int 1], .tup [.int 1, .int 1, .int 0], .tup [.int 1, .int 1, .int 1], .tup [.int 2, .int 0, .int 0], .tup [.int 2, .int 0, .int 1], .tup [.int 2, .int 1, .int 0], .tup [.int 2, .int 1, .int 1], .tup [.int 3, .int 0, .int 0], .tup [.int 3, .int 0, .int 1], .tup [.int 3, .int 1, .int 0], .tup [.int 3, .int 1, .int 1]] := rfl
theorem wg_SHAPES {ρ : Rho} {S : Sto} {Q : Post} {E : XPost} : wpE gk (.glb j_SHAPES) ρ S Q E = Q (.tup [.tup [.int 1, .int 0, .int 0], .tup [.int 1, .int 0, .int 1], .tup [.int 1, .int 1, .int 0], .tup [.int 1, .int 1, .int 1], .tup [.int 2, .int 0, .int 0], .tup [.int 2, .int 0, .int 1], .tup [.int 2, .int 1, .int 0], .tup [.int 2, .int 1, .int 1], .tup [.int 3, .int 0, .int 0], .tup [.int 3, .int 0, .int 1], .tup [.int 3, .int 1, .int 0], .tup [.int 3, .int 1, .int 1]]) S := by simp only [wpE]; rfl
theorem wgp_SHAPES {i : Nat} {sp : SpecD} {ρ : Rho} {S : Sto} {Q : Post} {E : XPost} : wpE (gk.put i sp) (.glb j_SHAPES) ρ S Q E = Q (.tup [.tup [.int 1, .int 0, .int 0], .tup [.int 1, .int 0, .int 1], .tup [.int 1, .int 1, .int 0], .tup [.int 1, .int 1, .int 1], .tup [.int 2, .int 0, .int 0], .tup [.int 2, .int 0, .int 1], .tup [.int 2, .int 1, .int 0], .tup [.int 2, .int 1, .int 1], .tup [.int 3, .int 0, .int 0], .tup [.int 3, .int 0, .int 1], .tup [.int 3, .int 1, .int 0], .tup [.int 3, .int 1, .int 1]]) S := by simp only [wpE]; rfl
theorem ga_0_0 : gk.anc e_CiteError e_CiteError = true := Eq.trans (by decide +kernel) rfl
theorem ga_0_1 : gk.anc e_CiteError e_ValueError = true := Eq.trans (by decide +kernel) rfl
theorem ga_0_2 : gk.anc e_CiteError e_InvalidBook = false := Eq.trans (by decide +kernel) rfl
theorem ga_1_0 : gk.anc e_ValueError e_CiteError = true := Eq.trans (by decide +kernel) rfl
theorem ga_1_1 : gk.anc e_ValueError e_ValueError = true := Eq.trans (by decide +kernel) rfl
theorem ga_1_2 : gk.anc e_ValueError e_InvalidBook = false := Eq.trans (by decide +kernel) rfl
theorem ga_2_0 : gk.anc e_InvalidBook e_CiteError = true := Eq.trans (by decide +kernel) rfl
theorem ga_2_1 : gk.anc e_InvalidBook e_ValueError = true := Eq.trans (by decide +kernel) rfl
theorem ga_2_2 : gk.anc e_InvalidBook e_InvalidBook = true := Eq.trans (by decide +kernel) rfl
theorem u_is_integer {v : D} {S : Sto} {Q : Post} {E : XPost} : gk.sp i_is_integer [v] S Q E = (plain v = true ∧ Q (.bl (isIntD v)) S) := by
  rw [g_is_integer]
  exact propext ⟨fun ⟨_, e, h⟩ => (by cases e; exact h), fun h => ⟨_, rfl, h⟩⟩
theorem u_are_all_of {s t : List Nat} {S : Sto} {Q : Post} {E : XPost} : gk.sp i_are_all_of [.str s, .str t] S Q E = (s.length ≤ 1000000 ∧ Q (.bl (allIn s t)) S) := by
  rw [g_are_all_of]
  exact propext ⟨fun ⟨_, _, e, h⟩ => (by cases e; exact h), fun h => ⟨_, _, rfl, h⟩⟩
theorem u_is_family {v : D} {S : Sto} {Q : Post} {E : XPost} : gk.sp i_is_family [v] S Q E = (Lt 60 v ∧ Q (.bl (famB v)) S) := by
  rw [g_is_family]
  exact propext ⟨fun ⟨_, e, h⟩ => (by cases e; exact h), fun h => ⟨_, rfl, h⟩⟩
theorem u_is_given {v : D} {S : Sto} {Q : Post} {E : XPost} : gk.sp i_is_given [v] S Q E = (Lt 60 v ∧ Q (.bl (givB v)) S) := by
  rw [g_is_given]
  exact propext ⟨fun ⟨_, e, h⟩ => (by cases e; exact h), fun h => ⟨_, rfl, h⟩⟩
theorem u_is_title {v : D} {S : Sto} {Q : Post} {E : XPost} : gk.sp i_is_title [v] S Q E = (Lt 60 v ∧ Q (.bl (titB v)) S) := by
  rw [g_is_title]
  exact propext ⟨fun ⟨_, e, h⟩ => (by cases e; exact h), fun h => ⟨_, rfl, h⟩⟩
theorem u_is_name {v : D} {S : Sto} {Q : Post} {E : XPost} : gk.sp i_is_name [v] S Q E = (Lt 60 v ∧ Q (.bl (namB v)) S) := by
  rw [g_is_name]
  exact propext ⟨fun ⟨_, e, h⟩ => (by cases e; exact h), fun h => ⟨_, rfl, h⟩⟩
theorem u_is_book {v : D} {S : Sto} {Q : Post} {E : XPost} : gk.sp i_is_book [v] S Q E = (Lt 60 v ∧ Q (.bl (bokB v)) S) := by
  rw [g_is_book]
  exact propext ⟨fun ⟨_, e, h⟩ => (by cases e; exact h), fun h => ⟨_, rfl, h⟩⟩
theorem u_is_list {v : D} {S : Sto} {Q : Post} {E : XPost} : gk.sp i_is_list [v] S Q E = (Lt 60 v ∧ Q (.bl (lisB v)) S) := by
  rw [g_is_list]
  exact propext ⟨fun ⟨_, e, h⟩ => (by cases e; exact h), fun h => ⟨_, rfl, h⟩⟩
theorem u_need_book {v : D} {S : Sto} {Q : Post} {E : XPost} : gk.sp i_need_book [v] S Q E = (Lt 60 v ∧ (bokB v = true → Q v S) ∧ (bokB v = false → E ⟨e_InvalidBook, ["value"], [v]⟩ S)) := by
  rw [g_need_book]
  exact propext ⟨fun ⟨_, e, h⟩ => (by cases e; exact h), fun h => ⟨_, rfl, h⟩⟩
theorem u_shape_of {v : D} {S : Sto} {Q : Post} {E : XPost} : gk.sp i_shape_of [v] S Q E = (Lt 60 v ∧ (∀ b : Bk, bokB b.d = true → v = b.d → Q (shpD b) S) ∧ (bokB v = false → E ⟨e_InvalidBook, ["value"], [v]⟩ S)) := by
  rw [g_shape_of]
  exact propext ⟨fun ⟨_, e, h⟩ => (by cases e; exact h), fun h => ⟨_, rfl, h⟩⟩
theorem u__law_flow {ns : List Int} {S : Sto} {Q : Post} {E : XPost} : gk.sp i__law_flow [.scr (ns.map .int)] S Q E = ∀ (p : Addr) (σ : Gst), S p = none → Q (.ref p) (supd S p σ.st) := by
  rw [g__law_flow]
  apply propext
  constructor
  · rintro ⟨ns', e, h⟩; exact h
  · intro h; exact ⟨ns, rfl, h⟩
theorem u__law_load {a : Addr} {S : Sto} {Q : Post} {E : XPost} : gk.sp i__law_load [.ref a] S Q E = drF Good a (fun _ : Unit => True) (fun _ => D.non) S Q := by
  rw [g__law_load]
  exact propext ⟨fun ⟨_, e, h⟩ => (by cases e; exact h), fun h => ⟨_, rfl, h⟩⟩
theorem u__law_draw {a : Addr} {m : Int} {S : Sto} {Q : Post} {E : XPost} : gk.sp i__law_draw [.ref a, .int m] S Q E = (1 ≤ m ∧ m < 10 ^ 39 ∧ drF Good a (fun r : Int => 0 ≤ r ∧ r < m) D.int S Q) := by
  rw [g__law_draw]
  exact propext ⟨fun ⟨_, _, e, h⟩ => (by cases e; exact h), fun h => ⟨_, _, rfl, h⟩⟩
theorem u__law_pick {a : Addr} {l : List D} {S : Sto} {Q : Post} {E : XPost} : gk.sp i__law_pick [.ref a, .lst l] S Q E = (1 ≤ l.length ∧ l.length ≤ 1000000 ∧ drF Good a (fun x : D => x ∈ l) id S Q) := by
  rw [g__law_pick]
  apply propext
  constructor
  · rintro ⟨a', x, l', e, h0, h⟩
    simp only [List.cons.injEq, D.ref.injEq, and_true] at e
    obtain ⟨rfl, rfl⟩ := e
    rcases h0 with h0 | ⟨p, h0, _⟩
    · cases h0; exact h
    · cases h0
  · intro h
    exact ⟨_, _, _, rfl, .inl rfl, h⟩
theorem t__law_pick {a p : Addr} {l : List D} {S : Sto} {Q : Post} {E : XPost} (hp : p ≠ a) : gk.sp i__law_pick [.ref a, .ref p] (supd S p (.lst l)) Q E = (1 ≤ l.length ∧ l.length ≤ 1000000 ∧ drF Good a (fun x : D => x ∈ l) id (supd S p (.lst l)) Q) := by
  rw [g__law_pick]
  apply propext
  constructor
  · rintro ⟨a', x, l', e, h0, h⟩
    simp only [List.cons.injEq, D.ref.injEq, and_true] at e
    obtain ⟨rfl, rfl⟩ := e
    rcases h0 with h0 | ⟨p, h0, _, hs⟩
    · cases h0
    · cases h0
      rw [supd_same] at hs
      cases hs; exact h
  · intro h
    exact ⟨_, _, _, rfl, .inr ⟨_, rfl, hp, supd_same⟩, h⟩
theorem supd_id {S : Sto} {p : Addr} {o : Ob} (h : S p = some o) : supd S p o = S := by
  funext b
  unfold supd
  split
  · rename_i e; rw [e, h]
  · rfl
theorem u__law_same {x : D} {S : Sto} {Q : Post} {E : XPost} (h : Lt 11 x) : gk.sp i__law_same [x, x] S Q E = Q (.bl true) S := by
  rw [g__law_same]
  exact propext ⟨fun ⟨y, e, _, _, q⟩ => q, fun q => ⟨x, rfl, h, by decide, q⟩⟩
theorem u__law_small {a : Addr} {m : Int} {S : Sto} {Q : Post} {E : XPost} (h : 0 ≤ m ∧ m ≤ 1000) : gk.sp i__law_small [.ref a, .int m] S Q E = drF Good a (fun w : List Nat => w.length = m.toNat ∧ allIn w SMLS = true) D.str S Q := by
  obtain ⟨k, rfl⟩ : ∃ k : Nat, m = k := ⟨m.toNat, by omega⟩
  rw [g__law_small]
  apply propext
  constructor
  · rintro ⟨a', m', e, _, h⟩
    simp only [List.cons.injEq, D.ref.injEq, D.int.injEq, Int.ofNat_inj, Int.natCast_inj, and_true] at e
    obtain ⟨rfl, rfl⟩ := e
    exact h
  · intro q
    exact ⟨_, _, rfl, by omega, q⟩
theorem ones_flat (t : List Nat) : ∀ {ys : List (List Nat)}, (∀ y ∈ ys, ∃ c, y = [c] ∧ c ∈ t) → ys.flatten.length = ys.length ∧ allIn ys.flatten t = true
  | [], _ => ⟨rfl, rfl⟩
  | y :: ys, h => by
    obtain ⟨c, rfl, h1⟩ := h y (List.mem_cons_self ..)
    obtain ⟨h3, h4⟩ := ones_flat t (ys := ys) fun z hz => h z (List.mem_cons_of_mem _ hz)
    refine ⟨by simp [h3] <;> omega, ?_⟩
    simp only [List.flatten_cons, List.singleton_append, allIn_cons, h4, Bool.and_true, decide_eq_true h1]
theorem u__law_capital {a : Addr} {S : Sto} {Q : Post} {E : XPost} : gk.sp i__law_capital [.ref a] S Q E = drF Good a (fun c : Nat => c ∈ CAPS) (fun c => D.str [c]) S Q := by
  rw [g__law_capital]
  exact propext ⟨fun ⟨_, e, h⟩ => (by cases e; exact h), fun h => ⟨_, rfl, h⟩⟩
theorem u__law_family {a : Addr} {S : Sto} {Q : Post} {E : XPost} : gk.sp i__law_family [.ref a] S Q E = drF Good a FamS D.str S Q := by
  rw [g__law_family]
  exact propext ⟨fun ⟨_, e, h⟩ => (by cases e; exact h), fun h => ⟨_, rfl, h⟩⟩
theorem u__law_name {a : Addr} {S : Sto} {Q : Post} {E : XPost} : gk.sp i__law_name [.ref a] S Q E = drF Good a NmS Nm.d S Q := by
  rw [g__law_name]
  exact propext ⟨fun ⟨_, e, h⟩ => (by cases e; exact h), fun h => ⟨_, rfl, h⟩⟩
theorem u__law_book {a : Addr} {S : Sto} {Q : Post} {E : XPost} : gk.sp i__law_book [.ref a] S Q E = drF Good a BkS Bk.d S Q := by
  rw [g__law_book]
  exact propext ⟨fun ⟨_, e, h⟩ => (by cases e; exact h), fun h => ⟨_, rfl, h⟩⟩
theorem bk_mk {b : Bk} (n1 : 1 ≤ b.ns.length) (n3 : b.ns.length ≤ 3) (nm : ∀ x ∈ b.ns, famL x.f = true ∧ givL x.g = true ∧ x.f.length ≤ 8 ∧ x.g.length ≤ 8) (y : 1000 ≤ b.y ∧ b.y ≤ 2999) (t : titL b.t = true) (tl : b.t.length ≤ 1000) (p : ∀ s, b.p = some s → famL s = true ∧ s.length ≤ 1000) (v : ∀ i, b.v = some i → 1 ≤ i ∧ i ≤ 999) : BkS b :=
  ⟨Bk.mk_ok n1 n3 (fun x hx => let h := nm x hx; ⟨h.1, h.2.1, by omega, by omega⟩) y t (by omega) (fun s e => ⟨(p s e).1, by have := (p s e).2; omega⟩) v, fun x hx => (nm x hx).2.2, tl, fun s e => (p s e).2⟩
theorem u__law_bad_words {w : List Nat} {S : Sto} {Q : Post} {E : XPost} : gk.sp i__law_bad_words [.str w] S Q E = (famL w = true ∧ w.length ≤ 1000 ∧ ∀ l : List D, l.length = 18 → (∀ d ∈ l, badW d) → Q (.lst l) S) := by
  rw [g__law_bad_words]
  apply propext
  constructor
  · rintro ⟨x0, e, h⟩
    simp only [List.cons.injEq, and_true, D.int.injEq, D.str.injEq, D.tup.injEq, D.ref.injEq, Int.ofNat_inj, Int.natCast_inj] at e
    obtain rfl := e
    exact h
  · intro h
    exact ⟨_, rfl, h⟩
theorem fam_app {w s : List Nat} (h : famL w = true) (k : allIn s SMLS = false) : famL (w ++ s) = false := by
  cases w with
  | nil => cases h
  | cons c r => simp only [List.cons_append, famL, allIn_app, k, Bool.and_false]
theorem fam_head {c : Nat} {r : List Nat} (h : c ∉ CAPS) : famL (c :: r) = false := by simp only [famL, decide_eq_false h, Bool.false_and]
theorem fam_low {w s : List Nat} (h : famL w = true) : famL (w.map lowC ++ s) = false := by
  cases w with
  | nil => cases h
  | cons c r =>
    simp only [famL, Bool.and_eq_true, decide_eq_true_eq] at h
    exact fam_head ((by decide : ∀ c ∈ CAPS, lowC c ∉ CAPS) c h.1)
theorem fam_asc {w : List Nat} (h : famL w = true) : (w.all fun c => decide (c < 128)) = true := by
  cases w with
  | nil => cases h
  | cons c r =>
    simp only [famL, Bool.and_eq_true, decide_eq_true_eq] at h
    refine List.all_eq_true.mpr fun x hx => decide_eq_true ?_
    rcases List.mem_cons.mp hx with rfl | hx
    · exact (by decide : ∀ c ∈ CAPS, c < 128) x h.1
    · exact (by decide : ∀ c ∈ SMLS, c < 128) x (allIn_mem h.2 x hx)
theorem giv_asc {w : List Nat} (h : givL w = true) : (w.all fun c => decide (c < 128)) = true := by
  simp only [givL, Bool.and_eq_true] at h
  exact List.all_eq_true.mpr fun x hx => decide_eq_true ((by decide : ∀ c ∈ CAPS, c < 128) x (allIn_mem h.2 x hx))
theorem u__law_bad_names {a : Addr} {ns : List Nm} {S : Sto} {Q : Post} {E : XPost} : gk.sp i__law_bad_names [.ref a, .tup (ns.map Nm.d)] S Q E = (1 ≤ ns.length ∧ ns.length ≤ 3 ∧ (∀ n ∈ ns, famL n.f = true ∧ givL n.g = true ∧ n.f.length ≤ 1000 ∧ n.g.length ≤ 1000) ∧ drF Good a (fun l : List D => 1 ≤ l.length ∧ l.length ≤ 100 ∧ ∀ d ∈ l, badN d) D.lst S Q) := by
  rw [g__law_bad_names]
  apply propext
  constructor
  · rintro ⟨a', ns', e, h⟩
    simp only [List.cons.injEq, D.ref.injEq, D.tup.injEq, and_true] at e
    obtain ⟨rfl, e⟩ := e
    have := knd_nm.map e
    subst this
    exact h
  · intro h
    exact ⟨_, _, rfl, h⟩
theorem u__law_bad_titles {w : List Nat} {S : Sto} {Q : Post} {E : XPost} : gk.sp i__law_bad_titles [.str w] S Q E = (titL w = true ∧ w.length ≤ 1000 ∧ ∀ l : List D, l.length = 20 → (∀ d ∈ l, badT d) → Q (.lst l) S) := by
  rw [g__law_bad_titles]
  apply propext
  constructor
  · rintro ⟨x0, e, h⟩
    simp only [List.cons.injEq, and_true, D.int.injEq, D.str.injEq, D.tup.injEq, D.ref.injEq, Int.ofNat_inj, Int.natCast_inj] at e
    obtain rfl := e
    exact h
  · intro h
    exact ⟨_, rfl, h⟩
theorem u__law_spoilt {a : Addr} {b : Bk} {S : Sto} {Q : Post} {E : XPost} : gk.sp i__law_spoilt [.ref a, b.d] S Q E = (BkS b ∧ drF Good a (fun l : List D => 1 ≤ l.length ∧ l.length ≤ 1000 ∧ ∀ d ∈ l, badB d) D.lst S Q) := by
  rw [g__law_spoilt]
  apply propext
  constructor
  · rintro ⟨a', b', e, h⟩
    simp only [List.cons.injEq, D.ref.injEq, and_true, Bk.d_eq] at e
    obtain ⟨rfl, rfl⟩ := e
    exact h
  · intro h
    exact ⟨_, _, rfl, h⟩
theorem u__law_near {a : Addr} {b : Bk} {S : Sto} {Q : Post} {E : XPost} : gk.sp i__law_near [.ref a, b.d] S Q E = (BkS b ∧ drF Good a BkS Bk.d S Q) := by
  rw [g__law_near]
  apply propext
  constructor
  · rintro ⟨a', b', e, h⟩
    simp only [List.cons.injEq, D.ref.injEq, and_true, Bk.d_eq] at e
    obtain ⟨rfl, rfl⟩ := e
    exact h
  · intro h
    exact ⟨_, _, rfl, h⟩
theorem u__law_long {a : Addr} {b : Bk} {S : Sto} {Q : Post} {E : XPost} : gk.sp i__law_long [.ref a, b.d] S Q E = (BkS b ∧ drF Good a (fun d : D => bokB d = true ∧ Lt 11 d) id S Q) := by
  rw [g__law_long]
  apply propext
  constructor
  · rintro ⟨a', b', e, h⟩
    simp only [List.cons.injEq, D.ref.injEq, and_true, Bk.d_eq] at e
    obtain ⟨rfl, rfl⟩ := e
    exact h
  · intro h
    exact ⟨_, _, rfl, h⟩
theorem u__law_refused {v : D} {S : Sto} {Q : Post} {E : XPost} : gk.sp i__law_refused [v] S Q E = (badB v ∧ Q (.bl true) S) := by
  rw [g__law_refused]
  exact propext ⟨fun ⟨_, e, h⟩ => (by cases e; exact h), fun h => ⟨_, rfl, h⟩⟩
theorem u__law_books_right {a p : Addr} {bs : List Bk} {S : Sto} {Q : Post} {E : XPost} : gk.sp i__law_books_right [.ref a, .ref p] (supd S p (.lst (bs.map Bk.d))) Q E = (p ≠ a ∧ 1 ≤ bs.length ∧ bs.length ≤ 1000 ∧ (∀ b ∈ bs, BkS b) ∧ drF Good a (fun _ : Unit => True) (fun _ => .bl true) (supd S p (.lst (bs.map Bk.d))) Q) := by
  rw [g__law_books_right]
  apply propext
  constructor
  · rintro ⟨a', p', b', e, h0, hs, h⟩
    simp only [List.cons.injEq, D.ref.injEq, and_true] at e
    obtain ⟨rfl, rfl⟩ := e
    rw [supd_same] at hs
    have := knd_bk.map (Ob.lst.inj (Option.some.inj hs))
    subst this
    exact ⟨h0, h⟩
  · intro h
    exact ⟨_, _, _, rfl, h.1, supd_same, h.2⟩
theorem u__law_lists_right {a : Addr} {bs : List Bk} {S : Sto} {Q : Post} {E : XPost} : gk.sp i__law_lists_right [.ref a, .lst (bs.map Bk.d)] S Q E = (1 ≤ bs.length ∧ bs.length ≤ 1000 ∧ (∀ b ∈ bs, BkS b) ∧ bs.Nodup ∧ drF Good a (fun _ : Unit => True) (fun _ => .bl true) S Q) := by
  rw [g__law_lists_right]
  apply propext
  constructor
  · rintro ⟨a', b', e, h⟩
    simp only [List.cons.injEq, D.ref.injEq, and_true, D.lst.injEq] at e
    obtain ⟨rfl, e⟩ := e
    have := knd_bk.map e
    subst this
    exact h
  · intro h
    exact ⟨_, _, rfl, h⟩
end K02
local macro_rules | `(tactic| simp? only [$ls,*]) => `(tactic| simp only [↓MP.we_non, ↓MP.we_bl, ↓MP.we_int, ↓MP.we_str, ↓MP.we_var0, ↓MP.we_var1, ↓MP.we_var2, ↓MP.we_var3, ↓MP.we_var4, ↓MP.we_var5, ↓MP.we_var6, ↓MP.we_var7, ↓MP.we_var8, ↓MP.we_var9, ↓MP.we_var10, ↓MP.we_var11, ↓MP.we_var12, ↓MP.we_var13, ↓MP.we_var14, ↓MP.we_var15, ↓MP.we_var16, ↓MP.we_var17, ↓MP.we_var18, ↓MP.we_var19, ↓MP.we_var20, ↓MP.we_var21, ↓MP.we_var22, ↓MP.we_var23, ↓MP.we_bin, ↓MP.we_neg, ↓MP.we_not, ↓MP.we_cmp, ↓MP.we_isN, ↓MP.we_nsN, ↓MP.we_isB, ↓MP.we_nsB, ↓MP.we_chain, ↓MP.we_and, ↓MP.we_or, ↓MP.we_ite, ↓MP.we_tup, ↓MP.we_lst, ↓MP.we_call, ↓MP.we_callk, ↓MP.we_blt, ↓MP.we_isty, ↓MP.we_meth, ↓MP.we_idx, ↓MP.we_slc, ↓MP.we_rev, ↓MP.we_lc, ↓MP.we_lcf, ↓MP.we_exf0, ↓MP.we_exis0, ↓MP.we_exf1, ↓MP.we_exis1, ↓MP.we_exf2, ↓MP.we_exis2, ↓MP.we_exf3, ↓MP.we_exis3, ↓MP.we_exf4, ↓MP.we_exis4, ↓MP.we_exf5, ↓MP.we_exis5, ↓MP.we_exf6, ↓MP.we_exis6, ↓MP.we_exf7, ↓MP.we_exis7, ↓MP.we_exf8, ↓MP.we_exis8, ↓MP.we_exf9, ↓MP.we_exis9, ↓MP.we_exf10, ↓MP.we_exis10, ↓MP.we_exf11, ↓MP.we_exis11, ↓MP.we_exf12, ↓MP.we_exis12, ↓MP.we_exf13, ↓MP.we_exis13, ↓MP.ex_look1, ↓MP.ws_nil, ↓MP.ws_cons, ↓MP.wa_1, ↓MP.wa_2, ↓MP.wo_1, ↓MP.wo_2, ↓MP.wi_ex, ↓MP.wi_r1, ↓MP.wi_r2, ↓MP.wi_en, ↓MP.wi_zip, ↓MP.it_str, ↓MP.it_tup, ↓MP.it_lst, ↓MP.it_scr, ↓MP.it_ref, ↓MP.ex_bl, ↓MP.ex_int, ↓MP.ex_int2, ↓MP.ex_str, ↓MP.ex_ref, ↓MP.ist_int_non, ↓MP.ist_str_non, ↓MP.ist_bool_non, ↓MP.ist_tuple_non, ↓MP.ist_list_non, ↓MP.ist_int_bl, ↓MP.ist_str_bl, ↓MP.ist_bool_bl, ↓MP.ist_tuple_bl, ↓MP.ist_list_bl, ↓MP.ist_int_int, ↓MP.ist_str_int, ↓MP.ist_bool_int, ↓MP.ist_tuple_int, ↓MP.ist_list_int, ↓MP.ist_int_str, ↓MP.ist_str_str, ↓MP.ist_bool_str, ↓MP.ist_tuple_str, ↓MP.ist_list_str, ↓MP.ist_int_tup, ↓MP.ist_str_tup, ↓MP.ist_bool_tup, ↓MP.ist_tuple_tup, ↓MP.ist_list_tup, ↓MP.ist_int_lst, ↓MP.ist_str_lst, ↓MP.ist_bool_lst, ↓MP.ist_tuple_lst, ↓MP.ist_list_lst, ↓MP.ist_int_scr, ↓MP.ist_str_scr, ↓MP.ist_bool_scr, ↓MP.ist_tuple_scr, ↓MP.ist_list_scr, ↓MP.ist_int_ref, ↓MP.ist_str_ref, ↓MP.ist_bool_ref, ↓MP.ist_tuple_ref, ↓MP.ist_list_ref, ↓MP.ist_plain, ↓MP.st_nm0, ↓MP.st_ts0, ↓MP.st_ro0, ↓MP.st_no0, ↓MP.st_nm1, ↓MP.st_ts1, ↓MP.st_ro1, ↓MP.st_no1, ↓MP.st_nm2, ↓MP.st_ts2, ↓MP.st_ro2, ↓MP.st_no2, ↓MP.st_nm3, ↓MP.st_ts3, ↓MP.st_ro3, ↓MP.st_no3, ↓MP.st_nm4, ↓MP.st_ts4, ↓MP.st_ro4, ↓MP.st_no4, ↓MP.st_nm5, ↓MP.st_ts5, ↓MP.st_ro5, ↓MP.st_no5, ↓MP.st_nm6, ↓MP.st_ts6, ↓MP.st_ro6, ↓MP.st_no6, ↓MP.st_nm7, ↓MP.st_ts7, ↓MP.st_ro7, ↓MP.st_no7, ↓MP.st_nm8, ↓MP.st_ts8, ↓MP.st_ro8, ↓MP.st_no8, ↓MP.st_nm9, ↓MP.st_ts9, ↓MP.st_ro9, ↓MP.st_no9, ↓MP.st_nm10, ↓MP.st_ts10, ↓MP.st_ro10, ↓MP.st_no10, ↓MP.st_nm11, ↓MP.st_ts11, ↓MP.st_ro11, ↓MP.st_no11, ↓MP.st_nm12, ↓MP.st_ts12, ↓MP.st_ro12, ↓MP.st_no12, ↓MP.st_nm13, ↓MP.st_ts13, ↓MP.st_ro13, ↓MP.st_no13, ↓MP.st_nm14, ↓MP.st_ts14, ↓MP.st_ro14, ↓MP.st_no14, ↓MP.st_nm15, ↓MP.st_ts15, ↓MP.st_ro15, ↓MP.st_no15, ↓MP.st_nm16, ↓MP.st_ts16, ↓MP.st_ro16, ↓MP.st_no16, ↓MP.st_nm17, ↓MP.st_ts17, ↓MP.st_ro17, ↓MP.st_no17, ↓MP.st_nm18, ↓MP.st_ts18, ↓MP.st_ro18, ↓MP.st_no18, ↓MP.st_nm19, ↓MP.st_ts19, ↓MP.st_ro19, ↓MP.st_no19, ↓MP.st_nm20, ↓MP.st_ts20, ↓MP.st_ro20, ↓MP.st_no20, ↓MP.st_nm21, ↓MP.st_ts21, ↓MP.st_ro21, ↓MP.st_no21, ↓MP.st_nm22, ↓MP.st_ts22, ↓MP.st_ro22, ↓MP.st_no22, ↓MP.st_nm23, ↓MP.st_ts23, ↓MP.st_ro23, ↓MP.st_no23, ↓MP.st_tp, ↓MP.st_nil, ↓MP.bi_add_ii, ↓MP.bi_add_ss, ↓MP.bi_add_tt, ↓MP.bi_add_ll, ↓MP.bi_add_rl, ↓MP.bi_sub, ↓MP.bi_mul_ii, ↓MP.bi_mul_ti, ↓MP.bi_mul_li, ↓MP.bi_fdiv, ↓MP.bi_mod, ↓MP.bi_pow, ↓MP.eq_ii, ↓MP.ne_ii, ↓MP.eq_ss, ↓MP.ne_ss, ↓MP.eq_bb, ↓MP.ne_bb, ↓MP.lt_ii, ↓MP.le_ii, ↓MP.gt_ii, ↓MP.ge_ii, ↓MP.lt_ss, ↓MP.le_ss, ↓MP.in_ss, ↓MP.ni_ss, ↓MP.r_len_str, ↓MP.r_len_tup, ↓MP.r_len_lst, ↓MP.r_len_scr, ↓MP.r_len_ref, ↓MP.r_int_i, ↓MP.r_int_b, ↓MP.r_abs, ↓MP.r_max, ↓MP.r_min, ↓MP.r_all, ↓MP.r_any, ↓MP.r_tup_lst, ↓MP.r_tup_tup, ↓MP.r_tup_ref, ↓MP.r_lst_lst, ↓MP.r_lst_tup, ↓MP.r_lst_scr, ↓MP.r_sum, ↓MP.newL_f, ↓MP.newL_t, ↓MP.pick_l, ↓MP.pick_t, ↓MP.pick_s, ↓MP.cmp_eq, ↓MP.cmp_ne, ↓MP.in_t, ↓MP.ni_t, ↓MP.in_l, ↓MP.ni_l, ↓MP.in_r, ↓MP.ni_r, ↓MP.ixt_0, ↓MP.ixl_0, ↓MP.ixc_0, ↓MP.ixr_0, ↓MP.ixs_0, ↓MP.se_0, ↓MP.ixt_1, ↓MP.ixl_1, ↓MP.ixc_1, ↓MP.ixr_1, ↓MP.ixs_1, ↓MP.se_1, ↓MP.ixt_2, ↓MP.ixl_2, ↓MP.ixc_2, ↓MP.ixr_2, ↓MP.ixs_2, ↓MP.se_2, ↓MP.ixt_3, ↓MP.ixl_3, ↓MP.ixc_3, ↓MP.ixr_3, ↓MP.ixs_3, ↓MP.se_3, ↓MP.ixt_4, ↓MP.ixl_4, ↓MP.ixc_4, ↓MP.ixr_4, ↓MP.ixs_4, ↓MP.se_4, ↓MP.ixt_5, ↓MP.ixl_5, ↓MP.ixc_5, ↓MP.ixr_5, ↓MP.ixs_5, ↓MP.se_5, ↓MP.ixt_6, ↓MP.ixl_6, ↓MP.ixc_6, ↓MP.ixr_6, ↓MP.ixs_6, ↓MP.se_6, ↓MP.ixt_7, ↓MP.ixl_7, ↓MP.ixc_7, ↓MP.ixr_7, ↓MP.ixs_7, ↓MP.se_7, ↓MP.ixt_8, ↓MP.ixl_8, ↓MP.ixc_8, ↓MP.ixr_8, ↓MP.ixs_8, ↓MP.se_8, ↓MP.ixt_9, ↓MP.ixl_9, ↓MP.ixc_9, ↓MP.ixr_9, ↓MP.ixs_9, ↓MP.se_9, ↓MP.ixt_10, ↓MP.ixl_10, ↓MP.ixc_10, ↓MP.ixr_10, ↓MP.ixs_10, ↓MP.se_10, ↓MP.ixt_11, ↓MP.ixl_11, ↓MP.ixc_11, ↓MP.ixr_11, ↓MP.ixs_11, ↓MP.se_11, ↓MP.ixd, ↓MP.sed, ↓MP.we_nd, ↓MP.we_lc2, ↓MP.we_sft0, ↓MP.we_frz0, ↓MP.we_tix0, ↓MP.we_sft1, ↓MP.we_frz1, ↓MP.we_tix1, ↓MP.we_sft2, ↓MP.we_frz2, ↓MP.we_tix2, ↓MP.we_sft3, ↓MP.we_frz3, ↓MP.we_tix3, ↓MP.we_sft4, ↓MP.we_frz4, ↓MP.we_sft5, ↓MP.we_frz5, ↓MP.we_sft6, ↓MP.we_frz6, ↓MP.we_sft7, ↓MP.we_frz7, ↓MP.we_sft8, ↓MP.we_frz8, ↓MP.we_sft9, ↓MP.we_frz9, ↓MP.we_sft10, ↓MP.we_frz10, ↓MP.we_sft11, ↓MP.we_frz11, ↓MP.we_sft12, ↓MP.we_frz12, ↓MP.we_sft13, ↓MP.we_frz13, ↓MP.we_sft14, ↓MP.we_frz14, ↓MP.we_sft15, ↓MP.we_frz15, ↓MP.we_sft16, ↓MP.we_frz16, ↓MP.we_sft17, ↓MP.we_frz17, ↓MP.we_sft18, ↓MP.we_frz18, ↓MP.we_sft19, ↓MP.we_frz19, ↓MP.we_sft20, ↓MP.we_frz20, ↓MP.we_sft21, ↓MP.we_frz21, ↓MP.we_sft22, ↓MP.we_frz22, ↓MP.we_sft23, ↓MP.we_frz23, ↓MP.sf_tpx, ↓MP.sf_pl, ↓MP.we_lrg1, ↓MP.we_lrg2, ↓MP.r_lss, ↓MP.we_tpn, ↓MP.tn_lst, ↓MP.tn_ref, ↓MP.we_dsp, ↓MP.op_non, ↓MP.op_int, ↓MP.op_var, ↓MP.op_bin, ↓MP.op_call, ↓MP.op_blt, ↓MP.op_neg, ↓MP.sl_str, ↓MP.sl_tup, ↓MP.rr_tup, ↓MP.rr_lst, ↓MP.rr_ref, ↓MP.sl_lst, ↓MP.sl_ref, ↓MP.mk_join, ↓MP.mk_split, ↓MP.mk_lower, ↓MP.mk_upper, ↓MP.mk_strip, ↓MP.mk_tix, ↓MP.mk_append, ↓MP.mk_extend, ↓MP.mk_insert, ↓MP.mk_pop, ↓MP.mk_popAt, ↓MP.mk_index, ↓MP.mk_reverse, ↓MP.mk_clear, ↓MP.mk_lix, ↓MP.m_join_l, ↓MP.m_join_t, ↓MP.m_join_r, ↓MP.m_join_f, ↓MP.md_split, ↓MP.md_lower, ↓MP.md_upper, ↓MP.md_append, ↓MP.md_reverse, ↓MP.md_extend_t, ↓MP.md_extend, ↓MP.md_count, ↓MP.mk_count, ↓MP.ss_expr, ↓MP.ss_asg, ↓MP.ss_asgI, ↓MP.ss_ifs, ↓MP.ss_for, ↓MP.ss_rett, ↓MP.ss_ret, ↓MP.ss_retN, ↓MP.ss_brk, ↓MP.ss_cont, ↓MP.ss_pass, ↓MP.ss_raise, ↓MP.ss_tr, ↓MP.ss_aug0, ↓MP.ss_aug1, ↓MP.ss_aug2, ↓MP.ss_aug3, ↓MP.ss_aug4, ↓MP.ss_aug5, ↓MP.ss_aug6, ↓MP.ss_aug7, ↓MP.ss_aug8, ↓MP.ss_aug9, ↓MP.ss_aug10, ↓MP.ss_aug11, ↓MP.ss_aug12, ↓MP.ss_aug13, ↓MP.ss_aug14, ↓MP.ss_aug15, ↓MP.ss_aug16, ↓MP.ss_aug17, ↓MP.ss_aug18, ↓MP.ss_aug19, ↓MP.ss_aug20, ↓MP.ss_aug21, ↓MP.ss_aug22, ↓MP.ss_aug23, ↓MP.au_add_i, ↓MP.au_sub_i, ↓MP.au_add_s, ↓MP.wb_nil, ↓MP.wb_one, ↓MP.hs_nil, ↓MP.hs_cn, ↓MP.hs_cs, ↓MP.ce_rt, ↓MP.ce_nx, ↓MP.ce_ex, ↓MP.an_B, reduceCtorEq, MP.nn_non, MP.nn_bl, MP.nn_int, MP.nn_str, MP.nn_tup, MP.nn_lst, MP.nn_scr, MP.nn_ref, MP.wipeD, List.length_cons, List.length_nil, List.map_cons, List.map_nil, List.cons_append, List.nil_append, List.append_nil, Bool.false_eq_true, if_false, if_true, ↓reduceIte, Bool.not_true, Bool.not_false, and_true, true_and, not_true_eq_false, not_false_eq_true, Int.reduceLE, Int.reduceLT, Int.reduceAdd, Int.reduceSub, Int.reduceMul, Int.reduceNeg, Int.reduceToNat, Int.reduceEq, Int.reduceNe, Nat.reduceLeDiff, Nat.reduceEqDiff, Nat.reduceMul, Nat.reduceAdd, Nat.reduceSub, Nat.reduceLT, Nat.reduceBEq, Int.reducePow, Nat.reducePow, Int.cast_ofNat_Int, PySem.sizeLine_eq, MP.LIM_eq, decide_eq_true_eq, Bool.not_eq_true', decide_eq_false_iff_not, Bool.and_eq_true, Bool.or_eq_true, exists_and_left, MP.supd_at, MP.supd_supd, MP.supd_none, MP.pl_non, MP.pl_bl, MP.pl_int, MP.pl_str, MP.pl_tup, MP.pl_lst, MP.plL_nil, MP.plL_cons, MP.dp_non, MP.dp_bl, MP.dp_int, MP.dp_str, MP.dp_tup, MP.dp_lst, MP.dpL_nil, MP.dpL_cons, Nat.zero_le, true_or, or_true, Nat.max_self, Nat.max_zero, Nat.zero_max, Nat.zero_add, MP.eqb_ii, MP.eqb_ss, Bool.true_and, Bool.and_true, Bool.false_and, Bool.and_false, Bool.or_false, Bool.false_or, Bool.or_true, Bool.true_or, beq_self_eq_true, implies_true, List.cons.injEq, Nat.add_zero, false_and, and_false, MP.tyb_int_non, MP.tyb_int_bl, MP.tyb_int_int, MP.tyb_int_str, MP.tyb_int_tup, MP.tyb_int_lst, MP.tyb_int_scr, MP.tyb_bool_non, MP.tyb_bool_bl, MP.tyb_bool_int, MP.tyb_bool_str, MP.tyb_bool_tup, MP.tyb_bool_lst, MP.tyb_bool_scr, MP.tyb_str_non, MP.tyb_str_bl, MP.tyb_str_int, MP.tyb_str_str, MP.tyb_str_tup, MP.tyb_str_lst, MP.tyb_str_scr, MP.tyb_tuple_non, MP.tyb_tuple_bl, MP.tyb_tuple_int, MP.tyb_tuple_str, MP.tyb_tuple_tup, MP.tyb_tuple_lst, MP.tyb_tuple_scr, MP.tyb_list_non, MP.tyb_list_bl, MP.tyb_list_int, MP.tyb_list_str, MP.tyb_list_tup, MP.tyb_list_lst, MP.tyb_list_scr, ↓K02.wg_CAPITALS, ↓K02.wgp_CAPITALS, ↓K02.wg_SMALLS, ↓K02.wgp_SMALLS, ↓K02.wg_MOST_NAMES, ↓K02.wgp_MOST_NAMES, ↓K02.wg_FIRST_YEAR, ↓K02.wgp_FIRST_YEAR, ↓K02.wg_LAST_YEAR, ↓K02.wgp_LAST_YEAR, ↓K02.wg_LAST_VOLUME, ↓K02.wgp_LAST_VOLUME, ↓K02.wg_SHAPES, ↓K02.wgp_SHAPES, ↓K02.ga_0_0, ↓K02.ga_0_1, ↓K02.ga_0_2, ↓K02.ga_1_0, ↓K02.ga_1_1, ↓K02.ga_1_2, ↓K02.ga_2_0, ↓K02.ga_2_1, ↓K02.ga_2_2, ↓K02.u_is_integer, ↓K02.u_are_all_of, ↓K02.u_is_family, ↓K02.u_is_given, ↓K02.u_is_title, ↓K02.u_is_name, ↓K02.u_is_book, ↓K02.u_is_list, ↓K02.u_need_book, ↓K02.u_shape_of, ↓K02.u__law_flow, ↓K02.u__law_load, ↓K02.u__law_draw, ↓K02.u__law_pick, ↓K02.u__law_same, ↓K02.u__law_small, ↓K02.u__law_capital, ↓K02.u__law_family, ↓K02.u__law_name, ↓K02.u__law_book, ↓K02.u__law_bad_words, ↓K02.u__law_bad_names, ↓K02.u__law_bad_titles, ↓K02.u__law_spoilt, ↓K02.u__law_near, ↓K02.u__law_long, ↓K02.u__law_refused, ↓K02.u__law_books_right, ↓K02.u__law_lists_right, ↓MP.drF_at, $ls,*])
-- v2 k02
set_option Elab.async false
set_option linter.all false
set_option maxRecDepth 100000
set_option maxHeartbeats 8000000
namespace K02
open PySem PySem.Spec PyProof.Rows L2 MP
theorem d_is_integer : Does gk T_is_integer s_is_integer n_is_integer P_is_integer m_is_integer (gk.sp i_is_integer) := by
  refine ⟨sc_is_integer, c_is_integer, (by rintro ds S Q E ⟨v, rfl, hv, q⟩; rfl), ?_⟩
  rintro ds S Q E ⟨v, rfl, hv, q⟩
  simp only [n_is_integer, rho0, List.map_cons, List.map_nil, List.length_cons, List.length_nil, Nat.reduceAdd, Nat.reduceSub, Nat.zero_add, List.replicate, List.cons_append, List.nil_append, List.append_nil]; rw [m_is_integer]; simp? only [↓wpB_cons, hv]
  cases v <;> simp only [tyB, if_true, if_false, Bool.false_eq_true, Bool.not_true, Bool.not_false, reduceCtorEq] <;> exact ⟨S, .refl S, q⟩

end K02
-- v2 k02
set_option Elab.async false
set_option linter.all false
set_option maxRecDepth 100000
set_option maxHeartbeats 8000000
namespace K02
open PySem PySem.Spec PyProof.Rows L2 MP
theorem d_are_all_of : Does gk T_are_all_of s_are_all_of n_are_all_of P_are_all_of m_are_all_of (gk.sp i_are_all_of) := by
  refine ⟨sc_are_all_of, c_are_all_of, (by rintro ds S Q E ⟨s, t, rfl, hl, q⟩; rfl), ?_⟩
  rintro ds S Q E ⟨s, t, rfl, hl, q⟩
  simp only [n_are_all_of, rho0, List.map_cons, List.map_nil, List.length_cons, List.length_nil, Nat.reduceAdd, Nat.reduceSub, Nat.zero_add, List.replicate, List.cons_append, List.nil_append, List.append_nil]; rw [m_are_all_of, wpB_cons]; simp? only []
  refine lc_map (fun c => .str [c]) (fun c => .bl (decide (c ∈ t))) s True.intro (by rw [sizeLine_eq]; omega) (fun c hc => ⟨_, rfl, fun K' h => ?_⟩) ?_
  · (try simp? only [])
    exact h
  · (try simp? only [])
    exact ⟨S, .refl S, q⟩

end K02
-- v2 k02
set_option Elab.async false
set_option linter.all false
set_option maxRecDepth 100000
set_option maxHeartbeats 8000000
namespace K02
open PySem PySem.Spec PyProof.Rows L2 MP
theorem d_is_family : Does gk T_is_family s_is_family n_is_family P_is_family m_is_family (gk.sp i_is_family) := by
  refine ⟨sc_is_family, c_is_family, (by rintro ds S Q E ⟨v, rfl, hv, q⟩; rfl), ?_⟩
  rintro ds S Q E ⟨v, rfl, hv, q⟩
  have q : ∃ S'', MP.Sub S'' S ∧ Q (.bl (famB v)) S'' := ⟨S, .refl S, q⟩
  simp only [n_is_family, rho0, List.map_cons, List.map_nil, List.length_cons, List.length_nil, Nat.reduceAdd, Nat.reduceSub, Nat.zero_add, List.replicate, List.cons_append, List.nil_append, List.append_nil]; rw [m_is_family, wpB_cons]; simp? only [hv.p]
  rcases str_of (v := v) with ⟨s, rfl⟩ | e
  · have hs : s.length ≤ 1000000 := smal_str hv.s s rfl
    cases s with
    | nil =>
      (try simp? only [])
      exact q
    | cons c r =>
      (try simp? only [])
      (try rw [wpB_cons]); (try simp? only [])
      have e : famB (.str (c :: r)) = (decide (c ∈ CAPS) && allIn r SMLS) := rfl
      rw [e] at q
      by_cases h : c ∈ CAPS
      · rw [decide_eq_true h, Bool.true_and] at q
        (try simp? only [h, cut1])
        exact ⟨by simp at hs; omega, q⟩
      · rw [decide_eq_false h, Bool.false_and] at q
        (try simp? only [h])
        exact q
  · have e2 : famB v = false := by cases v <;> first | rfl | (simp [tyB] at e)
    rw [e2] at q
    (try simp? only [e])
    exact q

end K02
-- v2 k02
set_option Elab.async false
set_option linter.all false
set_option maxRecDepth 100000
set_option maxHeartbeats 8000000
namespace K02
open PySem PySem.Spec PyProof.Rows L2 MP
theorem d_is_given : Does gk T_is_given s_is_given n_is_given P_is_given m_is_given (gk.sp i_is_given) := by
  refine ⟨sc_is_given, c_is_given, (by rintro ds S Q E ⟨v, rfl, hv, q⟩; rfl), ?_⟩
  rintro ds S Q E ⟨v, rfl, hv, q⟩
  have q : ∃ S'', MP.Sub S'' S ∧ Q (.bl (givB v)) S'' := ⟨S, .refl S, q⟩
  simp only [n_is_given, rho0, List.map_cons, List.map_nil, List.length_cons, List.length_nil, Nat.reduceAdd, Nat.reduceSub, Nat.zero_add, List.replicate, List.cons_append, List.nil_append, List.append_nil]; rw [m_is_given, wpB_cons]; simp? only [hv.p]
  rcases str_of (v := v) with ⟨s, rfl⟩ | e
  · have hs : s.length ≤ 1000000 := smal_str hv.s s rfl
    have e : givB (.str s) = (decide (s ≠ []) && allIn s CAPS) := rfl
    rw [e] at q
    by_cases h : s = []
    · rw [decide_eq_false (by simpa using h), Bool.false_and] at q
      (try simp? only [h])
      exact q
    · rw [decide_eq_true h, Bool.true_and] at q
      (try simp? only [h])
      exact ⟨hs, q⟩
  · have e2 : givB v = false := by cases v <;> first | rfl | (simp [tyB] at e)
    rw [e2] at q
    (try simp? only [e])
    exact q

end K02
-- v2 k02
set_option Elab.async false
set_option linter.all false
set_option maxRecDepth 100000
set_option maxHeartbeats 8000000
namespace K02
open PySem PySem.Spec PyProof.Rows L2 MP
theorem d_is_title : Does gk T_is_title s_is_title n_is_title P_is_title m_is_title (gk.sp i_is_title) := by
  refine ⟨sc_is_title, c_is_title, (by rintro ds S Q E ⟨v, rfl, hv, q⟩; rfl), ?_⟩
  rintro ds S Q E ⟨v, rfl, hv, q⟩
  have q : ∃ S'', MP.Sub S'' S ∧ Q (.bl (titB v)) S'' := ⟨S, .refl S, q⟩
  simp only [n_is_title, rho0, List.map_cons, List.map_nil, List.length_cons, List.length_nil, Nat.reduceAdd, Nat.reduceSub, Nat.zero_add, List.replicate, List.cons_append, List.nil_append, List.append_nil]; rw [m_is_title, wpB_cons]; simp? only [hv.p]
  rcases str_of (v := v) with ⟨s, rfl⟩ | e
  · have hs : s.length ≤ 1000000 := smal_str hv.s s rfl
    obtain ⟨w, ws, h1, h2, h3⟩ := spl1 32 s []
    have hw : w.length ≤ 1000000 := by have := h3 w (List.mem_cons_self ..); simp at this; omega
    have e : titB (.str s) = (famL w && ws.all smlW) := by
      show titL s = _
      unfold titL
      rw [h1]
    rw [e] at q
    (try simp? only [])
    (try rw [wpB_cons]); (try simp? only [])
    (try rw [wpB_cons]); (try simp? only [h1])
    refine ⟨lt_str hw, ?_⟩
    have e2 : famB (.str w) = famL w := rfl
    rw [e2]
    by_cases h : famL w = true
    · rw [h, Bool.true_and] at q
      (try simp? only [h, cut1])
      refine lc_map D.str (fun p => .bl (smlW p)) ws True.intro (by rw [sizeLine_eq]; omega) (fun p hp => ⟨_, rfl, fun K' k => ?_⟩) ?_
      · have hp2 : p.length ≤ 1000000 := by have := h3 p (List.mem_cons_of_mem _ hp); simp at this; omega
        by_cases hz : p = []
        · rw [show smlW p = false by rw [hz]; rfl] at k
          (try simp? only [hz])
          exact k
        · rw [show smlW p = allIn p SMLS by unfold smlW; rw [decide_eq_true hz, Bool.true_and]] at k
          (try simp? only [hz])
          exact ⟨hp2, k⟩
      · (try simp? only [])
        exact q
    · rw [show famL w = false by simpa using h, Bool.false_and] at q
      (try simp? only [h])
      exact q
  · have e2 : titB v = false := by cases v <;> first | rfl | (simp [tyB] at e)
    rw [e2] at q
    (try simp? only [e])
    exact q

end K02
-- v2 k02
set_option Elab.async false
set_option linter.all false
set_option maxRecDepth 100000
set_option maxHeartbeats 8000000
namespace K02
open PySem PySem.Spec PyProof.Rows L2 MP
theorem d_is_name : Does gk T_is_name s_is_name n_is_name P_is_name m_is_name (gk.sp i_is_name) := by
  refine ⟨sc_is_name, c_is_name, (by rintro ds S Q E ⟨v, rfl, hv, q⟩; rfl), ?_⟩
  rintro ds S Q E ⟨v, rfl, hv, q⟩
  have q : ∃ S'', MP.Sub S'' S ∧ Q (.bl (namB v)) S'' := ⟨S, .refl S, q⟩
  simp only [n_is_name, rho0, List.map_cons, List.map_nil, List.length_cons, List.length_nil, Nat.reduceAdd, Nat.reduceSub, Nat.zero_add, List.replicate, List.cons_append, List.nil_append, List.append_nil]; rw [m_is_name, wpB_cons]; simp? only [hv.p]
  rcases shape_of (v := v) with ⟨xs, rfl⟩ | e
  · by_cases h2 : xs.length = 2
    · match xs, h2 with
      | [x, y], _ =>
        have hx := hv.mem x (by simp)
        have hy := hv.mem y (by simp)
        have e : namB (.tup [x, y]) = (famB x && givB y) := rfl
        rw [e] at q
        (try simp? only [])
        refine ⟨hx.up (by omega), ?_⟩
        by_cases h : famB x = true
        · rw [h, Bool.true_and] at q
          (try simp? only [h])
          exact ⟨hy.up (by omega), q⟩
        · rw [show famB x = false by simpa using h, Bool.false_and] at q
          (try simp? only [h])
          exact q
    · have e : namB (.tup xs) = false := by
        unfold namB
        split
        · rename_i e; cases e; exact absurd rfl h2
        · rfl
      rw [e] at q
      have : ¬ ((xs.length : Nat) : Int) = 2 := by omega
      (try simp? only [this])
      exact q
  · have e2 : namB v = false := by cases v <;> first | rfl | (simp [tyB] at e)
    rw [e2] at q
    (try simp? only [e])
    exact q

end K02
-- v2 k02
set_option Elab.async false
set_option linter.all false
set_option maxRecDepth 100000
set_option maxHeartbeats 8000000
namespace K02
open PySem PySem.Spec PyProof.Rows L2 MP
theorem d_is_book : Does gk T_is_book s_is_book n_is_book P_is_book m_is_book (gk.sp i_is_book) := by
  refine ⟨sc_is_book, c_is_book, (by rintro ds S Q E ⟨v, rfl, hv, q⟩; rfl), ?_⟩
  rintro ds S Q E ⟨v, rfl, hv, q⟩
  have q : ∃ S'', MP.Sub S'' S ∧ Q (.bl (bokB v)) S'' := ⟨S, .refl S, q⟩
  simp only [n_is_book, rho0, List.map_cons, List.map_nil, List.length_cons, List.length_nil, Nat.reduceAdd, Nat.reduceSub, Nat.zero_add, List.replicate, List.cons_append, List.nil_append, List.append_nil]; rw [m_is_book, wpB_cons]; simp? only [hv.p]
  rcases shape_of (v := v) with ⟨xs, rfl⟩ | e
  · by_cases h2 : xs.length = 5
    · match xs, h2 with
      | [n, y, t, p, w], _ =>
        have hn := hv.mem n (by simp)
        have hy := hv.mem y (by simp)
        have ht := hv.mem t (by simp)
        have hp := hv.mem p (by simp)
        have hw := hv.mem w (by simp)
        (try simp? only [])
        (try rw [wpB_cons]); (try simp? only [])
        (try rw [wpB_cons]); (try simp? only [hn.p])
        have fN : nmsB n = false → ∃ S'', MP.Sub S'' S ∧ Q (.bl false) S'' := fun e => by rw [bad_n e] at q; exact q
        have fY : btw 1000 2999 y = false → ∃ S'', MP.Sub S'' S ∧ Q (.bl false) S'' := fun e => by rw [bad_y e] at q; exact q
        have fT : titB t = false → ∃ S'', MP.Sub S'' S ∧ Q (.bl false) S'' := fun e => by rw [bad_t e] at q; exact q
        have fP : (MP.isNon p || famB p) = false → ∃ S'', MP.Sub S'' S ∧ Q (.bl false) S'' := fun e => by rw [bad_p e] at q; exact q
        rcases shape_of (v := n) with ⟨ns, rfl⟩ | e
        · (try simp? only [])
          by_cases h3 : 1 ≤ (ns.length : Int)
          · by_cases h4 : (ns.length : Int) ≤ 3
            · (try simp? only [h3, h4])
              have hm := hn.mem
              refine lcW_map (src := none) (fun x => .bl (namB x)) True.intro ns [] (by rw [sizeLine_eq, List.length_nil]; omega) (fun x hx => ⟨_, rfl, fun K' h => ?_⟩) ?_
              · (try simp? only [])
                exact ⟨(hm x hx).up (by omega), h⟩
              · (try simp? only [])
                by_cases h5 : (ns.all namB) = true
                · have eN : nmsB (.tup ns) = true := by
                    show (decide _ && _) = true
                    rw [h5, Bool.and_true]
                    exact decide_eq_true ⟨by omega, by omega⟩
                  have q1 : ∃ S'', MP.Sub S'' S ∧ Q (.bl (btw 1000 2999 y && titB t && (MP.isNon p || famB p) && (MP.isNon w || btw 1 999 w))) S'' := by
                    rw [show bokB (.tup [.tup ns, y, t, p, w]) = (btw 1000 2999 y && titB t && (MP.isNon p || famB p) && (MP.isNon w || btw 1 999 w)) by simp only [bokB, eN, Bool.true_and]] at q
                    exact q
                  clear q fN
                  (try simp? only [h5])
                  (try rw [wpB_cons]); (try simp? only [hy.p])
                  cases y with
                  | int i =>
                    simp only [isIntD]
                    (try simp? only [])
                    by_cases h6 : 1000 ≤ i
                    · by_cases h7 : i ≤ 2999
                      · (try simp? only [h6, h7])
                        refine ⟨ht.up (by omega), ?_⟩
                        by_cases h8 : titB t = true
                        · have q2 : ∃ S'', MP.Sub S'' S ∧ Q (.bl ((MP.isNon p || famB p) && (MP.isNon w || btw 1 999 w))) S'' := by
                            rw [show btw 1000 2999 (.int i) = true by simp [btw, h6, h7], h8, Bool.true_and, Bool.true_and] at q1
                            exact q1
                          clear q1 fY fT
                          (try simp? only [h8])
                          (try rw [wpB_cons]); (try simp? only [])
                          have last : (MP.isNon p || famB p) = true → ∃ S'', MP.Sub S'' S ∧ Q (.bl (MP.isNon w || btw 1 999 w)) S'' := fun e => by rw [e, Bool.true_and] at q2; exact q2
                          by_cases hz : MP.isNon p = true
                          · have q3 := last (by rw [hz, Bool.true_or])
                            (try simp? only [hz])
                            (try rw [wpB_cons]); (try simp? only [])
                            by_cases hy : MP.isNon w = true
                            · rw [hy, Bool.true_or] at q3
                              (try simp? only [hy])
                              exact q3
                            · rw [show MP.isNon w = false by simpa using hy, Bool.false_or] at q3
                              (try simp? only [hy, hw.p])
                              cases w with
                              | int j =>
                                simp only [isIntD]
                                rw [show btw 1 999 (.int j) = (decide (1 ≤ j) && decide (j ≤ 999)) from rfl] at q3
                                by_cases h9 : 1 ≤ j
                                · rw [decide_eq_true h9, Bool.true_and] at q3
                                  (try simp? only [h9])
                                  exact q3
                                · rw [decide_eq_false h9, Bool.false_and] at q3
                                  (try simp? only [h9])
                                  exact q3
                              | non => exact absurd rfl hy
                              | _ =>
                                simp only [isIntD]
                                (try simp? only [])
                                exact q3
                          · (try simp? only [hz])
                            refine ⟨hp.up (by omega), ?_⟩
                            by_cases h9 : famB p = true
                            · have q3 := last (by rw [h9, Bool.or_true])
                              (try simp? only [h9])
                              (try rw [wpB_cons]); (try simp? only [])
                              by_cases hy : MP.isNon w = true
                              · rw [hy, Bool.true_or] at q3
                                (try simp? only [hy])
                                exact q3
                              · rw [show MP.isNon w = false by simpa using hy, Bool.false_or] at q3
                                (try simp? only [hy, hw.p])
                                cases w with
                                | int j =>
                                  simp only [isIntD]
                                  rw [show btw 1 999 (.int j) = (decide (1 ≤ j) && decide (j ≤ 999)) from rfl] at q3
                                  by_cases h9 : 1 ≤ j
                                  · rw [decide_eq_true h9, Bool.true_and] at q3
                                    (try simp? only [h9])
                                    exact q3
                                  · rw [decide_eq_false h9, Bool.false_and] at q3
                                    (try simp? only [h9])
                                    exact q3
                                | non => exact absurd rfl hy
                                | _ =>
                                  simp only [isIntD]
                                  (try simp? only [])
                                  exact q3
                            · have q3 := fP (by rw [show MP.isNon p = false by simpa using hz, show famB p = false by simpa using h9]; rfl)
                              (try simp? only [h9])
                              exact q3
                        · have q3 := fT (by simpa using h8)
                          (try simp? only [h8])
                          exact q3
                      · have q3 := fY (by simp [btw, h7])
                        (try simp? only [h6, h7])
                        exact q3
                    · have q3 := fY (by simp [btw, h6])
                      (try simp? only [h6])
                      exact q3
                  | _ =>
                    simp only [isIntD]
                    have q3 := fY rfl
                    (try simp? only [])
                    exact q3
                · have q3 := fN (by show (_ && ns.all namB) = false; rw [show ns.all namB = false by simpa using h5, Bool.and_false])
                  (try simp? only [h5])
                  exact q3
            · have q3 := fN (by show (decide _ && _) = false; rw [decide_eq_false (by omega), Bool.false_and])
              (try simp? only [h3, h4])
              exact q3
          · have q3 := fN (by show (decide _ && _) = false; rw [decide_eq_false (by omega), Bool.false_and])
            (try simp? only [h3])
            exact q3
        · have q3 := fN (by cases n <;> first | rfl | (simp [tyB] at e))
          (try simp? only [e])
          exact q3
    · rw [bad_len h2] at q
      have : ¬ ((xs.length : Nat) : Int) = 5 := by omega
      (try simp? only [this])
      exact q
  · have e2 : bokB v = false := by cases v <;> first | rfl | (simp [tyB] at e)
    rw [e2] at q
    (try simp? only [e])
    exact q

end K02
-- v2 k02
set_option Elab.async false
set_option linter.all false
set_option maxRecDepth 100000
set_option maxHeartbeats 8000000
namespace K02
open PySem PySem.Spec PyProof.Rows L2 MP
theorem hsh_nms : ∀ l : List Nm, hshL (l.map Nm.d) = true
  | [] => rfl
  | n :: l => by simp only [List.map_cons, hshL, Nm.d, hsh, hsh_nms l, Bool.and_self]
theorem hsh_os (o : Option (List Nat)) : hsh (osD o) = true := by cases o <;> rfl
theorem hsh_oi (o : Option Int) : hsh (oiD o) = true := by cases o <;> rfl
theorem d_is_list : Does gk T_is_list s_is_list n_is_list P_is_list m_is_list (gk.sp i_is_list) := by
  refine ⟨sc_is_list, c_is_list, (by rintro ds S Q E ⟨v, rfl, hv, q⟩; rfl), ?_⟩
  rintro ds S Q E ⟨v, rfl, hv, q⟩
  have q : ∃ S'', MP.Sub S'' S ∧ Q (.bl (lisB v)) S'' := ⟨S, .refl S, q⟩
  simp only [n_is_list, rho0, List.map_cons, List.map_nil, List.length_cons, List.length_nil, Nat.reduceAdd, Nat.reduceSub, Nat.zero_add, List.replicate, List.cons_append, List.nil_append, List.append_nil]; rw [m_is_list, wpB_cons]; simp? only [hv.p]
  rcases shape_of (v := v) with ⟨xs, rfl⟩ | e
  · (try simp? only [])
    have hm := hv.mem
    have hl := hv.len
    refine lcW_map (src := none) (fun x => .bl (bokB x)) True.intro xs [] (by rw [sizeLine_eq, List.length_nil]; omega) (fun x hx => ⟨_, rfl, fun K' h => ?_⟩) ?_
    · (try simp? only [])
      exact ⟨(hm x hx).up (by omega), h⟩
    · (try simp? only [])
      by_cases h5 : (xs.all bokB) = true
      · have e : lisB (.tup xs) = distD xs := by simp only [lisB]; rw [h5]; rfl
        rw [e] at q
        (try simp? only [h5])
        refine ⟨True.intro, by omega, fun x hx => ?_, fun n hn e2 => ?_⟩
        · have hb := List.all_eq_true.mp h5 x hx
          obtain ⟨b, rfl⟩ := bk_of hb
          have := dep_nms b.ns
          have hh : hshL (b.ns.map Nm.d) = true := hsh_nms b.ns
          show (hshL _ && decide _) = true
          rw [Bool.and_eq_true]
          refine ⟨?_, decide_eq_true ?_⟩
          · simp only [hshL, hsh, hh, hsh_os, hsh_oi, Bool.and_self]
          · simp only [Bk.d, dep, depL, dep_os, dep_oi]; omega
        · rw [show decide (((n : Nat) : Int) = ((xs.length : Nat) : Int)) = decide (n = xs.length) from decide_eq_decide.mpr Int.ofNat_inj, e2]
          exact q
      · have e : lisB (.tup xs) = false := by simp only [lisB]; rw [show xs.all bokB = false by simpa using h5]; rfl
        rw [e] at q
        (try simp? only [h5])
        exact q
  · have e2 : lisB v = false := by cases v <;> first | rfl | (simp [tyB] at e)
    rw [e2] at q
    (try simp? only [e])
    exact q

end K02
-- v2 k02
set_option Elab.async false
set_option linter.all false
set_option maxRecDepth 100000
set_option maxHeartbeats 8000000
namespace K02
open PySem PySem.Spec PyProof.Rows L2 MP
theorem d_need_book : Does gk T_need_book s_need_book n_need_book P_need_book m_need_book (gk.sp i_need_book) := by
  refine ⟨sc_need_book, c_need_book, (by rintro ds S Q E ⟨v, rfl, hv, q1, q2⟩; rfl), ?_⟩
  rintro ds S Q E ⟨v, rfl, hv, q1, q2⟩
  simp only [n_need_book, rho0, List.map_cons, List.map_nil, List.length_cons, List.length_nil, Nat.reduceAdd, Nat.reduceSub, Nat.zero_add, List.replicate, List.cons_append, List.nil_append, List.append_nil]; rw [m_need_book, wpB_cons]; simp? only []
  refine ⟨hv, ?_⟩
  by_cases h : bokB v = true
  · (try simp? only [h])
    (try rw [wpB_cons]); (try simp? only [])
    exact ⟨S, .refl S, q1 h⟩
  · (try simp? only [h])
    (try rw [wpB_cons]); (try simp? only [])
    exact ⟨S, .refl S, q2 (by simpa using h)⟩

end K02
-- v2 k02
set_option Elab.async false
set_option linter.all false
set_option maxRecDepth 100000
set_option maxHeartbeats 8000000
namespace K02
open PySem PySem.Spec PyProof.Rows L2 MP
theorem d_shape_of : Does gk T_shape_of s_shape_of n_shape_of P_shape_of m_shape_of (gk.sp i_shape_of) := by
  refine ⟨sc_shape_of, c_shape_of, (by rintro ds S Q E ⟨v, rfl, hv, q1, q2⟩; rfl), ?_⟩
  rintro ds S Q E ⟨v, rfl, hv, q1, q2⟩
  simp only [n_shape_of, rho0, List.map_cons, List.map_nil, List.length_cons, List.length_nil, Nat.reduceAdd, Nat.reduceSub, Nat.zero_add, List.replicate, List.cons_append, List.nil_append, List.append_nil]; rw [m_shape_of, wpB_cons]; simp? only []
  refine ⟨hv, fun h => ?_, fun h => ⟨S, .refl S, q2 h⟩⟩
  obtain ⟨b, rfl⟩ := bk_of h
  have q := q1 b h rfl
  clear q1 q2 hv h
  obtain ⟨ns, y, t, p, v⟩ := b
  have q : ∃ S'', MP.Sub S'' S ∧ Q (shpD ⟨ns, y, t, p, v⟩) S'' := ⟨S, .refl S, q⟩
  cases p <;> cases v
  all_goals
    (try rw [wpB_cons]); (try simp? only [Bk.d, osD, oiD, List.length_map])
    exact q

end K02
-- v2 k02
set_option Elab.async false
set_option linter.all false
set_option maxRecDepth 100000
set_option maxHeartbeats 8000000
namespace K02
open PySem PySem.Spec PyProof.Rows L2 MP
theorem d__law_flow : Does gk T__law_flow s__law_flow n__law_flow P__law_flow m__law_flow (gk.sp i__law_flow) := by
  refine ⟨sc__law_flow, c__law_flow, (by rintro ds S Q E ⟨ns, rfl, q⟩; rfl), ?_⟩
  rintro ds S Q E ⟨ns, rfl, q⟩
  simp only [n__law_flow, rho0, List.map_cons, List.map_nil, List.length_cons, List.length_nil, Nat.reduceAdd, Nat.reduceSub, Nat.zero_add, List.replicate, List.cons_append, List.nil_append, List.append_nil]; rw [m__law_flow, wpB_cons]; simp? only []
  (try rw [wpB_cons]); (try simp? only [])
  refine forW_lr (src := none) D.int ns (fun _ ρ S' => S' = S ∧ ∃ (m : Int) (v : Option D), ρ = [some (.scr (ns.map .int)), some (.int m), v]) ?_ ?_ _ _ ⟨rfl, _, _, rfl⟩
  · rintro ρ S' ⟨rfl, m, v, rfl⟩
    refine ⟨True.intro, ?_⟩
    (try simp? only [])
    intro p hp
    exact ⟨_, .refl _, q p ⟨_, ⟨ns, 0, 0, 0, m, 0, rfl, by decide⟩⟩ hp⟩
  · rintro dn x r e ρ S' ⟨rfl, m, v, rfl⟩
    refine ⟨True.intro, _, rfl, fun nx hnx => ?_⟩
    (try simp? only [])
    exact ⟨cmulR (by decide) (by decide), hnx _ _ ⟨rfl, _, _, rfl⟩⟩

end K02
-- v2 k02
set_option Elab.async false
set_option linter.all false
set_option maxRecDepth 100000
set_option maxHeartbeats 8000000
namespace K02
open PySem PySem.Spec PyProof.Rows L2 MP
theorem d__law_load : Does gk T__law_load s__law_load n__law_load P__law_load m__law_load (gk.sp i__law_load) := by
  refine ⟨sc__law_load, c__law_load, (by rintro ds S Q E ⟨a, rfl, q⟩; rfl), ?_⟩
  rintro ds S Q E ⟨a, rfl, q⟩
  obtain ⟨S, ⟨_, ⟨cs, i1, i2, i3, i4, i5, rfl, h1⟩⟩, rfl, q0⟩ := drF_go q
  clear q
  have q : ∀ (i1 i2 i3 i4 i5 : Int), 0 ≤ i1 → ∃ S'', MP.Sub S'' (supd S a (.lst [.lst (cs.map .int), .int i1, .int i2, .int i3, .int i4, .int i5])) ∧ Q .non S'' :=
    fun i1 i2 i3 i4 i5 h => q0 ⟨_, ⟨cs, i1, i2, i3, i4, i5, rfl, h⟩⟩ () True.intro
  simp only [n__law_load, rho0, List.map_cons, List.map_nil, List.length_cons, List.length_nil, Nat.reduceAdd, Nat.reduceSub, Nat.zero_add, List.replicate, List.cons_append, List.nil_append, List.append_nil]; rw [m__law_load, wpB_cons]; simp? only []
  by_cases hn : i1 < (cs.length : Int)
  · have hn' : ¬ (cs.length : Int) ≤ i1 := by omega
    obtain ⟨d, hg, hd⟩ := atI_get (xs := cs.map D.int) h1 (by rw [List.length_map]; exact hn)
    obtain ⟨z, _, rfl⟩ := List.mem_map.mp hd
    (try simp? only [List.length_map, hn'])
    (try rw [wpB_cons]); (try simp? only [])
    rw [ix_lst hg]
    (try rw [wpB_cons]); (try simp? only [])
    (try rw [wpB_cons]); (try simp? only [])
    (try rw [wpB_cons]); (try simp? only [])
    (try rw [wpB_cons]); (try simp? only [])
    (try rw [wpB_cons]); (try simp? only [])
    by_cases h5 : z % 2 = 1
    · (try simp? only [h5])
      (try rw [wpB_cons]); (try simp? only [])
      exact q _ _ _ _ _ (by omega)
    · (try simp? only [h5])
      exact q _ _ _ _ _ (by omega)
  · have hn' : (cs.length : Int) ≤ i1 := by omega
    (try simp? only [List.length_map, hn'])
    (try rw [wpB_cons]); (try simp? only [])
    (try rw [wpB_cons]); (try simp? only [])
    (try rw [wpB_cons]); (try simp? only [])
    exact q _ _ _ _ _ (by omega)

end K02
-- v2 k02
set_option Elab.async false
set_option linter.all false
set_option maxRecDepth 100000
set_option maxHeartbeats 8000000
namespace K02
open PySem PySem.Spec PyProof.Rows L2 MP
theorem d__law_draw : Does gk T__law_draw s__law_draw n__law_draw P__law_draw m__law_draw (gk.sp i__law_draw) := by
  refine ⟨sc__law_draw, c__law_draw, (by rintro ds S Q E ⟨a, k, rfl, h1, h2, q⟩; rfl), ?_⟩
  rintro ds S Q E ⟨a, k, rfl, h1, h2, q⟩
  obtain ⟨S, ⟨_, ⟨cs, i1, i2, i3, i4, i5, rfl, hi⟩⟩, rfl, q2⟩ := drF_go q
  have hmax : (if k > 1 then k else 1) = k := by split <;> omega
  have hmod : ∀ x : Int, 0 ≤ x % k ∧ x % k < k := fun x => pos_mod x h1
  have q : ∀ (cs : List Int) (i1 i2 i3 i4 i5 x : Int), 0 ≤ i1 → ∃ S'', MP.Sub S'' (supd S a (.lst [.lst (cs.map .int), .int i1, .int i2, .int i3, .int i4, .int i5])) ∧ Q (.int (x % k)) S'' :=
    fun cs i1 i2 i3 i4 i5 x h => q2 ⟨_, ⟨cs, i1, i2, i3, i4, i5, rfl, h⟩⟩ _ (hmod x)
  have tail : ∀ (cs : List Int) (i1 i2 i3 i4 i5 : Int), 0 ≤ i1 → wpB gk (m__law_draw.drop 1) [some (.ref a), some (.int k), none] (supd S a (.lst [.lst (cs.map .int), .int i1, .int i2, .int i3, .int i4, .int i5])) (ctEnd Q E) := fun cs i1 i2 i3 i4 i5 hi => by
    simp only [m__law_draw, List.drop_succ_cons, List.drop_zero]
    (try rw [wpB_cons]); (try simp? only [])
    (try rw [wpB_cons]); (try simp? only [])
    by_cases h5 : i5 = 1
    · (try rw [wpB_cons]); (try simp? only [h5])
      (try rw [wpB_cons]); (try simp? only [])
      rw [hmax]
      exact ⟨cmulR (by decide) (by decide), by omega, q _ _ _ _ _ _ _ hi⟩
    · (try rw [wpB_cons]); (try simp? only [h5])
      (try rw [wpB_cons]); (try simp? only [])
      rw [hmax]
      refine ⟨by omega, ?_⟩
      (try rw [wpB_cons]); (try simp? only [])
      rw [hmax]
      refine ⟨by omega, ?_⟩
      by_cases hz : i2 / k = 0
      · (try rw [wpB_cons]); (try simp? only [hz])
        (try rw [wpB_cons]); (try simp? only [])
        exact ⟨by omega, q _ _ _ _ _ _ _ hi⟩
      · (try rw [wpB_cons]); (try simp? only [hz])
        (try rw [wpB_cons]); (try simp? only [])
        exact ⟨by omega, q _ _ _ _ _ _ _ hi⟩
  simp only [n__law_draw, rho0, List.map_cons, List.map_nil, List.length_cons, List.length_nil, Nat.reduceAdd, Nat.reduceSub, Nat.zero_add, List.replicate, List.cons_append, List.nil_append, List.append_nil]; rw [m__law_draw, wpB_cons]; simp? only []
  by_cases h3 : i3 = 0
  · (try simp? only [h3])
    refine ⟨⟨_, ⟨cs, i1, i2, 0, i4, i5, rfl, hi⟩⟩, supd_at, ?_⟩
    simp only [supd_supd]
    rintro ⟨_, ⟨cs, i1, i2, i3, i4, i5, rfl, hi⟩⟩ _ _
    exact tail cs i1 i2 i3 i4 i5 hi
  · (try simp? only [h3])
    exact tail cs i1 i2 i3 i4 i5 hi

end K02
-- v2 k02
set_option Elab.async false
set_option linter.all false
set_option maxRecDepth 100000
set_option maxHeartbeats 8000000
namespace K02
open PySem PySem.Spec PyProof.Rows L2 MP
theorem d__law_pick : Does gk T__law_pick s__law_pick n__law_pick P__law_pick m__law_pick (gk.sp i__law_pick) := by
  refine ⟨sc__law_pick, c__law_pick, (by rintro ds S Q E ⟨a, x, l, rfl, hx, h1, h2, q⟩; rfl), ?_⟩
  rintro ds S Q E ⟨a, x, l, rfl, hx, h1, h2, q⟩
  obtain ⟨S, σ, rfl, q2⟩ := drF_go q
  clear q
  rcases hx with rfl | ⟨p, rfl, hp, hs⟩
  · simp only [n__law_pick, rho0, List.map_cons, List.map_nil, List.length_cons, List.length_nil, Nat.reduceAdd, Nat.reduceSub, Nat.zero_add, List.replicate, List.cons_append, List.nil_append, List.append_nil]; rw [m__law_pick, wpB_cons]; simp? only []
    exact ⟨by omega, by omega, fun σ r ⟨r0, r1⟩ => pick_lst (n := l.length) rfl r0 r1 fun d hd => q2 σ d hd⟩
  · have hs : S p = some (.lst l) := by
      have : supd S a σ.st p = S p := if_neg hp
      rw [← this]; exact hs
    have e : supd S a σ.st = supd (supd S a σ.st) p (.lst l) := (supd_id ((if_neg hp).trans hs)).symm
    rw [e]
    simp only [n__law_pick, rho0, List.map_cons, List.map_nil, List.length_cons, List.length_nil, Nat.reduceAdd, Nat.reduceSub, Nat.zero_add, List.replicate, List.cons_append, List.nil_append, List.append_nil]; rw [m__law_pick, wpB_cons]; simp? only [↓drF_at2 hp]
    refine ⟨by omega, by omega, fun σ r ⟨r0, r1⟩ => pick_ref r0 r1 fun d hd => ?_⟩
    rw [show supd (supd S a σ.st) p (.lst l) = supd S a σ.st from supd_id ((if_neg hp).trans hs)]
    exact q2 σ d hd

end K02
-- v2 k02
set_option Elab.async false
set_option linter.all false
set_option maxRecDepth 100000
set_option maxHeartbeats 8000000
namespace K02
open PySem PySem.Spec PyProof.Rows L2 MP
theorem u_rec {n : Nat} {x : D} {S : Sto} {Q : Post} {E : XPost} (h : Lt (n - 1) x) (hn : 1 ≤ n) : (gk.put i__law_same (sp_same_ n)).sp i__law_same [x, x] S Q E = Q (.bl true) S := by
  rw [put_eq]
  exact propext ⟨fun ⟨y, e, _, _, q⟩ => q, fun q => ⟨x, rfl, h, hn, q⟩⟩
theorem d__law_same (n : Nat) : Does (gk.put i__law_same (sp_same_ n)) T__law_same s__law_same n__law_same P__law_same m__law_same (sp_same_ (n + 1)) := by
  refine ⟨sc__law_same, c__law_same, (by rintro ds S Q E ⟨x, rfl, h, hn, q⟩; rfl), ?_⟩
  rintro ds S Q E ⟨x, rfl, h, hn, q⟩
  have q : ∃ S'', MP.Sub S'' S ∧ Q (.bl true) S'' := ⟨S, .refl S, q⟩
  have e1 : MP.eqb (.bl true) (.bl true) = true := rfl
  have e2 : MP.eqb (.bl false) (.bl false) = true := rfl
  cases x with
  | tup xs =>
    have hx := h.mem
    have hl := h.len
    simp only [n__law_same, rho0, List.map_cons, List.map_nil, List.length_cons, List.length_nil, Nat.reduceAdd, Nat.reduceSub, Nat.zero_add, List.replicate, List.cons_append, List.nil_append, List.append_nil]; rw [m__law_same, wpB_cons]; simp? only []
    (try rw [wpB_cons]); (try simp? only [e1, e2])
    rw [Int.toNat_natCast]
    refine ⟨by omega, by omega, ?_⟩
    refine lc_map (src := none) (fun k : Nat => D.int k) (fun _ => D.bl true) (List.range xs.length) True.intro (by rw [sizeLine_eq, List.length_range]; omega) (fun k hm => ⟨_, rfl, fun K' hK => ?_⟩) ?_
    · have hk := List.mem_range.mp hm
      have hg : xs[k]? = some xs[k] := List.getElem?_eq_getElem hk
      have hy := hx xs[k] (List.getElem_mem hk)
      have h1 : 1 ≤ n := by
        have := h.d
        simp only [dep] at this
        omega
      (try rw [wpB_cons]); (try simp? only [])
      rw [ix_tup (atI_nat hg)]
      (try simp? only [])
      rw [ix_tup (atI_nat hg)]
      refine (u_rec (by simpa using hy) h1).mpr ?_
      exact hK
    · (try simp? only [])
      rw [show ((List.range xs.length).all fun _ => true) = true from List.all_eq_true.mpr fun _ _ => rfl]
      exact q
  | lst xs =>
    have hx := h.memL
    have hl := h.lenL
    simp only [n__law_same, rho0, List.map_cons, List.map_nil, List.length_cons, List.length_nil, Nat.reduceAdd, Nat.reduceSub, Nat.zero_add, List.replicate, List.cons_append, List.nil_append, List.append_nil]; rw [m__law_same, wpB_cons]; simp? only []
    (try rw [wpB_cons]); (try simp? only [e1, e2])
    rw [Int.toNat_natCast]
    refine ⟨by omega, by omega, ?_⟩
    refine lc_map (src := none) (fun k : Nat => D.int k) (fun _ => D.bl true) (List.range xs.length) True.intro (by rw [sizeLine_eq, List.length_range]; omega) (fun k hm => ⟨_, rfl, fun K' hK => ?_⟩) ?_
    · have hk := List.mem_range.mp hm
      have hg : xs[k]? = some xs[k] := List.getElem?_eq_getElem hk
      have hy := hx xs[k] (List.getElem_mem hk)
      have h1 : 1 ≤ n := by
        have := h.d
        simp only [dep] at this
        omega
      (try rw [wpB_cons]); (try simp? only [])
      rw [ix_lst (atI_nat hg)]
      (try simp? only [])
      rw [ix_lst (atI_nat hg)]
      refine (u_rec (by simpa using hy) h1).mpr ?_
      exact hK
    · (try simp? only [])
      rw [show ((List.range xs.length).all fun _ => true) = true from List.all_eq_true.mpr fun _ _ => rfl]
      exact q
  | non =>
    simp only [n__law_same, rho0, List.map_cons, List.map_nil, List.length_cons, List.length_nil, Nat.reduceAdd, Nat.reduceSub, Nat.zero_add, List.replicate, List.cons_append, List.nil_append, List.append_nil]; rw [m__law_same]; simp? only [↓wpB_cons]
    exact q
  | bl b =>
    simp only [n__law_same, rho0, List.map_cons, List.map_nil, List.length_cons, List.length_nil, Nat.reduceAdd, Nat.reduceSub, Nat.zero_add, List.replicate, List.cons_append, List.nil_append, List.append_nil]; rw [m__law_same]; simp? only [↓wpB_cons, show eqb (.bl b) (.bl b) = true by cases b <;> rfl]
    exact q
  | int i =>
    simp only [n__law_same, rho0, List.map_cons, List.map_nil, List.length_cons, List.length_nil, Nat.reduceAdd, Nat.reduceSub, Nat.zero_add, List.replicate, List.cons_append, List.nil_append, List.append_nil]; rw [m__law_same]; simp? only [↓wpB_cons]
    exact q
  | str s =>
    simp only [n__law_same, rho0, List.map_cons, List.map_nil, List.length_cons, List.length_nil, Nat.reduceAdd, Nat.reduceSub, Nat.zero_add, List.replicate, List.cons_append, List.nil_append, List.append_nil]; rw [m__law_same]; simp? only [↓wpB_cons]
    exact q
  | _ => exact absurd h.p (by simp [MP.plain])

end K02
-- v2 k02
set_option Elab.async false
set_option linter.all false
set_option maxRecDepth 100000
set_option maxHeartbeats 8000000
namespace K02
open PySem PySem.Spec PyProof.Rows L2 MP
theorem d__law_small : Does gk T__law_small s__law_small n__law_small P__law_small m__law_small (gk.sp i__law_small) := by
  refine ⟨sc__law_small, c__law_small, (by rintro ds S Q E ⟨a, m, rfl, hm, q⟩; rfl), ?_⟩
  rintro ds S Q E ⟨a, m, rfl, hm, q⟩
  obtain ⟨S, σ, rfl, q2⟩ := drF_go q
  clear q
  simp only [n__law_small, rho0, List.map_cons, List.map_nil, List.length_cons, List.length_nil, Nat.reduceAdd, Nat.reduceSub, Nat.zero_add, List.replicate, List.cons_append, List.nil_append, List.append_nil]; rw [m__law_small, wpB_cons]; simp? only []
  refine ⟨by omega, by omega, ?_⟩
  rw [Int.toNat_natCast]
  refine lc_drw (fun S => S) (fun k : Nat => D.int k) (fun t : List Nat => ∃ c, t = [c] ∧ c ∈ SMLS) D.str (List.range m) (fun σ => True.intro) (by rw [sizeLine_eq, List.length_range]; omega) (fun k hk => ⟨_, rfl, fun σ K' h => ?_⟩) (fun σ ys hl hys => ?_)
  · (try simp? only [])
    exact fun σ c hc => h σ [c] ⟨c, rfl, hc⟩
  · obtain ⟨h3, h4⟩ := ones_flat SMLS hys
    rw [List.length_range] at hl
    (try simp? only [])
    have h5 : (ys.map List.length).sum = ys.length := by rw [← List.length_flatten]; exact h3
    rw [joinL_nil]
    exact ⟨by omega, q2 σ ys.flatten ⟨by rw [h3, hl], h4⟩⟩

end K02
-- v2 k02
set_option Elab.async false
set_option linter.all false
set_option maxRecDepth 100000
set_option maxHeartbeats 8000000
namespace K02
open PySem PySem.Spec PyProof.Rows L2 MP
theorem d__law_capital : Does gk T__law_capital s__law_capital n__law_capital P__law_capital m__law_capital (gk.sp i__law_capital) := by
  refine ⟨sc__law_capital, c__law_capital, (by rintro ds S Q E ⟨a, rfl, q⟩; rfl), ?_⟩
  rintro ds S Q E ⟨a, rfl, q⟩
  obtain ⟨S, σ, rfl, q2⟩ := drF_go q
  clear q
  simp only [n__law_capital, rho0, List.map_cons, List.map_nil, List.length_cons, List.length_nil, Nat.reduceAdd, Nat.reduceSub, Nat.zero_add, List.replicate, List.cons_append, List.nil_append, List.append_nil]; rw [m__law_capital, wpB_cons]; simp? only []
  exact fun σ c hc => q2 σ c hc

end K02
-- v2 k02
set_option Elab.async false
set_option linter.all false
set_option maxRecDepth 100000
set_option maxHeartbeats 8000000
namespace K02
open PySem PySem.Spec PyProof.Rows L2 MP
theorem d__law_family : Does gk T__law_family s__law_family n__law_family P__law_family m__law_family (gk.sp i__law_family) := by
  refine ⟨sc__law_family, c__law_family, (by rintro ds S Q E ⟨a, rfl, q⟩; rfl), ?_⟩
  rintro ds S Q E ⟨a, rfl, q⟩
  obtain ⟨S, σ, rfl, q2⟩ := drF_go q
  clear q
  simp only [n__law_family, rho0, List.map_cons, List.map_nil, List.length_cons, List.length_nil, Nat.reduceAdd, Nat.reduceSub, Nat.zero_add, List.replicate, List.cons_append, List.nil_append, List.append_nil]; rw [m__law_family, wpB_cons]; simp? only []
  refine fun σ r ⟨r0, r1⟩ σ d hd => ?_
  have hd : ∃ m : Nat, d = .int m ∧ m ≤ 7 := by
    simp only [List.mem_cons, List.not_mem_nil, or_false] at hd
    rcases hd with rfl | rfl | rfl | rfl
    · exact ⟨0, rfl, by decide⟩
    · exact ⟨1, rfl, by decide⟩
    · exact ⟨7, rfl, by decide⟩
    · exact ⟨r.toNat, by rw [Int.toNat_of_nonneg r0], by omega⟩
  obtain ⟨m, rfl, hm⟩ := hd
  (try rw [wpB_cons]); (try simp? only [(show (0 : Int) ≤ m ∧ (m : Int) ≤ 1000 by omega)])
  refine fun σ c hc σ w ⟨h1, h2⟩ => ?_
  refine ⟨by show _ + _ ≤ _; rw [h1]; simp; omega, q2 σ (c :: w) ⟨?_, by simp; omega⟩⟩
  simp only [famL, Bool.and_eq_true, decide_eq_true_eq]
  exact ⟨hc, h2⟩

end K02
-- v2 k02
set_option Elab.async false
set_option linter.all false
set_option maxRecDepth 100000
set_option maxHeartbeats 8000000
namespace K02
open PySem PySem.Spec PyProof.Rows L2 MP
theorem d__law_name : Does gk T__law_name s__law_name n__law_name P__law_name m__law_name (gk.sp i__law_name) := by
  refine ⟨sc__law_name, c__law_name, (by rintro ds S Q E ⟨a, rfl, q⟩; rfl), ?_⟩
  rintro ds S Q E ⟨a, rfl, q⟩
  obtain ⟨S, σ, rfl, q2⟩ := drF_go q
  clear q
  simp only [n__law_name, rho0, List.map_cons, List.map_nil, List.length_cons, List.length_nil, Nat.reduceAdd, Nat.reduceSub, Nat.zero_add, List.replicate, List.cons_append, List.nil_append, List.append_nil]; rw [m__law_name, wpB_cons]; simp? only []
  refine fun σ f hf σ n ⟨n0, n1⟩ => ⟨by omega, by omega, ?_⟩
  obtain ⟨t, rfl⟩ : ∃ t : Nat, n = t := ⟨n.toNat, by omega⟩
  rw [show (1 + (t : Int)).toNat = 1 + t by omega]
  refine lc_drw (fun S => S) (fun k : Nat => D.int k) (fun t : List Nat => ∃ c, t = [c] ∧ c ∈ CAPS) D.str (List.range (1 + t)) (fun σ => True.intro) (by rw [sizeLine_eq, List.length_range]; omega) (fun k hk => ⟨_, rfl, fun σ K' h => ?_⟩) (fun σ ys hl hys => ?_)
  · (try simp? only [])
    exact fun σ c hc => h σ [c] ⟨c, rfl, hc⟩
  · obtain ⟨h3, h4⟩ := ones_flat CAPS hys
    rw [List.length_range] at hl
    (try simp? only [])
    have h5 : (ys.map List.length).sum = ys.length := by rw [← List.length_flatten]; exact h3
    rw [joinL_nil]
    refine ⟨by omega, q2 σ ⟨f, ys.flatten⟩ ⟨hf, ?_, by show ys.flatten.length ≤ 8; omega⟩⟩
    show (decide (ys.flatten ≠ []) && allIn ys.flatten CAPS) = true
    rw [h4, Bool.and_true]
    refine decide_eq_true fun e => ?_
    rw [e] at h3
    simp at h3; omega

end K02
-- v2 k02
set_option Elab.async false
set_option linter.all false
set_option maxRecDepth 100000
set_option maxHeartbeats 8000000
namespace K02
open PySem PySem.Spec PyProof.Rows L2 MP
theorem d__law_book : Does gk T__law_book s__law_book n__law_book P__law_book m__law_book (gk.sp i__law_book) := by
  refine ⟨sc__law_book, c__law_book, (by rintro ds S Q E ⟨a, rfl, q⟩; rfl), ?_⟩
  rintro ds S Q E ⟨a, rfl, q⟩
  obtain ⟨S, σ, rfl, q2⟩ := drF_go q
  clear q
  simp only [n__law_book, rho0, List.map_cons, List.map_nil, List.length_cons, List.length_nil, Nat.reduceAdd, Nat.reduceSub, Nat.zero_add, List.replicate, List.cons_append, List.nil_append, List.append_nil]; rw [m__law_book, wpB_cons]; simp? only []
  refine fun σ c hc σ n0 ⟨a0, a1⟩ => ?_
  (try simp? only [(show (0 : Int) ≤ n0 ∧ n0 ≤ 1000 by omega)])
  refine fun σ w ⟨w1, w2⟩ => ?_
  have ht0 : titL (c :: w) = true := titL_one (by simp only [famL, Bool.and_eq_true, decide_eq_true_eq]; exact ⟨hc, w2⟩)
  refine ⟨by omega, ?_⟩
  rw [wpB_cons]
  refine wpB_cut (fun ρ S' => ∃ (σ : GstP Good) (t : List Nat) (x : Option D), titL t = true ∧ t.length ≤ 1000 ∧ S' = supd S a σ.st ∧ ρ = [some (.ref a), some (.str t), x, none, none, none, none]) (fun R hR => ?_) ?_
  · (try rw [wpB_cons]); (try simp? only [])
    refine fun σ n ⟨n0, n1⟩ => ⟨by omega, by omega, ?_⟩
    obtain ⟨m, rfl⟩ : ∃ t : Nat, n = t := ⟨n.toNat, by omega⟩
    rw [Int.toNat_natCast]
    refine forW_lr (fun k : Nat => D.int k) (List.range m) (fun dn ρ S' => ∃ (σ : GstP Good) (t : List Nat) (x : Option D), titL t = true ∧ t.length ≤ 10 + dn.length * 10 ∧ S' = supd S a σ.st ∧ ρ = [some (.ref a), some (.str t), x, none, none, none, none]) ?_ ?_ _ _ ⟨σ, c :: w, _, ht0, by simp; omega, rfl, rfl⟩
    · rintro ρ S' ⟨σ, t, x, h1, h2, rfl, rfl⟩
      rw [List.length_range] at h2
      exact ⟨True.intro, hR _ _ ⟨σ, t, x, h1, by omega, rfl, rfl⟩⟩
    · rintro dn j r e ρ S' ⟨σ, t, x, h1, h2, rfl, rfl⟩
      have hk := range_at e
      refine ⟨True.intro, _, rfl, fun nx hnx => ?_⟩
      (try rw [wpB_cons]); (try simp? only [])
      refine ⟨by omega, fun σ n ⟨n0, n1⟩ => ?_⟩
      (try simp? only [(show (0 : Int) ≤ 1 + n ∧ 1 + n ≤ 1000 by omega)])
      refine fun σ u ⟨u1, u2⟩ => ⟨by rw [List.length_append, List.length_singleton, u1]; omega, ?_⟩
      refine hnx _ _ ⟨σ, t ++ 32 :: u, _, titL_app h1 (by
        simp only [smlW, Bool.and_eq_true, decide_eq_true_eq]
        refine ⟨fun e => ?_, u2⟩
        have u1 : (0 : Nat) = (1 + n).toNat := by rw [← u1, e]; rfl
        omega), by simp; omega, rfl, by rw [List.append_assoc]; rfl⟩
  rintro ρ S' ⟨σ, t, x, h1, h2, rfl, rfl⟩
  (try rw [wpB_cons]); (try simp? only [])
  refine fun σ y0 ⟨a0, a1⟩ σ d hd => ?_
  have hY : ∃ i : Int, d = .int i ∧ 1000 ≤ i ∧ i ≤ 2999 := by
    simp only [List.mem_cons, List.not_mem_nil, or_false] at hd
    rcases hd with rfl | rfl | rfl
    · exact ⟨_, rfl, by omega, by omega⟩
    · exact ⟨_, rfl, by omega, by omega⟩
    · exact ⟨_, rfl, by omega, by omega⟩
  obtain ⟨y, rfl, hy0, hy1⟩ := hY
  (try rw [wpB_cons]); (try simp? only [])
  refine fun σ f hf σ d hd => ?_
  have hT : ∃ o : Option (List Nat), d = osD o ∧ ∀ s, o = some s → famL s = true ∧ s.length ≤ 1000 := by
    simp only [List.mem_cons, List.not_mem_nil, or_false] at hd
    rcases hd with rfl | rfl
    · exact ⟨none, rfl, fun s e => by cases e⟩
    · exact ⟨some f, rfl, fun s e => by cases e; exact ⟨hf.1, by have := hf.2; omega⟩⟩
  obtain ⟨o, rfl, ho⟩ := hT
  (try rw [wpB_cons]); (try simp? only [])
  refine fun σ v0 ⟨a0, a1⟩ σ d hd => ?_
  have hV : ∃ o : Option Int, d = oiD o ∧ ∀ s, o = some s → 1 ≤ s ∧ s ≤ 999 := by
    simp only [List.mem_cons, List.not_mem_nil, or_false] at hd
    rcases hd with rfl | rfl | rfl | rfl | rfl
    · exact ⟨none, rfl, fun s e => by cases e⟩
    · exact ⟨none, rfl, fun s e => by cases e⟩
    · exact ⟨some 1, rfl, fun s e => by cases e; omega⟩
    · exact ⟨some 999, rfl, fun s e => by cases e; omega⟩
    · exact ⟨some (1 + v0), rfl, fun s e => by cases e; omega⟩
  obtain ⟨v, rfl, hv⟩ := hV
  (try rw [wpB_cons]); (try simp? only [])
  refine fun σ n ⟨n0, n1⟩ => ⟨by omega, by omega, ?_⟩
  obtain ⟨m, rfl⟩ : ∃ t : Nat, n = t := ⟨n.toNat, by omega⟩
  rw [show (1 + (m : Int)).toNat = 1 + m by omega]
  refine lc_drw (fun S => S) (fun k : Nat => D.int k) NmS Nm.d (List.range (1 + m)) (fun σ => True.intro) (by rw [sizeLine_eq, List.length_range]; omega) (fun k hk => ⟨_, rfl, fun σ K' h => ?_⟩) (fun σ ns hl hns => ?_)
  · (try simp? only [])
    exact fun σ n hn => h σ n hn
  rw [List.length_range] at hl
  (try rw [wpB_cons]); (try simp? only [])
  have fin : ∀ (σ : GstP Good) (ns : List Nm), 1 ≤ ns.length → ns.length ≤ 3 → (∀ n ∈ ns, NmS n) → ∃ S'', MP.Sub S'' (supd S a σ.st) ∧ Q (Bk.mk ns y t o v).d S'' := fun σ ns h3 h4 h5 =>
    q2 σ _ (bk_mk h3 h4 (fun x hx => let h := h5 x hx; ⟨h.1.1, h.2.1, h.1.2, h.2.2⟩) ⟨hy0, hy1⟩ h1 h2 ho hv)
  (try rw [wpB_cons]); (try simp? only [])
  refine fun σ k ⟨k0, k1⟩ => ?_
  by_cases hk : k = 1
  · (try simp? only [hk])
    match ns, hl, hns with
    | [], hl, _ => simp at hl; omega
    | n :: r, hl, hns =>
      have c1 : cutL (Nm.d n :: r.map Nm.d) none (some 1) = [n.d] := cutk (Nm.d n :: r.map Nm.d) 1
      (try rw [wpB_cons]); (try simp? only [c1, List.length_map])
      refine ⟨by simp, ?_⟩
      have hr : r.length ≤ 2 := by simp at hl; omega
      have e : cutL (List.replicate 3 [n.d]).flatten none (some ((r.length + 1 : Nat) : Int)) = ((List.replicate 3 n).take (r.length + 1)).map Nm.d := by
        rw [cutk, List.map_take]; rfl
      have h := fin σ ((List.replicate 3 n).take (r.length + 1)) (by rw [List.length_take, List.length_replicate]; omega) (by rw [List.length_take, List.length_replicate]; omega) fun z hz => by
        rw [List.eq_of_mem_replicate (List.mem_of_mem_take hz)]; exact hns n (List.mem_cons_self ..)
      rw [e]
      exact h
  · (try simp? only [hk])
    exact fin σ ns (by omega) (by omega) hns

end K02
-- v2 k02
set_option Elab.async false
set_option linter.all false
set_option maxRecDepth 100000
set_option maxHeartbeats 8000000
namespace K02
open PySem PySem.Spec PyProof.Rows L2 MP
theorem d__law_bad_words : Does gk T__law_bad_words s__law_bad_words n__law_bad_words P__law_bad_words m__law_bad_words (gk.sp i__law_bad_words) := by
  refine ⟨sc__law_bad_words, c__law_bad_words, (by rintro ds S Q E ⟨w, rfl, hw, hl, q⟩; rfl), ?_⟩
  rintro ds S Q E ⟨w, rfl, hw, hl, q⟩
  have ha := fam_asc hw
  have c1 : cutL w none (some 1) = w.take 1 := cutk w 1
  simp only [n__law_bad_words, rho0, List.map_cons, List.map_nil, List.length_cons, List.length_nil, Nat.reduceAdd, Nat.reduceSub, Nat.zero_add, List.replicate, List.cons_append, List.nil_append, List.append_nil]; rw [m__law_bad_words, wpB_cons]; simp? only [ha, c1]
  have t1 : (w.take 1).length ≤ 1000 := by rw [List.length_take]; omega
  refine ⟨by omega, by omega, by omega, by omega, by omega, by omega, by omega, by omega, by omega, by omega, by rw [List.length_map]; omega, S, .refl S, q _ rfl fun d hd => ?_⟩
  have ls : ∀ s : List Nat, s.length ≤ 5000 → famL s = false → badW (.str s) := fun s h1 h2 => ⟨h2, rfl, lt_str (by omega)⟩
  have lw : Lt 3 (.str w) := lt_str (by omega)
  have l1 : ∀ s : List Nat, s.length ≤ 5 → (w ++ s).length ≤ 5000 := fun s h => by rw [List.length_append]; omega
  simp only [List.mem_cons, List.not_mem_nil, or_false] at hd
  rcases hd with rfl | rfl | rfl | rfl | rfl | rfl | rfl | rfl | rfl | rfl | rfl | rfl | rfl | rfl | rfl | rfl | rfl | rfl
  · exact ls _ (by simp) rfl
  · exact ls _ (by rw [List.length_map]; omega) (by have := fam_low (s := []) hw; rwa [List.append_nil] at this)
  · exact ls _ (l1 _ (by decide)) (fam_app hw (by decide))
  · exact ls _ (l1 _ (by decide)) (fam_app hw (by decide))
  · exact ls _ (l1 _ (by decide)) (fam_app hw (by decide))
  · exact ls _ (by simp; omega) (fam_head (by decide))
  · exact ls _ (l1 _ (by decide)) (fam_app hw (by decide))
  · exact ls _ (by simp; omega) (fam_head (by decide))
  · refine ls _ (by rw [List.length_append]; simp; omega) ?_
    cases w with
    | nil => cases hw
    | cons c r => simp [famL, allIn]
  · exact ls _ (l1 _ (by decide)) (fam_app hw (by decide))
  · exact ls _ (l1 _ (by decide)) (fam_app hw (by decide))
  · exact ls _ (l1 _ (by decide)) (fam_app hw (by decide))
  · exact ⟨rfl, rfl, lt_int⟩
  · exact ⟨rfl, rfl, lt_bl⟩
  · exact ⟨rfl, rfl, (Lt.tup (n := 3) (fun z hz => by rw [List.mem_singleton.mp hz]; exact lw) (by simp))⟩
  · exact ⟨rfl, rfl, (Lt.lst (n := 3) (fun z hz => by rw [List.mem_singleton.mp hz]; exact lw) (by simp))⟩
  · exact ⟨rfl, rfl, rfl, rfl, by simp [dep, depL]⟩
  · exact ls _ (by rw [List.length_append, List.length_map]; omega) (fam_low hw)

end K02
-- v2 k02
set_option Elab.async false
set_option linter.all false
set_option maxRecDepth 100000
set_option maxHeartbeats 8000000
namespace K02
open PySem PySem.Spec PyProof.Rows L2 MP
theorem d__law_bad_names : Does gk T__law_bad_names s__law_bad_names n__law_bad_names P__law_bad_names m__law_bad_names (gk.sp i__law_bad_names) := by
  refine ⟨sc__law_bad_names, c__law_bad_names, (by rintro ds S Q E ⟨a, ns, rfl, hn1, hn3, hns, q⟩; rfl), ?_⟩
  rintro ds S Q E ⟨a, ns, rfl, hn1, hn3, hns, q⟩
  obtain ⟨S, σ, rfl, q2⟩ := drF_go q
  clear q
  simp only [n__law_bad_names, rho0, List.map_cons, List.map_nil, List.length_cons, List.length_nil, Nat.reduceAdd, Nat.reduceSub, Nat.zero_add, List.replicate, List.cons_append, List.nil_append, List.append_nil]; rw [m__law_bad_names, wpB_cons]; simp? only [List.length_map]
  refine ⟨by omega, by omega, fun σ k ⟨k0, k1⟩ => ?_⟩
  obtain ⟨k, rfl⟩ : ∃ t : Nat, k = t := ⟨k.toNat, by omega⟩
  have hk : k < ns.length := by omega
  have hg : (ns.map Nm.d)[k]? = some ns[k].d := by rw [List.getElem?_map, List.getElem?_eq_getElem hk]; rfl
  generalize hn : ns[k] = n at hg
  have hN := hns n (by rw [← hn]; exact List.getElem_mem hk)
  (try rw [wpB_cons]); (try simp? only [])
  rw [ix_tup (atI_nat hg)]
  (try rw [wpB_cons]); (try simp? only [Nm.d])
  have ha := giv_asc hN.2.1
  (try rw [wpB_cons]); (try simp? only [])
  refine ⟨hN.1, hN.2.2.1, fun l hl hbad => ?_⟩
  refine lcW_map (src := none) (fun y => .tup [y, .str n.g]) True.intro l [] (by rw [sizeLine_eq, List.length_nil]; omega) (fun y hy => ⟨_, rfl, fun K' h => ?_⟩) ?_
  · (try simp? only [])
    exact h
  (try simp? only [List.length_map])
  refine ⟨by omega, ?_⟩
  (try rw [wpB_cons]); (try simp? only [ha])
  (try rw [wpB_cons]); (try simp? only [])
  refine ⟨by omega, by omega, by omega, by omega, by omega, by omega, by omega, ?_⟩
  generalize hW : [D.str [], D.str (List.map lowC n.g), D.str (n.g ++ [97]), D.str (n.g ++ [46]), D.str (n.g ++ [32]), D.str (32 :: n.g), D.str (n.g ++ [49]), D.non, D.int 5, D.bl true, D.tup [D.str n.g], D.str (n.g ++ [32, 65]), D.str (97 :: n.g)] = W
  have hW2 : W.length = 13 ∧ ∀ d ∈ W, givB d = false ∧ Lt 4 d := by
    subst hW
    refine ⟨rfl, fun d hd => ?_⟩
    have ls : ∀ s : List Nat, s.length ≤ 5000 → givL s = false → givB (.str s) = false ∧ Lt 4 (.str s) := fun s h1 h2 => ⟨h2, lt_str (by omega)⟩
    have l1 : ∀ s : List Nat, s.length ≤ 5 → (n.g ++ s).length ≤ 5000 := fun s h => by rw [List.length_append]; omega
    have lw : Lt 3 (.str n.g) := lt_str (by omega)
    have ga : ∀ s : List Nat, allIn s CAPS = false → givL (n.g ++ s) = false := fun s h => by simp only [givL, allIn_app, h, Bool.and_false]
    simp only [List.mem_cons, List.not_mem_nil, or_false] at hd
    rcases hd with rfl | rfl | rfl | rfl | rfl | rfl | rfl | rfl | rfl | rfl | rfl | rfl | rfl
    · exact ls _ (by simp) rfl
    · refine ls _ (by rw [List.length_map]; omega) ?_
      have h1 := hN.2.1
      simp only [givL, Bool.and_eq_true, decide_eq_true_eq] at h1
      match hg : n.g, h1 with
      | [], h1 => exact absurd rfl h1.1
      | c :: r, h1 =>
        have hc := allIn_mem h1.2 c (List.mem_cons_self ..)
        have := (by decide : ∀ c ∈ CAPS, lowC c ∉ CAPS) c hc
        simp only [givL, List.map_cons, allIn_cons, decide_eq_false this, Bool.false_and, Bool.and_false]
    · exact ls _ (l1 _ (by decide)) (ga _ (by decide))
    · exact ls _ (l1 _ (by decide)) (ga _ (by decide))
    · exact ls _ (l1 _ (by decide)) (ga _ (by decide))
    · exact ls _ (by simp; omega) (by simp [givL, allIn_cons])
    · exact ls _ (l1 _ (by decide)) (ga _ (by decide))
    · exact ⟨rfl, lt_non⟩
    · exact ⟨rfl, lt_int⟩
    · exact ⟨rfl, lt_bl⟩
    · exact ⟨rfl, Lt.tup (n := 3) (fun z hz => by rw [List.mem_singleton.mp hz]; exact lw) (by simp)⟩
    · exact ls _ (l1 _ (by decide)) (ga _ (by decide))
    · exact ls _ (by simp; omega) (by simp [givL, allIn_cons])
  refine lcW_map (src := none) (fun y => .tup [.str n.f, y]) True.intro W [] (by rw [sizeLine_eq, List.length_nil]; omega) (fun y hy => ⟨_, rfl, fun K' h => ?_⟩) ?_
  · (try simp? only [])
    exact h
  (try simp? only [List.length_map, List.length_append, hl, hW2.1])
  (try rw [wpB_cons]); (try simp? only [ha, List.length_map, List.length_append, hl, hW2.1])
  generalize hO : _ ++ [D.tup [D.str n.f], _, D.str n.f, D.non, _, _, _, _] = O
  have hO2 : O.length = 40 ∧ ∀ d ∈ O, namB d = false ∧ Lt 5 d := by
    subst hO
    refine ⟨by simp [hl, hW2.1], fun d hd => ?_⟩
    have lg : Lt 4 (.str n.g) := lt_str (by omega)
    have lf : Lt 4 (.str n.f) := lt_str (by omega)
    have two : ∀ x y : D, Lt 4 x → Lt 4 y → Lt 5 (.tup [x, y]) := fun x y h1 h2 => Lt.tup (n := 4) (fun z hz => by
      simp only [List.mem_cons, List.not_mem_nil, or_false] at hz
      rcases hz with rfl | rfl <;> assumption) (by simp)
    rcases List.mem_append.mp hd with hd | hd
    · rcases List.mem_append.mp hd with hd | hd
      · rcases List.mem_append.mp hd with hd | hd
        · obtain ⟨y, hy, rfl⟩ := List.mem_map.mp hd
          have := hbad y hy
          exact ⟨by simp only [namB, this.1, Bool.false_and], two _ _ this.2.2 lg⟩
        · rw [List.mem_singleton.mp hd]
          exact ⟨rfl, two _ _ lt_non lg⟩
      · obtain ⟨y, hy, rfl⟩ := List.mem_map.mp hd
        have := hW2.2 y hy
        exact ⟨by simp only [namB, this.1, Bool.and_false], two _ _ lf this.2⟩
    · simp only [List.mem_cons, List.not_mem_nil, or_false] at hd
      rcases hd with rfl | rfl | rfl | rfl | rfl | rfl | rfl | rfl
      · exact ⟨rfl, Lt.tup (n := 4) (fun z hz => by rw [List.mem_singleton.mp hz]; exact lf) (by simp)⟩
      · exact ⟨rfl, Lt.tup (n := 4) (fun z hz => by
          simp only [List.mem_cons, List.not_mem_nil, or_false] at hz
          rcases hz with rfl | rfl | rfl <;> assumption) (by simp)⟩
      · exact ⟨rfl, lf.up (by omega)⟩
      · exact ⟨rfl, lt_non⟩
      · exact ⟨rfl, lt_int⟩
      · exact ⟨rfl, lt_bl⟩
      · exact ⟨rfl, rfl, rfl, by simp [dep, depL]⟩
      · refine ⟨?_, two _ _ (lt_str (by rw [List.length_map]; omega)) lf⟩
        have h1 := hN.2.1
        simp only [givL, Bool.and_eq_true, decide_eq_true_eq] at h1
        match hg : n.g, h1 with
        | [], h1 => exact absurd rfl h1.1
        | c :: r, h1 =>
          have hc := allIn_mem h1.2 c (List.mem_cons_self ..)
          have := (by decide : ∀ c ∈ CAPS, lowC c ∉ CAPS) c hc
          simp only [namB, famB, famL, List.map_cons, decide_eq_false this, Bool.false_and]
  clear hO hW hbad hl
  have nl : ∀ x ∈ ns.map Nm.d, Lt 5 x := fun x hx => by
    obtain ⟨m, hm, rfl⟩ := List.mem_map.mp hx
    have := hns m hm
    exact (Lt.tup (n := 0) (fun z hz => by
      simp only [List.mem_cons, List.not_mem_nil, or_false] at hz
      rcases hz with rfl | rfl
      · exact lt_str (by omega)
      · exact lt_str (by omega)) (by simp)).up (by omega)
  have c1 : cutL (ns.map Nm.d) none (some (k : Int)) = (ns.map Nm.d).take k := cutk _ k
  have c2 : cutL (ns.map Nm.d) (some ((k : Int) + 1)) none = (ns.map Nm.d).drop (k + 1) := cutd _ (k + 1)
  (try rw [wpB_cons]); (try simp? only [])
  refine lcW_map (src := none) (fun y => .tup ((ns.map Nm.d).take k ++ [y] ++ (ns.map Nm.d).drop (k + 1))) True.intro O [] (by rw [sizeLine_eq, List.length_nil]; omega) (fun y hy => ⟨_, rfl, fun K' h => ?_⟩) ?_
  · (try simp? only [c1, c2, List.length_append, List.length_take, List.length_drop, List.length_map])
    exact ⟨by omega, by omega, h⟩
  (try simp? only [])
  (try rw [wpB_cons]); (try simp? only [])
  have hO := hO2.1
  have c4 : cutL (ns.map Nm.d ++ ns.map Nm.d ++ ns.map Nm.d ++ ns.map Nm.d) none (some 4) = (ns.map Nm.d ++ ns.map Nm.d ++ ns.map Nm.d ++ ns.map Nm.d).take 4 := cutk _ 4
  rw [c4]
  generalize hF : (ns.map Nm.d ++ ns.map Nm.d ++ ns.map Nm.d ++ ns.map Nm.d).take 4 = F4
  have hF2 : F4.length = 4 ∧ ∀ x ∈ F4, Lt 5 x := by
    subst hF
    refine ⟨by simp; omega, fun x hx => ?_⟩
    have hx := List.mem_of_mem_take hx
    simp only [List.mem_append] at hx
    rcases hx with ((hx | hx) | hx) | hx <;> exact nl x hx
  simp only [List.length_append, List.length_map]
  refine ⟨by omega, by omega, by omega, by omega, q2 σ _ ⟨by simp, by simp [hO], fun d hd => ?_⟩⟩
  rcases List.mem_append.mp hd with hd | hd
  · obtain ⟨y, hy, rfl⟩ := List.mem_map.mp hd
    have hb := hO2.2 y hy
    refine ⟨?_, (Lt.tup (n := 5) (fun z hz => ?_) (by simp; omega)).up (by omega)⟩
    · show (_ && List.all _ _) = false
      rw [List.all_append, List.all_append]
      simp only [List.all_cons, List.all_nil, hb.1, Bool.false_and, Bool.and_false]
    · rcases List.mem_append.mp hz with hz | hz
      · rcases List.mem_append.mp hz with hz | hz
        · exact nl z (List.mem_of_mem_take hz)
        · rw [List.mem_singleton.mp hz]; exact hb.2
      · exact nl z (List.mem_of_mem_drop hz)
  · simp only [List.mem_cons, List.not_mem_nil, or_false] at hd
    rcases hd with rfl | rfl | rfl | rfl | rfl | rfl | rfl | rfl | rfl
    · exact ⟨rfl, rfl, rfl, by simp [dep, depL]⟩
    · refine ⟨?_, (Lt.tup (n := 5) hF2.2 (by omega)).up (by omega)⟩
      show (decide _ && _) = false
      rw [decide_eq_false (by omega), Bool.false_and]
    · exact ⟨rfl, lt_non⟩
    · exact ⟨rfl, lt_int⟩
    · exact ⟨rfl, lt_bl⟩
    · exact ⟨rfl, lt_str (by omega)⟩
    · exact ⟨rfl, (Lt.lst (n := 5) nl (by simp; omega)).up (by omega)⟩
    · exact ⟨rfl, (Lt.tup (n := 0) (fun z hz => by
        simp only [List.mem_cons, List.not_mem_nil, or_false] at hz
        rcases hz with rfl | rfl
        · exact lt_str (by omega)
        · exact lt_str (by omega)) (by simp)).up (by omega)⟩
    · exact ⟨rfl, lt_str (by decide)⟩

end K02
-- v2 k02
set_option Elab.async false
set_option linter.all false
set_option maxRecDepth 100000
set_option maxHeartbeats 8000000
namespace K02
open PySem PySem.Spec PyProof.Rows L2 MP
theorem tit_head {s : List Nat} (h : titL s = true) : ∃ c r, s = c :: r ∧ c ∈ CAPS := by
  obtain ⟨w, ws, e, h1, _⟩ := tit_wds h
  have hj := spl_join 32 s []
  rw [show TL.spl [32] 0 [] s = w :: ws from e, List.nil_append] at hj
  cases w with
  | nil => cases h1
  | cons c r =>
    simp only [famL, Bool.and_eq_true, decide_eq_true_eq] at h1
    cases ws with
    | nil => exact ⟨c, r, by rw [← hj]; rfl, h1.1⟩
    | cons x xs => exact ⟨c, r ++ ([32] ++ TL.joinL [32] (x :: xs)), by rw [← hj]; simp [TL.joinL], h1.1⟩
theorem tit_low {s : List Nat} (h : titL s = true) : titL (s.map lowC) = false := by
  rw [Bool.eq_false_iff]
  intro h2
  obtain ⟨c, r, rfl, hc⟩ := tit_head h
  obtain ⟨d, t, e, hd⟩ := tit_head h2
  simp only [List.map_cons, List.cons.injEq] at e
  rw [← e.1] at hd
  exact absurd hd ((by decide : ∀ c ∈ CAPS, lowC c ∉ CAPS) c hc)
theorem join_asc : ∀ ws : List (List Nat), (∀ w ∈ ws, (w.all fun c => decide (c < 128)) = true) → ((TL.joinL [32] ws).all fun c => decide (c < 128)) = true
  | [], _ => rfl
  | [w], h => by simpa [TL.joinL] using h w (by simp)
  | w :: x :: r, h => by
    have h1 := h w (by simp)
    have h2 := join_asc (x :: r) fun y hy => h y (List.mem_cons_of_mem _ hy)
    simp only [TL.joinL, List.all_append, h1, h2]
    rfl
theorem tit_asc {s : List Nat} (h : titL s = true) : (s.all fun c => decide (c < 128)) = true := by
  have hj := spl_join 32 s []
  rw [List.nil_append] at hj
  rw [← hj]
  exact join_asc _ fun w hw => wrdL_asc (wds_wrd h w hw)
theorem join_in : ∀ (ws : List (List Nat)) (w : List Nat), (∀ x ∈ ws, smlW x = true) → (∀ x ∈ w, x ∈ SMLS ∨ x = 32) → ∀ x ∈ TL.joinL [32] (w :: ws), x ∈ SMLS ∨ x = 32
  | [], w, _, h, x, hx => h x (by simpa [TL.joinL] using hx)
  | y :: ws, w, hs, h, x, hx => by
    simp only [TL.joinL, List.mem_append, List.mem_singleton] at hx
    rcases hx with hx | hx | hx
    · exact h x hx
    · exact .inr hx
    · refine join_in ws y (fun z hz => hs z (List.mem_cons_of_mem _ hz)) (fun z hz => ?_) x hx
      have := hs y (List.mem_cons_self ..)
      simp only [smlW, Bool.and_eq_true] at this
      exact .inl (allIn_mem this.2 z hz)
theorem tit_tail {t : List Nat} (h : titL t = true) : ∃ c r, t = c :: r ∧ c ∈ CAPS ∧ ∀ x ∈ r, x ∈ SMLS ∨ x = 32 := by
  obtain ⟨w, ws, e, h1, h2⟩ := tit_wds h
  have hj := spl_join 32 t []
  rw [show TL.spl [32] 0 [] t = w :: ws from e, List.nil_append] at hj
  cases w with
  | nil => cases h1
  | cons c r =>
    simp only [famL, Bool.and_eq_true, decide_eq_true_eq] at h1
    have e2 : TL.joinL [32] ((c :: r) :: ws) = c :: TL.joinL [32] (r :: ws) := by cases ws <;> simp [TL.joinL]
    exact ⟨c, _, by rw [← hj, e2], h1.1, join_in ws r h2 fun x hx => .inl (allIn_mem h1.2 x hx)⟩
theorem tit_end {t s : List Nat} (h : titL t = true) {c : Nat} (hc : c ∈ s) (h1 : c ≠ 32) (h2 : c ∉ SMLS) : titL (t ++ s) = false := by
  rw [Bool.eq_false_iff]
  intro h3
  obtain ⟨d, r, e, _, h4⟩ := tit_tail h3
  obtain ⟨d2, r2, e2, _⟩ := tit_head h
  rw [e2, List.cons_append, List.cons.injEq] at e
  rcases h4 c (by rw [← e.2]; exact List.mem_append_right _ hc) with h | h
  · exact h2 h
  · exact h1 h
theorem d__law_bad_titles : Does gk T__law_bad_titles s__law_bad_titles n__law_bad_titles P__law_bad_titles m__law_bad_titles (gk.sp i__law_bad_titles) := by
  refine ⟨sc__law_bad_titles, c__law_bad_titles, (by rintro ds S Q E ⟨w, rfl, hw, hl, q⟩; rfl), ?_⟩
  rintro ds S Q E ⟨w, rfl, hw, hl, q⟩
  have ha := tit_asc hw
  simp only [n__law_bad_titles, rho0, List.map_cons, List.map_nil, List.length_cons, List.length_nil, Nat.reduceAdd, Nat.reduceSub, Nat.zero_add, List.replicate, List.cons_append, List.nil_append, List.append_nil]; rw [m__law_bad_titles, wpB_cons]; simp? only [ha]
  (try rw [wpB_cons]); (try simp? only [])
  (try rw [wpB_cons]); (try simp? only [])
  refine ⟨by omega, by omega, by omega, by omega, by omega, by omega, by omega, by omega, by omega, by omega, by omega, by omega, S, .refl S, q _ rfl fun d hd => ?_⟩
  have ls : ∀ s : List Nat, s.length ≤ 5000 → titL s = false → badT (.str s) := fun s h1 h2 => ⟨h2, lt_str (by omega)⟩
  have lw : Lt 3 (.str w) := lt_str (by omega)
  have l1 : ∀ s : List Nat, s.length ≤ 5 → (w ++ s).length ≤ 5000 := fun s h => by rw [List.length_append]; omega
  obtain ⟨c, r, e, hc⟩ := tit_head hw
  simp only [List.mem_cons, List.not_mem_nil, or_false] at hd
  rcases hd with rfl | rfl | rfl | rfl | rfl | rfl | rfl | rfl | rfl | rfl | rfl | rfl | rfl | rfl | rfl | rfl | rfl | rfl | rfl | rfl
  · exact ls _ (by simp) rfl
  · exact ls _ (by rw [List.length_map]; omega) (tit_low hw)
  · refine ls _ (by simp; omega) ?_
    rw [Bool.eq_false_iff]
    intro h
    obtain ⟨d, t, e1, hd⟩ := tit_head h
    simp only [List.cons.injEq] at e1
    rw [← e1.1] at hd
    exact absurd hd (by decide)
  · exact ls _ (l1 _ (by decide)) (tit_bad w [] (by decide))
  · exact ls _ (l1 _ (by decide)) (tit_bad w [32, 97] (by decide))
  · exact ls _ (l1 _ (by decide)) (tit_bad w [65] (by decide))
  · exact ls _ (l1 _ (by decide)) (tit_end hw (c := 49) (by decide) (by decide) (by decide))
  · exact ls _ (l1 _ (by decide)) (tit_bad w [97, 49] (by decide))
  · exact ls _ (l1 _ (by decide)) (tit_end hw (c := 45) (by decide) (by decide) (by decide))
  · exact ls _ (l1 _ (by decide)) (tit_end hw (c := 10) (by decide) (by decide) (by decide))
  · exact ls _ (l1 _ (by decide)) (tit_end hw (c := 46) (by decide) (by decide) (by decide))
  · refine ls _ (by simp; omega) ?_
    rw [Bool.eq_false_iff]
    intro h
    obtain ⟨d, t, e1, _, h4⟩ := tit_tail h
    simp only [List.cons.injEq] at e1
    rcases h4 c (by rw [← e1.2, e]; simp) with h | h
    · exact absurd h ((by decide : ∀ c ∈ CAPS, c ∉ SMLS) c hc)
    · subst h; exact absurd hc (by decide)
  · exact ls _ (by simp) (by decide)
  · exact ⟨rfl, lt_non⟩
  · exact ⟨rfl, lt_int⟩
  · exact ⟨rfl, lt_bl⟩
  · exact ⟨rfl, (Lt.tup (n := 3) (fun z hz => by rw [List.mem_singleton.mp hz]; exact lw) (by simp))⟩
  · exact ⟨rfl, (Lt.lst (n := 3) (fun z hz => by rw [List.mem_singleton.mp hz]; exact lw) (by simp))⟩
  · exact ls _ (l1 _ (by decide)) (tit_bad w [97, 32, 66] (by decide))
  · exact ls _ (l1 _ (by decide)) (tit_end hw (c := 9) (by decide) (by decide) (by decide))

end K02
-- v2 k02
set_option Elab.async false
set_option linter.all false
set_option maxRecDepth 100000
set_option maxHeartbeats 8000000
namespace K02
open PySem PySem.Spec PyProof.Rows L2 MP
def spI (S : Sto) (a : Addr) (σ : GstP Good) (b : D) (far : Int) (w : List Nat) (ns y t p v : D) (n : Nat) : Rho → Sto → Prop := fun ρ S' => ∃ (S1 : Sto) (q : Addr) (L : List D) (x : Option D), MP.Sub S S1 ∧ S1 q = none ∧ q ≠ a ∧ S' = supd (supd S1 a σ.st) q (.lst L) ∧ 1 ≤ L.length ∧ L.length ≤ n ∧ (∀ d ∈ L, badB d) ∧ ρ = [some (.ref a), some b, some (.int far), some (.str w), some (.ref q), x, some ns, some y, some t, some p, some v]
theorem spI_up {S : Sto} {a : Addr} {σ : GstP Good} {b : D} {far : Int} {w : List Nat} {ns y t p v : D} {n m : Nat} {ρ : Rho} {S' : Sto} (h : spI S a σ b far w ns y t p v n ρ S') (k : n ≤ m) : spI S a σ b far w ns y t p v m ρ S' := by
  obtain ⟨S1, q, L, x, h1, h2, h3, h4, h0, h5, h6, h7⟩ := h
  exact ⟨S1, q, L, x, h1, h2, h3, h4, h0, by omega, h6, h7⟩
theorem d__law_spoilt : Does gk T__law_spoilt s__law_spoilt n__law_spoilt P__law_spoilt m__law_spoilt (gk.sp i__law_spoilt) := by
  refine ⟨sc__law_spoilt, c__law_spoilt, (by rintro ds S Q E ⟨a, b, rfl, hb, q⟩; rfl), ?_⟩
  rintro ds S Q E ⟨a, b, rfl, hb, q⟩
  obtain ⟨S, σ, rfl, q2⟩ := drF_go q
  clear q
  obtain ⟨ns, y, t, p, v⟩ := b
  obtain ⟨ok, h1, h2, h3⟩ := hb
  have hn1 : 1 ≤ ns.length := ok.n1
  have hn3 : ns.length ≤ 3 := ok.n3
  have hy := ok.yr
  have ht := ok.ti
  have hv := ok.vo
  have hp : ∀ s, p = some s → famL s = true ∧ s.length ≤ 1000 := fun s e => ⟨ok.pl s e, h3 s e⟩
  have hn : ∀ x ∈ ns, famL x.f = true ∧ givL x.g = true ∧ x.f.length ≤ 8 ∧ x.g.length ≤ 8 := fun x hx => ⟨(ok.nm x hx).1, (ok.nm x hx).2, h1 x hx⟩
  simp only at h2 hy ht hv
  simp only [n__law_spoilt, rho0, List.map_cons, List.map_nil, List.length_cons, List.length_nil, Nat.reduceAdd, Nat.reduceSub, Nat.zero_add, List.replicate, List.cons_append, List.nil_append, List.append_nil]; rw [m__law_spoilt, wpB_cons]; simp? only [Bk.d]
  (try rw [wpB_cons]); (try simp? only [])
  refine ⟨⟨by decide, by decide, by decide⟩, fun σ far ⟨r0, r1⟩ => ?_⟩
  (try rw [wpB_cons]); (try simp? only [])
  rw [wpB_cons]
  refine wpB_cut (fun ρ S' => ∃ (σ : GstP Good) (w : List Nat), famL w = true ∧ w.length ≤ 1000 ∧ S' = supd S a σ.st ∧ ρ = [some (.ref a), some (.tup [.tup (ns.map Nm.d), .int y, .str t, osD p, oiD v]), some (.int far), some (.str w), none, none, some (.tup (ns.map Nm.d)), some (.int y), some (.str t), some (osD p), some (oiD v)]) (fun R hR => ?_) ?_
  · cases p with
    | none =>
      (try rw [wpB_cons]); (try simp? only [osD])
      refine fun σ w hw => ?_
      exact hR _ _ ⟨σ, w, hw.1, by have := hw.2; omega, rfl, rfl⟩
    | some s =>
      (try rw [wpB_cons]); (try simp? only [osD])
      exact hR _ _ ⟨σ, s, (hp s rfl).1, (hp s rfl).2, rfl, rfl⟩
  rintro ρ S' ⟨σ, w, hw, hwl, rfl, rfl⟩
  (try rw [wpB_cons]); (try simp? only [])
  refine ⟨hn1, hn3, fun x hx => let h := hn x hx; ⟨h.1, h.2.1, by omega, by omega⟩, fun σ l0 ⟨l1, l2, hl0⟩ => ?_⟩
  have ly : ∀ {n : Nat}, Lt n (.int y) := lt_int
  have lt_ : Lt 6 (.str t) := lt_str (by omega)
  have lp : Lt 6 (osD p) := by
    cases p with
    | none => exact lt_non
    | some s => exact lt_str (by have := (hp s rfl).2; omega)
  have lv : Lt 6 (oiD v) := by
    cases v with
    | none => exact lt_non
    | some s => exact lt_int
  have nl : ∀ x ∈ ns.map Nm.d, Lt 5 x := fun x hx => by
    obtain ⟨m, hm, rfl⟩ := List.mem_map.mp hx
    have := hn m hm
    exact (Lt.tup (n := 0) (fun z hz => by
      simp only [List.mem_cons, List.not_mem_nil, or_false] at hz
      rcases hz with rfl | rfl
      · exact lt_str (by omega)
      · exact lt_str (by omega)) (by simp)).up (by omega)
  have ln : Lt 6 (.tup (ns.map Nm.d)) := Lt.tup nl (by simp; omega)
  have five : ∀ {n y t p v : D}, Lt 7 n → Lt 7 y → Lt 7 t → Lt 7 p → Lt 7 v → bokB (.tup [n, y, t, p, v]) = false → badB (.tup [n, y, t, p, v]) := fun a1 a2 a3 a4 a5 h => ⟨h, (Lt.tup (n := 7) (fun z hz => by
    simp only [List.mem_cons, List.not_mem_nil, or_false] at hz
    rcases hz with rfl | rfl | rfl | rfl | rfl <;> assumption) (by simp)).up (by omega)⟩
  refine lcW_map (src := none) (fun z => .tup [z, .int y, .str t, osD p, oiD v]) True.intro l0 [] (by rw [sizeLine_eq, List.length_nil]; omega) (fun z hz => ⟨_, rfl, fun K' h => ?_⟩) ?_
  · (try simp? only [])
    exact h
  (try simp? only [])
  intro q0 hq0
  have nN : Lt 7 (.tup (ns.map Nm.d)) := ln.up (by omega)
  have tT : Lt 7 (.str t) := lt_.up (by omega)
  have pP : Lt 7 (osD p) := lp.up (by omega)
  have vV : Lt 7 (oiD v) := lv.up (by omega)
  have new : ∀ (S1 : Sto) (q q2 : Addr) (L ys : List D) (x : Option D) (n m : Nat), MP.Sub S S1 → S1 q = none → q ≠ a → 1 ≤ L.length → L.length ≤ n → (∀ d ∈ L, badB d) → (q2 ≠ q ∧ q2 ≠ a ∧ S1 q2 = none) → ys.length ≤ m → (∀ d ∈ ys, badB d) → spI S a σ (.tup [.tup (ns.map Nm.d), .int y, .str t, osD p, oiD v]) far w (.tup (ns.map Nm.d)) (.int y) (.str t) (osD p) (oiD v) (n + m) [some (.ref a), some (.tup [.tup (ns.map Nm.d), .int y, .str t, osD p, oiD v]), some (.int far), some (.str w), some (.ref q2), x, some (.tup (ns.map Nm.d)), some (.int y), some (.str t), some (osD p), some (oiD v)] (supd (supd (supd S1 a σ.st) q (.lst L)) q2 (.lst (L ++ ys))) := fun S1 q q2 L ys x n m g1 g2 g3 g0 g4 g5 h0 h1 h2 => by
    refine ⟨supd S1 q (.lst L), q2, L ++ ys, x, g1.old g2, (if_neg h0.1).trans h0.2.2, h0.2.1, by rw [supd_comm g3], by rw [List.length_append]; omega, by rw [List.length_append]; omega, fun d hd => ?_, rfl⟩
    rcases List.mem_append.mp hd with hd | hd
    · exact g5 d hd
    · exact h2 d hd
  rw [wpB_cons]
  refine wpB_cut (spI S a σ (.tup [.tup (ns.map Nm.d), .int y, .str t, osD p, oiD v]) far w (.tup (ns.map Nm.d)) (.int y) (.str t) (osD p) (oiD v) 112) (fun R hR => ?_) ?_
  · (try rw [wpB_cons]); (try simp? only [r_str_i (i := y) (by omega)])
    generalize hY : [D.int 999, .int 3000, .int 0, .int (0 - y), .int (3000 + far), .int (-1 - far), .non, .str (decI y), .bl true, .tup [.int y], .lst [.int y], .tup []] = Y
    have hYp : Y.length = 12 ∧ ∀ z ∈ Y, btw 1000 2999 z = false ∧ Lt 7 z := by
      subst hY
      refine ⟨rfl, fun z hz => ?_⟩
      simp only [List.mem_cons, List.not_mem_nil, or_false] at hz
      rcases hz with rfl | rfl | rfl | rfl | rfl | rfl | rfl | rfl | rfl | rfl | rfl | rfl
      · exact ⟨by decide, lt_int⟩
      · exact ⟨by decide, lt_int⟩
      · exact ⟨by decide, lt_int⟩
      · exact ⟨by simp [btw]; omega, lt_int⟩
      · exact ⟨by simp [btw]; omega, lt_int⟩
      · exact ⟨by simp [btw]; omega, lt_int⟩
      · exact ⟨rfl, lt_non⟩
      · exact ⟨rfl, lt_str (by have := decI_len (i := y) (by omega) (by omega); omega)⟩
      · exact ⟨rfl, lt_bl⟩
      · exact ⟨rfl, rfl, rfl, by simp [dep, depL]⟩
      · exact ⟨rfl, rfl, rfl, by simp [dep, depL]⟩
      · exact ⟨rfl, rfl, rfl, by simp [dep, depL]⟩
    clear hY
    rw [← List.map_id Y]
    refine forW_lr id Y (fun dn ρ S' => spI S a σ (.tup [.tup (ns.map Nm.d), .int y, .str t, osD p, oiD v]) far w (.tup (ns.map Nm.d)) (.int y) (.str t) (osD p) (oiD v) (100 + dn.length) ρ S') ?_ ?_ _ _ ⟨S, q0, _, _, .refl S, hq0.2, hq0.1, rfl, by rw [List.length_map]; exact l1, by rw [List.length_map]; exact l2, fun d hd => ?_, rfl⟩
    · intro ρ S' h
      exact ⟨True.intro, hR _ _ (spI_up h (by rw [hYp.1]; omega))⟩
    · rintro dn z r e ρ S' ⟨S1, q, L, x, g1, g2, g3, rfl, g0, g4, g5, rfl⟩
      refine ⟨True.intro, _, rfl, fun nx hnx => ?_⟩
      have hz := hYp.2 z (by rw [← e]; simp)
      (try rw [wpB_cons]); (try simp? only [])
      have hd : dn.length ≤ 12 := by have := congrArg List.length e; simp at this; omega
      refine ⟨by omega, hnx _ _ ⟨S1, q, _, _, g1, g2, g3, rfl, by simp, by simp; omega, fun d hd => ?_, rfl⟩⟩
      rcases List.mem_append.mp hd with hd | hd
      · exact g5 d hd
      · rw [List.mem_singleton.mp hd]
        exact five nN hz.2 tT pP vV (bad_y hz.1)
    · obtain ⟨z, hz, rfl⟩ := List.mem_map.mp hd
      have h := hl0 z hz
      exact five h.2 lt_int tT pP vV (bad_n h.1)
  rintro ρ S' ⟨S1, q, L, x, g1, g2, g3, rfl, g0, g4, g5, rfl⟩
  rw [wpB_cons]
  refine wpB_cut (spI S a σ (.tup [.tup (ns.map Nm.d), .int y, .str t, osD p, oiD v]) far w (.tup (ns.map Nm.d)) (.int y) (.str t) (osD p) (oiD v) 132) (fun R hR => ?_) ?_
  · (try rw [wpB_cons]); (try simp? only [])
    refine ⟨ht, h2, fun l hl hb => ?_⟩
    refine lcW_map (src := none) (fun z => .tup [.tup (ns.map Nm.d), .int y, z, osD p, oiD v]) True.intro l [] (by rw [sizeLine_eq, List.length_nil]; omega) (fun z hz => ⟨_, rfl, fun K' h => ?_⟩) ?_
    · (try simp? only [])
      exact h
    (try simp? only [List.length_map])
    refine ⟨by omega, fun q2 hq2 => hR _ _ (new S1 q q2 L _ _ 112 20 g1 g2 g3 g0 g4 g5 hq2 (by rw [List.length_map]; omega) fun d hd => ?_)⟩
    obtain ⟨z, hz, rfl⟩ := List.mem_map.mp hd
    have h := hb z hz
    exact five nN lt_int (h.2.up (by omega)) pP vV (bad_t h.1)
  clear g0 g4 g5 g1 g2 g3 x L q S1
  rintro ρ S' ⟨S1, q, L, x, g1, g2, g3, rfl, g0, g4, g5, rfl⟩
  rw [wpB_cons]
  refine wpB_cut (spI S a σ (.tup [.tup (ns.map Nm.d), .int y, .str t, osD p, oiD v]) far w (.tup (ns.map Nm.d)) (.int y) (.str t) (osD p) (oiD v) 150) (fun R hR => ?_) ?_
  · (try rw [wpB_cons]); (try simp? only [])
    refine ⟨hw, hwl, fun l hl hb => ?_⟩
    refine lcW_map (src := none) (fun z => .tup [.tup (ns.map Nm.d), .int y, .str t, z, oiD v]) True.intro l [] (by rw [sizeLine_eq, List.length_nil]; omega) (fun z hz => ⟨_, rfl, fun K' h => ?_⟩) ?_
    · (try simp? only [])
      exact h
    (try simp? only [List.length_map])
    refine ⟨by omega, fun q2 hq2 => hR _ _ (new S1 q q2 L _ _ 132 18 g1 g2 g3 g0 g4 g5 hq2 (by rw [List.length_map]; omega) fun d hd => ?_)⟩
    obtain ⟨z, hz, rfl⟩ := List.mem_map.mp hd
    have h := hb z hz
    exact five nN lt_int tT (h.2.2.up (by omega)) vV (bad_p (by rw [h.1, h.2.1]; rfl))
  clear g0 g4 g5 g1 g2 g3 x L q S1
  rintro ρ S' ⟨S1, q, L, x, g1, g2, g3, rfl, g0, g4, g5, rfl⟩
  rw [wpB_cons]
  refine wpB_cut (spI S a σ (.tup [.tup (ns.map Nm.d), .int y, .str t, osD p, oiD v]) far w (.tup (ns.map Nm.d)) (.int y) (.str t) (osD p) (oiD v) 162) (fun R hR => ?_) ?_
  · (try rw [wpB_cons]); (try simp? only [])
    generalize hY : [D.int 0, .int 1000, .int (-1), .int (1000 + far), .int (-1 - far), .str [49], .str [], .bl true, .bl false, .tup [.int 1], .lst [], .tup []] = Y
    have hYp : Y.length = 12 ∧ ∀ z ∈ Y, (MP.isNon z || btw 1 999 z) = false ∧ Lt 7 z := by
      subst hY
      refine ⟨rfl, fun z hz => ?_⟩
      simp only [List.mem_cons, List.not_mem_nil, or_false] at hz
      rcases hz with rfl | rfl | rfl | rfl | rfl | rfl | rfl | rfl | rfl | rfl | rfl | rfl
      · exact ⟨by decide, lt_int⟩
      · exact ⟨by decide, lt_int⟩
      · exact ⟨by decide, lt_int⟩
      · exact ⟨by simp [btw, MP.isNon]; omega, lt_int⟩
      · exact ⟨by simp [btw, MP.isNon]; omega, lt_int⟩
      · exact ⟨rfl, lt_str (by decide)⟩
      · exact ⟨rfl, lt_str (by decide)⟩
      · exact ⟨rfl, lt_bl⟩
      · exact ⟨rfl, lt_bl⟩
      · exact ⟨rfl, rfl, rfl, by simp [dep, depL]⟩
      · exact ⟨rfl, rfl, rfl, by simp [dep, depL]⟩
      · exact ⟨rfl, rfl, rfl, by simp [dep, depL]⟩
    clear hY
    rw [← List.map_id Y]
    refine forW_lr id Y (fun dn ρ S' => spI S a σ (.tup [.tup (ns.map Nm.d), .int y, .str t, osD p, oiD v]) far w (.tup (ns.map Nm.d)) (.int y) (.str t) (osD p) (oiD v) (150 + dn.length) ρ S') ?_ ?_ _ _ ⟨S1, q, L, _, g1, g2, g3, rfl, g0, g4, g5, rfl⟩
    · intro ρ S' h
      exact ⟨True.intro, hR _ _ (spI_up h (by rw [hYp.1]; omega))⟩
    · clear g0 g4 g5 g1 g2 g3 x L q S1
      rintro dn z r e ρ S' ⟨S1, q, L, x, g1, g2, g3, rfl, g0, g4, g5, rfl⟩
      refine ⟨True.intro, _, rfl, fun nx hnx => ?_⟩
      have hz := hYp.2 z (by rw [← e]; simp)
      (try rw [wpB_cons]); (try simp? only [])
      have hd : dn.length ≤ 12 := by have := congrArg List.length e; simp at this; omega
      refine ⟨by omega, hnx _ _ ⟨S1, q, _, _, g1, g2, g3, rfl, by simp, by simp; omega, fun d hd => ?_, rfl⟩⟩
      rcases List.mem_append.mp hd with hd | hd
      · exact g5 d hd
      · rw [List.mem_singleton.mp hd]
        exact five nN lt_int tT pP hz.2 (bad_v hz.1)
  clear g0 g4 g5 g1 g2 g3 x L q S1
  rintro ρ S' ⟨S1, q, L, x, g1, g2, g3, rfl, g0, g4, g5, rfl⟩
  match ns, hn1, hn3, hn, nl, nN, new with
  | n :: r, hn1, hn3, hn, nl, nN, new =>
  have c1 : cutL (D.tup [.str n.f, .str n.g] :: r.map Nm.d) (some 1) none = r.map Nm.d := cutd _ 1
  have hr : r.length ≤ 2 := by simp at hn3; omega
  have lN : Lt 5 (.lst [.str n.f, .str n.g]) := by
    have := hn n (List.mem_cons_self ..)
    exact (Lt.lst (n := 0) (fun z hz => by
      simp only [List.mem_cons, List.not_mem_nil, or_false] at hz
      rcases hz with rfl | rfl
      · exact lt_str (by omega)
      · exact lt_str (by omega)) (by simp)).up (by omega)
  have m5 : ∀ z ∈ [D.tup ((n :: r).map Nm.d), .int y, .str t, osD p, oiD v], Lt 7 z := fun z hz => by
    simp only [List.mem_cons, List.not_mem_nil, or_false] at hz
    rcases hz with rfl | rfl | rfl | rfl | rfl
    · exact nN
    · exact lt_int
    · exact tT
    · exact pP
    · exact vV
  rw [wpB_cons]
  refine wpB_cut (spI S a σ (.tup [.tup ((n :: r).map Nm.d), .int y, .str t, osD p, oiD v]) far w (.tup ((n :: r).map Nm.d)) (.int y) (.str t) (osD p) (oiD v) 164) (fun R hR => ?_) ?_
  · (try rw [wpB_cons]); (try simp? only [Nm.d, c1, List.length_map])
    refine ⟨by omega, by omega, fun q2 hq2 => hR _ _ (new S1 q q2 L _ _ 162 2 g1 g2 g3 g0 g4 g5 hq2 (by simp) fun d hd => ?_)⟩
    simp only [List.mem_cons, List.not_mem_nil, or_false] at hd
    rcases hd with rfl | rfl
    · exact ⟨rfl, (Lt.lst (n := 7) m5 (by simp)).up (by omega)⟩
    · exact five ((Lt.lst (n := 5) (fun z hz => by
        rcases List.mem_cons.mp hz with rfl | hz
        · exact lN
        · exact nl z (List.mem_cons_of_mem _ hz)) (by simp; omega)).up (by omega)) lt_int tT pP vV (bad_n rfl)
  clear g0 g4 g5 g1 g2 g3 x L q S1
  rintro ρ S' ⟨S1, q, L, x, g1, g2, g3, rfl, g0, g4, g5, rfl⟩
  rw [wpB_cons]
  refine wpB_cut (spI S a σ (.tup [.tup ((n :: r).map Nm.d), .int y, .str t, osD p, oiD v]) far w (.tup ((n :: r).map Nm.d)) (.int y) (.str t) (osD p) (oiD v) 165) (fun R hR => ?_) ?_
  · (try rw [wpB_cons]); (try simp? only [Nm.d, c1, List.length_map])
    refine ⟨by omega, by omega, hR _ _ ⟨S1, q, _, _, g1, g2, g3, rfl, by simp, by simp; omega, fun d hd => ?_, rfl⟩⟩
    rcases List.mem_append.mp hd with hd | hd
    · exact g5 d hd
    · rw [List.mem_singleton.mp hd]
      refine five ((Lt.tup (n := 5) (fun z hz => by
        rcases List.mem_cons.mp hz with rfl | hz
        · exact lN
        · exact nl z (List.mem_cons_of_mem _ hz)) (by simp; omega)).up (by omega)) lt_int tT pP vV (bad_n ?_)
      show (_ && List.all _ _) = false
      rw [List.all_cons, show namB (.lst [.str n.f, .str n.g]) = false from rfl, Bool.false_and, Bool.and_false]
  clear g0 g4 g5 g1 g2 g3 x L q S1
  rintro ρ S' ⟨S1, q, L, x, g1, g2, g3, rfl, g0, g4, g5, rfl⟩
  rw [wpB_cons]
  refine wpB_cut (spI S a σ (.tup [.tup ((n :: r).map Nm.d), .int y, .str t, osD p, oiD v]) far w (.tup ((n :: r).map Nm.d)) (.int y) (.str t) (osD p) (oiD v) 176) (fun R hR => ?_) ?_
  · have c4 : ∀ n y t p v : D, cutL [n, y, t, p, v] none (some 4) = [n, y, t, p] := fun n y t p v => cutk [n, y, t, p, v] 4
    have c3 : ∀ n y t p v : D, cutL [n, y, t, p, v] none (some 3) = [n, y, t] := fun n y t p v => cutk [n, y, t, p, v] 3
    (try rw [wpB_cons]); (try simp? only [c4, c3, List.length_map])
    refine ⟨by omega, fun q2 hq2 => hR _ _ (new S1 q q2 L _ _ 165 11 g1 g2 g3 g0 g4 g5 hq2 (by simp) fun d hd => ?_)⟩
    simp only [List.mem_cons, List.not_mem_nil, or_false] at hd
    rcases hd with rfl | rfl | rfl | rfl | rfl | rfl | rfl | rfl | rfl | rfl | rfl
    · exact ⟨rfl, (Lt.tup (n := 7) (fun z hz => m5 z (by simp only [List.mem_cons, List.not_mem_nil, or_false] at hz ⊢; rcases hz with rfl | rfl | rfl | rfl <;> simp)) (by simp)).up (by omega)⟩
    · exact ⟨rfl, (Lt.tup (n := 7) (fun z hz => by
        simp only [List.mem_cons, List.not_mem_nil, or_false] at hz
        rcases hz with rfl | rfl | rfl | rfl | rfl | rfl
        · exact nN
        · exact lt_int
        · exact tT
        · exact pP
        · exact vV
        · exact lt_non) (by simp)).up (by omega)⟩
    · exact ⟨rfl, (Lt.tup (n := 7) (fun z hz => m5 z (by simp only [List.mem_cons, List.not_mem_nil, or_false] at hz ⊢; rcases hz with rfl | rfl | rfl <;> simp)) (by simp)).up (by omega)⟩
    · exact ⟨rfl, rfl, rfl, by simp [dep, depL]⟩
    · exact ⟨rfl, lt_non⟩
    · exact ⟨rfl, lt_int⟩
    · exact ⟨rfl, lt_bl⟩
    · exact ⟨rfl, lt_bl⟩
    · exact ⟨rfl, lt_str (by decide)⟩
    · exact ⟨rfl, lt_str (by omega)⟩
    · exact ⟨rfl, (Lt.tup (n := 8) (fun z hz => by rw [List.mem_singleton.mp hz]; exact Lt.tup (n := 7) m5 (by simp)) (by simp)).up (by omega)⟩
  clear g0 g4 g5 g1 g2 g3 x L q S1
  rintro ρ S' ⟨S1, q, L, x, g1, g2, g3, rfl, g0, g4, g5, rfl⟩
  rw [wpB_cons]
  refine wpB_cut (spI S a σ (.tup [.tup ((n :: r).map Nm.d), .int y, .str t, osD p, oiD v]) far w (.tup ((n :: r).map Nm.d)) (.int y) (.str t) (osD p) (oiD v) 179) (fun R hR => ?_) ?_
  · (try rw [wpB_cons]); (try simp? only [List.length_map])
    refine ⟨by omega, fun q2 hq2 => hR _ _ (new S1 q q2 L _ _ 176 3 g1 g2 g3 g0 g4 g5 hq2 (by simp) fun d hd => ?_)⟩
    simp only [List.mem_cons, List.not_mem_nil, or_false] at hd
    rcases hd with rfl | rfl | rfl
    · exact ⟨rfl, (Lt.tup (n := 7) (fun z hz => m5 z (by simp only [List.mem_cons, List.not_mem_nil, or_false] at hz ⊢; rcases hz with rfl | rfl | rfl <;> simp)) (by simp)).up (by omega)⟩
    · exact five nN tT lt_int pP vV (bad_y rfl)
    · exact five vV pP tT lt_int nN (bad_n (by cases v <;> rfl))
  clear g0 g4 g5 g1 g2 g3 x L q S1
  rintro ρ S' ⟨S1, q, L, x, g1, g2, g3, rfl, g0, g4, g5, rfl⟩
  (try rw [wpB_cons]); (try simp? only [])
  obtain ⟨S'', k, kq⟩ := q2 σ (L ++ [D.tup [.int y, .tup ((n :: r).map Nm.d), .str t, osD p, oiD v]]) ⟨by simp, by simp; omega, fun d hd => by
    rcases List.mem_append.mp hd with hd | hd
    · exact g5 d hd
    · rw [List.mem_singleton.mp hd]
      exact five lt_int nN tT pP vV (bad_n rfl)⟩
  exact ⟨by omega, S'', (k.trans g1.upd).old ((if_neg g3).trans g2), kq⟩

end K02
-- v2 k02
set_option Elab.async false
set_option linter.all false
set_option maxRecDepth 100000
set_option maxHeartbeats 8000000
namespace K02
open PySem PySem.Spec PyProof.Rows L2 MP
theorem d__law_near : Does gk T__law_near s__law_near n__law_near P__law_near m__law_near (gk.sp i__law_near) := by
  refine ⟨sc__law_near, c__law_near, (by rintro ds S Q E ⟨a, b, rfl, hb, q⟩; rfl), ?_⟩
  rintro ds S Q E ⟨a, b, rfl, hb, q⟩
  obtain ⟨S, σ, rfl, q2⟩ := drF_go q
  clear q
  obtain ⟨ns, y, t, p, v⟩ := b
  obtain ⟨ok, h1, h2, h3⟩ := hb
  have hn1 : 1 ≤ ns.length := ok.n1
  have hn3 : ns.length ≤ 3 := ok.n3
  have hy := ok.yr
  have ht := ok.ti
  have hv := ok.vo
  have hp : ∀ s, p = some s → famL s = true ∧ s.length ≤ 1000 := fun s e => ⟨ok.pl s e, h3 s e⟩
  have hn : ∀ x ∈ ns, famL x.f = true ∧ givL x.g = true ∧ x.f.length ≤ 8 ∧ x.g.length ≤ 8 := fun x hx => ⟨(ok.nm x hx).1, (ok.nm x hx).2, h1 x hx⟩
  simp only at h2 hy ht hv
  have fin : ∀ (σ : GstP Good) (ns' : List Nm) (y' : Int) (t' : List Nat) (p' : Option (List Nat)) (v' : Option Int), 1 ≤ ns'.length → ns'.length ≤ 3 → (∀ x ∈ ns', famL x.f = true ∧ givL x.g = true ∧ x.f.length ≤ 8 ∧ x.g.length ≤ 8) → 1000 ≤ y' ∧ y' ≤ 2999 → titL t' = true → t'.length ≤ 1000 → (∀ s, p' = some s → famL s = true ∧ s.length ≤ 1000) → (∀ i, v' = some i → 1 ≤ i ∧ i ≤ 999) →
      ∃ S'', MP.Sub S'' (supd S a σ.st) ∧ Q (.tup [.tup (ns'.map Nm.d), .int y', .str t', osD p', oiD v']) S'' := fun σ ns' y' t' p' v' a1 a2 a3 a4 a5 a6 a7 a8 => q2 σ ⟨ns', y', t', p', v'⟩ (bk_mk a1 a2 a3 a4 a5 a6 a7 a8)
  simp only [n__law_near, rho0, List.map_cons, List.map_nil, List.length_cons, List.length_nil, Nat.reduceAdd, Nat.reduceSub, Nat.zero_add, List.replicate, List.cons_append, List.nil_append, List.append_nil]; rw [m__law_near, wpB_cons]; simp? only [Bk.d]
  (try rw [wpB_cons]); (try simp? only [])
  refine fun σ k ⟨k0, k1⟩ => ?_
  by_cases e0 : k = 0
  · (try rw [wpB_cons]); (try simp? only [e0])
    by_cases hy2 : 2000 < y
    · (try simp? only [hy2])
      exact fin σ ns _ t p v hn1 hn3 hn (by omega) ht h2 hp hv
    · (try simp? only [hy2])
      exact fin σ ns _ t p v hn1 hn3 hn (by omega) ht h2 hp hv
  (try rw [wpB_cons]); (try simp? only [e0])
  have last : ∀ σ : GstP Good, wpB gk (m__law_near.drop 6) [some (.ref a), some (.tup [.tup (ns.map Nm.d), .int y, .str t, osD p, oiD v]), some (.int k), some (.tup (ns.map Nm.d)), some (.int y), some (.str t), some (osD p), some (oiD v)] (supd S a σ.st) (ctEnd Q E) := fun σ => by
    match ns, hn1, hn3, hn with
    | n :: r, hn1, hn3, hn =>
      have hN := hn n (List.mem_cons_self ..)
      have hR : ∀ x ∈ r, famL x.f = true ∧ givL x.g = true ∧ x.f.length ≤ 8 ∧ x.g.length ≤ 8 := fun x hx => hn x (List.mem_cons_of_mem _ hx)
      have hr : r.length ≤ 2 := by simp at hn3; omega
      have c1 : cutL (D.tup [.str n.f, .str n.g] :: r.map Nm.d) (some 1) none = r.map Nm.d := cutd _ 1
      have tail : wpB gk (m__law_near.drop 7) [some (.ref a), some (.tup [.tup (Nm.d n :: r.map Nm.d), .int y, .str t, osD p, oiD v]), some (.int k), some (.tup (Nm.d n :: r.map Nm.d)), some (.int y), some (.str t), some (osD p), some (oiD v)] (supd S a σ.st) (ctEnd Q E) := by
        simp only [m__law_near, List.drop_succ_cons, List.drop_zero]
        have c7 : cutL n.f none (some 7) = n.f.take 7 := cutk _ 7
        by_cases h8 : (n.f.length : Int) = 8
        · (try rw [wpB_cons]); (try simp? only [h8, Nm.d, c1, c7, List.length_map])
          refine ⟨by omega, ?_⟩
          refine fin σ (⟨n.f.take 7, n.g⟩ :: r) y t p v (by simp) (by simp; omega) (fun x hx => ?_) hy ht h2 hp hv
          rcases List.mem_cons.mp hx with rfl | hx
          · refine ⟨?_, hN.2.1, by show (n.f.take 7).length ≤ 8; rw [List.length_take]; omega, hN.2.2.2⟩
            have h := hN.1
            show famL (n.f.take 7) = true
            match hf : n.f, h with
            | [], h => cases h
            | c :: s, h =>
              simp only [famL, List.take_succ_cons, Bool.and_eq_true] at h ⊢
              exact ⟨h.1, allIn_of fun x hx => allIn_mem h.2 x (List.mem_of_mem_take hx)⟩
          · exact hR x hx
        · (try rw [wpB_cons]); (try simp? only [h8, Nm.d, c1, c7, List.length_map])
          refine ⟨by omega, by omega, ?_⟩
          refine fin σ (⟨n.f ++ [97], n.g⟩ :: r) y t p v (by simp) (by simp; omega) (fun x hx => ?_) hy ht h2 hp hv
          rcases List.mem_cons.mp hx with rfl | hx
          · refine ⟨?_, hN.2.1, by show (n.f ++ [97]).length ≤ 8; rw [List.length_append]; simp; omega, hN.2.2.2⟩
            have h := hN.1
            show famL (n.f ++ [97]) = true
            match hf : n.f, h with
            | [], h => cases h
            | c :: s, h =>
              simp only [famL, List.cons_append, Bool.and_eq_true, allIn_app] at h ⊢
              exact ⟨h.1, h.2, by decide⟩
          · exact hR x hx
      simp only [m__law_near, List.drop_succ_cons, List.drop_zero] at tail ⊢
      by_cases h4 : k = 4
      · subst h4
        match r, hr, hR, tail with
        | [], _, _, tail =>
          (try rw [wpB_cons]); (try simp? only [])
          exact tail
        | n2 :: r2, hr, hR, tail =>
          have hr2 : r2.length ≤ 1 := by simp at hr; omega
          have c2 : cutL (n.d :: n2.d :: r2.map Nm.d) (some 2) none = r2.map Nm.d := cutd _ 2
          have h1 : (1 : Int) < ((r2.length + 1 + 1 : Nat) : Int) := by omega
          have hne : ∀ {S : Sto} {Q : Post}, cmpR .ne n.d n2.d S Q = Q (.bl (!MP.eqb n.d n2.d)) S := fun {S Q} => cmp_ne rfl rfl (.inl (by simp [Nm.d, dep, depL]))
          (try rw [wpB_cons]); (try simp? only [h1, hne, c2, List.length_map])
          cases he : MP.eqb n.d n2.d with
          | true =>
            (try simp? only [he])
            exact tail
          | false =>
            (try simp? only [he])
            refine ⟨by omega, ?_⟩
            refine fin σ (n2 :: n :: r2) y t p v (by simp) (by simp; omega) (fun x hx => ?_) hy ht h2 hp hv
            rcases List.mem_cons.mp hx with rfl | hx
            · exact hR _ (List.mem_cons_self ..)
            · rcases List.mem_cons.mp hx with rfl | hx
              · exact hN
              · exact hR x (List.mem_cons_of_mem _ hx)
      · (try rw [wpB_cons]); (try simp? only [h4])
        exact tail
  simp only [m__law_near, List.drop_succ_cons, List.drop_zero] at last
  by_cases e1 : k = 1
  · subst e1
    by_cases h29 : (t.length : Int) < 29
    · (try rw [wpB_cons]); (try simp? only [h29])
      refine ⟨by omega, ?_⟩
      exact fin σ ns y (t ++ [32, 97]) p v hn1 hn3 hn hy (titL_app ht (by decide)) (by simp; omega) hp hv
    · (try rw [wpB_cons]); (try simp? only [h29])
      (try rw [wpB_cons]); (try simp? only [])
      (try rw [wpB_cons]); (try simp? only [])
      exact last σ
  (try rw [wpB_cons]); (try simp? only [e1])
  by_cases e2 : k = 2
  · subst e2
    cases p with
    | none =>
      (try rw [wpB_cons]); (try simp? only [osD])
      exact fun σ f hf => fin σ ns y t (some f) v hn1 hn3 hn hy ht h2 (fun s e => by cases e; exact ⟨hf.1, by have := hf.2; omega⟩) hv
    | some s0 =>
      (try rw [wpB_cons]); (try simp? only [osD])
      exact fun σ f hf => fin σ ns y t none v hn1 hn3 hn hy ht h2 (fun s e => by cases e) hv
  (try rw [wpB_cons]); (try simp? only [e2])
  by_cases e3 : k = 3
  · subst e3
    cases v with
    | none =>
      (try rw [wpB_cons]); (try simp? only [oiD])
      exact fin σ ns y t p (some 7) hn1 hn3 hn hy ht h2 hp (fun s e => by cases e; omega)
    | some s0 =>
      (try rw [wpB_cons]); (try simp? only [oiD])
      exact fin σ ns y t p none hn1 hn3 hn hy ht h2 hp (fun s e => by cases e)
  (try rw [wpB_cons]); (try simp? only [e3])
  exact last σ

end K02
-- v2 k02
set_option Elab.async false
set_option linter.all false
set_option maxRecDepth 100000
set_option maxHeartbeats 8000000
namespace K02
open PySem PySem.Spec PyProof.Rows L2 MP
theorem spl_ext {m : List Nat} (hm : (32 : Nat) ∉ m) : ∀ s acc : List Nat, ∃ L l, TL.spl [32] 0 acc s = L ++ [l] ∧ TL.spl [32] 0 acc (s ++ m) = L ++ [l ++ m]
  | [], acc => ⟨[], acc, by rw [TL.spl_nil]; rfl, by rw [List.nil_append, spl_no m acc hm]; rfl⟩
  | x :: s, acc => by
    by_cases e : x = 32
    · subst e
      obtain ⟨L, l, k1, k2⟩ := spl_ext hm s []
      refine ⟨acc :: L, l, ?_, ?_⟩
      · rw [TL.spl_hit (by rfl)]; simp [k1]
      · rw [List.cons_append, TL.spl_hit (by rfl)]; simp [k2]
    · obtain ⟨L, l, k1, k2⟩ := spl_ext hm s (acc ++ [x])
      refine ⟨L, l, ?_, ?_⟩
      · rw [TL.spl_miss (by simp [TL.pre]; exact fun z => e z), k1]
      · rw [List.cons_append, TL.spl_miss (by simp [TL.pre]; exact fun z => e z), k2]
theorem tit_ext {t m : List Nat} (h : titL t = true) (hm : allIn m SMLS = true) : titL (t ++ m) = true := by
  have nm : (32 : Nat) ∉ m := fun e => absurd (allIn_mem hm _ e) (by decide)
  obtain ⟨L, l, k1, k2⟩ := spl_ext nm t []
  simp only [titL, k1, k2] at h ⊢
  cases L with
  | nil =>
    simp only [List.nil_append, List.all_nil, Bool.and_true] at h ⊢
    cases l with
    | nil => cases h
    | cons c r =>
      simp only [famL, Bool.and_eq_true, List.cons_append, allIn_app] at h ⊢
      exact ⟨h.1, h.2, hm⟩
  | cons w L =>
    simp only [List.cons_append, List.all_append, List.all_cons, List.all_nil, Bool.and_true, Bool.and_eq_true] at h ⊢
    refine ⟨h.1, h.2.1, ?_⟩
    have := h.2.2
    simp only [smlW, Bool.and_eq_true, decide_eq_true_eq, allIn_app] at this ⊢
    exact ⟨fun e => this.1 (List.append_eq_nil_iff.mp e).1, this.2, hm⟩
theorem d__law_long : Does gk T__law_long s__law_long n__law_long P__law_long m__law_long (gk.sp i__law_long) := by
  refine ⟨sc__law_long, c__law_long, (by rintro ds S Q E ⟨a, b, rfl, hb, q⟩; rfl), ?_⟩
  rintro ds S Q E ⟨a, b, rfl, hb, q⟩
  obtain ⟨S, σ, rfl, q2⟩ := drF_go q
  clear q
  obtain ⟨ns, y, t, p, v⟩ := b
  obtain ⟨ok, h1, h2, h3⟩ := hb
  have hn1 : 1 ≤ ns.length := ok.n1
  have hn3 : ns.length ≤ 3 := ok.n3
  have hy := ok.yr
  have ht := ok.ti
  have hv := ok.vo
  have hp : ∀ s, p = some s → famL s = true ∧ s.length ≤ 1000 := fun s e => ⟨ok.pl s e, h3 s e⟩
  have hn : ∀ x ∈ ns, famL x.f = true ∧ givL x.g = true ∧ x.f.length ≤ 8 ∧ x.g.length ≤ 8 := fun x hx => ⟨(ok.nm x hx).1, (ok.nm x hx).2, h1 x hx⟩
  simp only at h2 hy ht hv
  simp only [n__law_long, rho0, List.map_cons, List.map_nil, List.length_cons, List.length_nil, Nat.reduceAdd, Nat.reduceSub, Nat.zero_add, List.replicate, List.cons_append, List.nil_append, List.append_nil]; rw [m__law_long, wpB_cons]; simp? only [Bk.d]
  (try rw [wpB_cons]); (try simp? only [])
  refine fun σ x ⟨x0, x1⟩ => ?_
  (try simp? only [(show (0 : Int) ≤ 9 + x ∧ 9 + x ≤ 1000 by omega)])
  refine fun σ m ⟨m1, m2⟩ => ?_
  have ml : m.length ≤ 300 := by omega
  match ns, hn1, hn3, hn with
  | n :: r, hn1, hn3, hn =>
    have hN := hn n (List.mem_cons_self ..)
    (try rw [wpB_cons]); (try simp? only [Nm.d])
    refine ⟨by omega, ?_⟩
    (try rw [wpB_cons]); (try simp? only [Nm.d])
    refine lc_map (src := none) (fun k : Nat => D.int k) (fun _ => D.str n.g) (List.range 9) True.intro (by rw [sizeLine_eq]; decide) (fun k hm => ⟨_, rfl, fun K' hK => ?_⟩) ?_
    · (try simp? only [])
      exact hK
    rw [show (List.range 9).map (fun _ => D.str n.g) = ((List.range 9).map fun _ => n.g).map D.str by rw [List.map_map]; rfl]
    have hg : givL ((List.range 9).map fun _ => n.g).flatten = true ∧ ((List.range 9).map fun _ => n.g).flatten.length ≤ 72 := by
      have h := hN.2.1
      simp only [givL, Bool.and_eq_true, decide_eq_true_eq] at h ⊢
      have e : ((List.range 9).map fun _ => n.g).flatten = n.g ++ (n.g ++ (n.g ++ (n.g ++ (n.g ++ (n.g ++ (n.g ++ (n.g ++ n.g))))))) := by simp [List.range_succ]
      rw [e]
      refine ⟨⟨fun z => h.1 (List.append_eq_nil_iff.mp z).1, by simp only [allIn_app, h.2, Bool.and_self]⟩, by simp only [List.length_append]; omega⟩
    have hs : (((List.range 9).map fun _ => n.g).map List.length).sum ≤ 72 := by rw [← List.length_flatten]; exact hg.2
    have c1 : cutL (D.tup [.str n.f, .str n.g] :: r.map Nm.d) (some 1) none = r.map Nm.d := cutd _ 1
    have hr : r.length ≤ 2 := by simp at hn3; omega
    (try simp? only [])
    rw [joinL_nil]
    refine ⟨by rw [Nat.mul_zero]; omega, ?_⟩
    generalize ((List.range 9).map fun _ => n.g).flatten = g9 at hg ⊢
    (try rw [wpB_cons]); (try simp? only [Nm.d])
    (try rw [wpB_cons]); (try simp? only [c1, List.length_map])
    (try rw [wpB_cons]); (try simp? only [c1, List.length_map])
    refine ⟨by omega, by omega, by omega, by rw [List.length_append]; simp; omega, by omega, by omega, fun σ d hd => q2 σ d ?_⟩
    have fin : ∀ (ns' : List Nm) (t' : List Nat) (p' : Option (List Nat)), 1 ≤ ns'.length → ns'.length ≤ 3 → (∀ x ∈ ns', famL x.f = true ∧ givL x.g = true ∧ x.f.length ≤ 1000 ∧ x.g.length ≤ 1000) → titL t' = true → t'.length ≤ 10000 → (∀ s, p' = some s → famL s = true ∧ s.length ≤ 10000) → bokB (.tup [.tup (ns'.map Nm.d), .int y, .str t', osD p', oiD v]) = true ∧ Lt 11 (.tup [.tup (ns'.map Nm.d), .int y, .str t', osD p', oiD v]) := fun ns' t' p' a1 a2 a3 a4 a5 a6 => by
      have h := Bk.mk_ok (b := ⟨ns', y, t', p', v⟩) a1 a2 (fun x hx => let h := a3 x hx; ⟨h.1, h.2.1, by omega, by omega⟩) hy a4 (by show t'.length ≤ _; omega) (fun s e => ⟨(a6 s e).1, by have := (a6 s e).2; omega⟩) hv
      exact ⟨h.ok, h.lt.up (by omega)⟩
    have hp' : ∀ s, p = some s → famL s = true ∧ s.length ≤ 10000 := fun s e => ⟨(hp s e).1, by have := (hp s e).2; omega⟩
    have hA : ∀ x ∈ n :: r, famL x.f = true ∧ givL x.g = true ∧ x.f.length ≤ 1000 ∧ x.g.length ≤ 1000 := fun x hx => let h := hn x hx; ⟨h.1, h.2.1, by omega, by omega⟩
    have hB : ∀ (n' : Nm), famL n'.f = true ∧ givL n'.g = true ∧ n'.f.length ≤ 1000 ∧ n'.g.length ≤ 1000 → ∀ x ∈ n' :: r, famL x.f = true ∧ givL x.g = true ∧ x.f.length ≤ 1000 ∧ x.g.length ≤ 1000 := fun n' h x hx => by
      rcases List.mem_cons.mp hx with rfl | hx
      · exact h
      · exact hA x (List.mem_cons_of_mem _ hx)
    have mne : smlW m = true := by
      simp only [smlW, Bool.and_eq_true, decide_eq_true_eq]
      refine ⟨fun e => ?_, m2⟩
      rw [e] at m1; simp at m1; omega
    have hfm : famL (n.f ++ m) = true := by
      have h := hN.1
      match hf : n.f, h with
      | [], h => cases h
      | c :: s, h =>
        simp only [famL, List.cons_append, Bool.and_eq_true, allIn_app] at h ⊢
        exact ⟨h.1, h.2, m2⟩
    simp only [List.mem_cons, List.not_mem_nil, or_false] at hd
    rcases hd with rfl | rfl | rfl | rfl | rfl
    · exact fin (⟨n.f ++ m, n.g⟩ :: r) t p hn1 hn3 (hB _ ⟨hfm, hN.2.1, by show (n.f ++ m).length ≤ _; rw [List.length_append]; omega, by show n.g.length ≤ _; omega⟩) ht (by omega) hp'
    · exact fin (n :: r) (t ++ m) p hn1 hn3 hA (tit_ext ht m2) (by rw [List.length_append]; omega) hp'
    · rw [List.append_assoc]
      exact fin (n :: r) (t ++ 32 :: m) p hn1 hn3 hA (titL_app ht mne) (by simp; omega) hp'
    · exact fin (n :: r) t (some (65 :: m)) hn1 hn3 hA ht (by omega) fun s e => by
        cases e
        refine ⟨?_, by simp; omega⟩
        simp only [famL, Bool.and_eq_true]
        exact ⟨by decide, m2⟩
    · exact fin (⟨n.f, g9⟩ :: r) t p hn1 hn3 (hB _ ⟨hN.1, hg.1, by show n.f.length ≤ _; omega, by show g9.length ≤ _; omega⟩) ht (by omega) hp'

end K02
-- v2 k02
set_option Elab.async false
set_option linter.all false
set_option maxRecDepth 100000
set_option maxHeartbeats 8000000
namespace K02
open PySem PySem.Spec PyProof.Rows L2 MP
theorem d__law_refused : Does gk T__law_refused s__law_refused n__law_refused P__law_refused m__law_refused (gk.sp i__law_refused) := by
  refine ⟨sc__law_refused, c__law_refused, (by rintro ds S Q E ⟨v, rfl, hv, q⟩; rfl), ?_⟩
  rintro ds S Q E ⟨v, rfl, hv, q⟩
  simp only [n__law_refused, rho0, List.map_cons, List.map_nil, List.length_cons, List.length_nil, Nat.reduceAdd, Nat.reduceSub, Nat.zero_add, List.replicate, List.cons_append, List.nil_append, List.append_nil]; rw [m__law_refused, wpB_cons]; simp? only []
  refine ⟨hv.2.up (by omega), fun b hb e => ?_, fun _ a d => ?_⟩
  · rw [← e, hv.1] at hb; cases hb
  · rw [u__law_same (hv.2.up (by omega))]
    exact ⟨S, .refl S, q⟩

end K02
-- v2 k02
set_option Elab.async false
set_option linter.all false
set_option maxRecDepth 100000
set_option maxHeartbeats 8000000
namespace K02
open PySem PySem.Spec PyProof.Rows L2 MP
theorem d__law_books_right : Does gk T__law_books_right s__law_books_right n__law_books_right P__law_books_right m__law_books_right (gk.sp i__law_books_right) := by
  refine ⟨sc__law_books_right, c__law_books_right, (by rintro ds S Q E ⟨a, p, bs, rfl, hpa, hsp, hl1, hl2, hbs, q⟩; rfl), ?_⟩
  rintro ds S Q E ⟨a, p, bs, rfl, hpa, hsp, hl1, hl2, hbs, q⟩
  obtain ⟨S, σ, rfl, q2⟩ := drF_go q
  clear q
  have hsp : S p = some (.lst (bs.map Bk.d)) := by
    have : supd S a σ.st p = S p := if_neg hpa
    rw [← this]; exact hsp
  have e : ∀ σ : GstP Good, supd S a σ.st = supd (supd S a σ.st) p (.lst (bs.map Bk.d)) := fun σ => (supd_id ((if_neg hpa).trans hsp)).symm
  rw [e]
  have hstab : ∀ σ : GstP Good, Stab (some p) (bs.map Bk.d) (supd (supd S a σ.st) p (.lst (bs.map Bk.d))) := fun σ => supd_same
  simp only [n__law_books_right, rho0, List.map_cons, List.map_nil, List.length_cons, List.length_nil, Nat.reduceAdd, Nat.reduceSub, Nat.zero_add, List.replicate, List.cons_append, List.nil_append, List.append_nil]; rw [m__law_books_right, wpB_cons]; simp? only []
  refine forW_lr Bk.d bs (fun _ ρ S' => S' = supd (supd S a σ.st) p (.lst (bs.map Bk.d)) ∧ ∃ x y z, ρ = [some (.ref a), some (.ref p), x, y, z]) ?_ ?_ _ _ ⟨rfl, _, _, _, rfl⟩
  · rintro ρ S' ⟨rfl, x, y, z, rfl⟩
    refine ⟨hstab σ, ?_⟩
    (try rw [wpB_cons]); (try simp? only [])
    have hb0 := hbs bs[0] (List.getElem_mem _)
    obtain ⟨N, bl, hN⟩ := last_of hl1
    have a1 : atI (bs.map Bk.d) (-1) = some bl.d := by rw [hN, List.map_append]; exact atI_m1 _ _
    have a0 : atI (bs.map Bk.d) 0 = some bs[0].d := atI_nat (j := 0) (by rw [List.getElem?_map, List.getElem?_eq_getElem (show 0 < bs.length by omega)]; rfl)
    have hbl : BkS bl := hbs bl (by rw [hN]; simp)
    (try rw [wpB_cons]); (try simp? only [])
    rw [ix_ref a1]
    (try simp? only [↓drF_at2 hpa])
    refine ⟨hbl, fun σ d hd => ?_⟩
    refine ⟨hd.2.up (by omega), ?_⟩
    rw [show bokB (id d) = true from hd.1]
    (try simp? only [])
    rw [ix_ref a0]
    (try simp? only [↓drF_at2 hpa])
    refine ⟨hb0, fun σ d hd => ?_⟩
    refine ⟨(Lt.tup (n := 11) (fun z hz => by rw [List.mem_singleton.mp hz]; exact hd.2) (by simp)).up (by omega), ?_⟩
    rw [show lisB (.tup [id d]) = true by simp [lisB, distD, hd.1]]
    (try simp? only [])
    (try rw [wpB_cons]); (try simp? only [])
    rw [ix_ref a0]
    (try simp? only [↓drF_at2 hpa])
    refine ⟨hb0, fun σ l ⟨l1, l2, hl⟩ => ?_⟩
    refine forW_all (src := none) (fun ρ S' => S' = supd (supd S a σ.st) p (.lst (bs.map Bk.d)) ∧ ∃ x y z, ρ = [some (.ref a), some (.ref p), x, y, z]) ?_ l ?_ _ _ ⟨rfl, _, _, _, rfl⟩
    · rintro ρ S' ⟨rfl, x, y, z, rfl⟩
      refine ⟨True.intro, ?_⟩
      obtain ⟨S'', g, gq⟩ := q2 σ () True.intro
      rw [← e σ]
      exact ⟨S'', g, gq⟩
    · rintro d hd ρ S' ⟨rfl, x, y, z, rfl⟩
      refine ⟨True.intro, _, rfl, fun nx hnx => ?_⟩
      have hd2 := hl d hd
      (try rw [wpB_cons]); (try simp? only [])
      refine ⟨hd2.2.up (by omega), ?_⟩
      rw [hd2.1]
      (try simp? only [])
      exact ⟨hd2, hnx _ _ ⟨rfl, _, _, _, rfl⟩⟩
  · rintro dn b r e0 ρ S' ⟨rfl, x, y, z, rfl⟩
    refine ⟨hstab σ, _, rfl, fun nx hnx => ?_⟩
    have hb : BkS b := hbs b (by rw [← e0]; simp)
    (try rw [wpB_cons]); (try simp? only [])
    refine ⟨hb.1.lt.up (by omega), ?_⟩
    rw [hb.1.ok]
    (try simp? only [])
    rw [show permV [0] [b.d] = [b.d] from rfl, u_is_book]
    refine ⟨hb.1.lt.up (by omega), ?_⟩
    rw [hb.1.ok]
    (try simp? only [])
    have hn1 := hb.1.n1
    have hn3 := hb.1.n3
    have hsame : ∀ {S : Sto} {Q : Post} {E : XPost}, gk.sp i_shape_of [b.d] S Q E = (Q (shpD b) S) := fun {S Q E} => by
      rw [u_shape_of]
      apply propext
      constructor
      · intro h; exact h.2.1 b hb.1.ok rfl
      · intro h
        refine ⟨hb.1.lt.up (by omega), fun b' _ e => ?_, fun e => ?_⟩
        · rw [Bk.d_eq] at e; subst e; exact h
        · rw [hb.1.ok] at e; cases e
    have hlt : Lt 11 (shpD b) := Lt.tup (n := 10) (fun z hz => by
      simp only [List.mem_cons, List.not_mem_nil, or_false] at hz
      rcases hz with rfl | rfl | rfl <;> exact lt_int) (by simp)
    have hsh : (SHP.any fun z => MP.eqb z (shpD b)) = true := by
      have h3 : b.ns.length = 1 ∨ b.ns.length = 2 ∨ b.ns.length = 3 := by omega
      unfold shpD
      rcases h3 with h | h | h <;> rw [h] <;> (split <;> split <;> rfl)
    have hshp : ∀ {S : Sto} {Q : Post}, cmpR .notin (shpD b) (.tup SHP) S Q = Q (.bl false) S := fun {S Q} => by
      rw [ni_t hlt.p rfl (.inl (Nat.le_trans hlt.d (by decide))), hsh]; rfl
    obtain ⟨ns, y0, t, p0, v⟩ := b
    cases p0 <;> cases v
    all_goals
      (try rw [wpB_cons]); (try simp? only [Bk.d, osD, oiD, List.length_map])
      (try rw [wpB_cons]); (try simp? only [Bk.d, osD, oiD, List.length_map])
      refine hsame.mpr ?_
      simp only [shpD, SHP, reduceCtorEq, if_true, if_false] at hsh hlt ⊢
      refine (u__law_same hlt).mpr ?_
      (try simp? only [hsh])
      exact hnx _ _ ⟨rfl, _, _, _, rfl⟩

end K02
-- v2 k02
set_option Elab.async false
set_option linter.all false
set_option maxRecDepth 100000
set_option maxHeartbeats 8000000
namespace K02
open PySem PySem.Spec PyProof.Rows L2 MP
theorem d__law_lists_right : Does gk T__law_lists_right s__law_lists_right n__law_lists_right P__law_lists_right m__law_lists_right (gk.sp i__law_lists_right) := by
  refine ⟨sc__law_lists_right, c__law_lists_right, (by rintro ds S Q E ⟨a, bs, rfl, hl1, hl2, hbs, hnd, q⟩; rfl), ?_⟩
  rintro ds S Q E ⟨a, bs, rfl, hl1, hl2, hbs, hnd, q⟩
  obtain ⟨S, σ, rfl, q2⟩ := drF_go q
  clear q
  simp only [n__law_lists_right, rho0, List.map_cons, List.map_nil, List.length_cons, List.length_nil, Nat.reduceAdd, Nat.reduceSub, Nat.zero_add, List.replicate, List.cons_append, List.nil_append, List.append_nil]; rw [m__law_lists_right, wpB_cons]; simp? only [List.length_map]
  refine ⟨by omega, by omega, ?_⟩
  rw [show (((bs.length : Nat) : Int) + 1).toNat = bs.length + 1 by omega]
  have lb : ∀ b ∈ bs, Lt 3 b.d := fun b hb => (hbs b hb).1.lt
  have ltL : ∀ xs : List D, xs.length ≤ 2000 → (∀ x ∈ xs, Lt 30 x) → Lt 60 (.tup xs) := fun xs h1 h2 => (Lt.tup (n := 30) h2 (by omega)).up (by omega)
  have good : ∀ cs : List Bk, cs.Sublist bs → lisB (.tup (cs.map Bk.d)) = true := fun cs hc => by
    show (List.all _ _ && distD _) = true
    rw [Bool.and_eq_true]
    refine ⟨List.all_eq_true.mpr fun x hx => ?_, (knd_bk.dist_iff cs).mpr (hnd.sublist hc)⟩
    obtain ⟨b, hb, rfl⟩ := List.mem_map.mp hx
    exact (hbs b (hc.subset hb)).1.ok
  have ltS : ∀ cs : List Bk, cs.Sublist bs → Lt 60 (.tup (cs.map Bk.d)) := fun cs hc => ltL _ (by rw [List.length_map]; have := hc.length_le; omega) fun x hx => by
    obtain ⟨b, hb, rfl⟩ := List.mem_map.mp hx
    exact (lb b (hc.subset hb)).up (by omega)
  refine forW_lr (fun k : Nat => D.int k) (List.range (bs.length + 1)) (fun _ ρ S' => S' = supd S a σ.st ∧ ∃ x, ρ = [some (.ref a), some (.lst (bs.map Bk.d)), x, none, none, none, none, none, none]) ?_ ?_ _ _ ⟨rfl, _, rfl⟩
  · rintro ρ S' ⟨rfl, x, rfl⟩
    refine ⟨True.intro, ?_⟩
    (try rw [wpB_cons]); (try simp? only [])
    (try rw [wpB_cons]); (try simp? only [List.length_map])
    refine ⟨by omega, by omega, fun σ k ⟨k0, k1⟩ => ?_⟩
    obtain ⟨k, rfl⟩ : ∃ t : Nat, k = t := ⟨k.toNat, by omega⟩
    have c1 : cutL (bs.map Bk.d) none (some (k : Int)) = (bs.take k).map Bk.d := by rw [cutk, List.map_take]
    have c2 : cutL (bs.map Bk.d) (some (k : Int)) none = (bs.drop k).map Bk.d := by rw [cutd, List.map_drop]
    (try rw [wpB_cons]); (try simp? only [c1, c2, List.length_map, List.length_append, List.length_take, List.length_drop])
    refine ⟨hl1, by omega, fun σ x hx => ⟨by omega, by omega, ?_⟩⟩
    obtain ⟨b, hb, rfl⟩ := List.mem_map.mp hx
    (try rw [wpB_cons]); (try simp? only [])
    have mid : ∀ d : D, Lt 20 d → Lt 60 (.tup ((bs.take k).map Bk.d ++ [d] ++ (bs.drop k).map Bk.d)) := fun d hd => ltL _ (by simp; omega) fun x hx => by
      rcases List.mem_append.mp hx with hx | hx
      · rcases List.mem_append.mp hx with hx | hx
        · obtain ⟨c, hc, rfl⟩ := List.mem_map.mp hx
          exact (lb c (List.mem_of_mem_take hc)).up (by omega)
        · rw [List.mem_singleton.mp hx]; exact hd.up (by omega)
      · obtain ⟨c, hc, rfl⟩ := List.mem_map.mp hx
        exact (lb c (List.mem_of_mem_drop hc)).up (by omega)
    have twice : lisB (.tup ((bs.take k).map Bk.d ++ [b.d] ++ (bs.drop k).map Bk.d)) = false := by
      rw [Bool.eq_false_iff]
      intro h
      have h : (List.all _ _ && distD _) = true := h
      rw [Bool.and_eq_true, show (bs.take k).map Bk.d ++ [b.d] ++ (bs.drop k).map Bk.d = (bs.take k ++ b :: bs.drop k).map Bk.d by simp, knd_bk.dist_iff] at h
      have h2 := (List.perm_middle.nodup_iff.mp h.2)
      rw [List.nodup_cons, List.take_append_drop] at h2
      exact h2.1 hb
    have spoil : ∀ d : D, bokB d = false → lisB (.tup ((bs.take k).map Bk.d ++ [d] ++ (bs.drop k).map Bk.d)) = false := fun d hd => by
      show (List.all _ _ && distD _) = false
      rw [List.all_append, List.all_append]
      simp only [List.all_cons, List.all_nil, hd, Bool.false_and, Bool.and_false]
    refine ⟨mid b.d ((lb b hb).up (by omega)), ?_⟩
    rw [show (id b.d : D) = b.d from rfl, twice]
    (try simp? only [])
    refine ⟨(Lt.lst (n := 3) (fun x hx => (by obtain ⟨c, hc, rfl⟩ := List.mem_map.mp hx; exact lb c hc)) (by simp; omega)).up (by omega), ?_⟩
    rw [show lisB (.lst (bs.map Bk.d)) = false from rfl]
    (try simp? only [])
    have a0 : atI (bs.map Bk.d) 0 = some bs[0].d := atI_nat (j := 0) (by rw [List.getElem?_map, List.getElem?_eq_getElem (show 0 < bs.length by omega)]; rfl)
    have hb0 := hbs bs[0] (List.getElem_mem _)
    (try rw [wpB_cons]); (try simp? only [])
    rw [ix_lst a0]
    (try rw [wpB_cons]); (try simp? only [])
    refine ⟨hb0, fun σ l ⟨l1, l2, hl⟩ => ?_⟩
    (try rw [wpB_cons]); (try simp? only [])
    generalize hv4 : D.lst (List.map Bk.d (List.take k bs) ++ [b.d] ++ List.map Bk.d (List.drop k bs)) = v4
    refine forW_lr (fun k : Nat => D.int k) (List.range 6) (fun _ ρ S' => ∃ (σ : GstP Good), S' = supd S a σ.st ∧ ∃ x6 x8, ρ = [some (.ref a), some (.lst (bs.map Bk.d)), x, some (.int k), some v4, some (.lst l), x6, none, x8]) ?_ ?_ _ _ ⟨σ, rfl, _, _, rfl⟩
    · rintro ρ S' ⟨σ, rfl, x6, x8, rfl⟩
      refine ⟨True.intro, ?_⟩
      (try rw [wpB_cons]); (try simp? only [])
      (try rw [wpB_cons]); (try simp? only [])
      rw [ix_lst a0]
      (try rw [wpB_cons]); (try simp? only [])
      have lB : Lt 5 (.tup (bs.map Bk.d)) := (Lt.tup (n := 3) (fun x hx => (by obtain ⟨c, hc, rfl⟩ := List.mem_map.mp hx; exact lb c hc)) (by simp; omega)).up (by omega)
      have lB2 : Lt 5 (.lst (bs.map Bk.d)) := (Lt.lst (n := 3) (fun x hx => (by obtain ⟨c, hc, rfl⟩ := List.mem_map.mp hx; exact lb c hc)) (by simp; omega)).up (by omega)
      have bt : bokB (.tup (bs.map Bk.d)) = false := by
        match hbs0 : bs with
        | [c1, c2, c3, c4, c5] => exact bad_n rfl
        | [] => rfl
        | [_] => exact bad_len (by simp)
        | [_, _] => exact bad_len (by simp)
        | [_, _, _] => exact bad_len (by simp)
        | [_, _, _, _] => exact bad_len (by simp)
        | _ :: _ :: _ :: _ :: _ :: _ :: _ => exact bad_len (by simp)
      have bk : lisB bs[0].d = false := by
        have h3 := hb0.1.n3
        show (List.all _ _ && distD _) = false
        rw [List.all_cons, show bokB (.tup (bs[0].ns.map Nm.d)) = false from bad_len (by rw [List.length_map]; omega)]
        rfl
      refine forW_all (src := none) (fun ρ S' => S' = supd S a σ.st ∧ ∃ x7, ρ = [some (.ref a), some (.lst (bs.map Bk.d)), x, some (.int k), some v4, some (.lst l), x6, x7, x8]) ?_ _ ?_ _ _ ⟨rfl, _, rfl⟩
      · rintro ρ S' ⟨rfl, x7, rfl⟩
        exact ⟨True.intro, q2 σ () True.intro⟩
      · intro d hd ρ S'
        rintro ⟨rfl, x7, rfl⟩
        refine ⟨True.intro, _, rfl, fun nx hnx => ?_⟩
        have hd2 : lisB d = false ∧ Lt 60 d := by
          simp only [List.mem_cons, List.not_mem_nil, or_false] at hd
          rcases hd with rfl | rfl | rfl | rfl | rfl | rfl | rfl | rfl | rfl | rfl
          · exact ⟨rfl, lt_non⟩
          · exact ⟨rfl, lt_int⟩
          · exact ⟨rfl, lt_bl⟩
          · exact ⟨rfl, lt_str (by decide)⟩
          · exact ⟨rfl, lt_str (by decide)⟩
          · exact ⟨bk, hb0.1.lt.up (by omega)⟩
          · exact ⟨rfl, (Lt.tup (n := 5) (fun z hz => by rw [List.mem_singleton.mp hz]; exact lB2) (by simp)).up (by omega)⟩
          · refine ⟨?_, (Lt.tup (n := 5) (fun z hz => by rw [List.mem_singleton.mp hz]; exact lB) (by simp)).up (by omega)⟩
            simp [lisB, bt]
          · exact ⟨rfl, rfl, rfl, by simp [dep, depL]⟩
          · exact ⟨rfl, rfl, rfl, by simp [dep, depL]⟩
        (try rw [wpB_cons]); (try simp? only [])
        refine ⟨hd2.2, ?_⟩
        rw [hd2.1]
        (try simp? only [])
        exact hnx _ _ ⟨rfl, _, rfl⟩
    · rintro dn j r e ρ S' ⟨σ, rfl, x6, x8, rfl⟩
      refine ⟨True.intro, _, rfl, fun nx hnx => ?_⟩
      (try rw [wpB_cons]); (try simp? only [])
      refine ⟨l1, by omega, fun σ d hd => ?_⟩
      have hd2 := hl d hd
      (try rw [wpB_cons]); (try simp? only [c1, c2, List.length_map, List.length_append, List.length_take, List.length_drop])
      refine ⟨by omega, by omega, mid _ (hd2.2.up (by omega)), ?_⟩
      rw [show lisB (.tup ((bs.take k).map Bk.d ++ [id d] ++ (bs.drop k).map Bk.d)) = false from spoil d hd2.1]
      (try simp? only [])
      refine ⟨(Lt.tup (n := 11) (fun z hz => by rw [List.mem_singleton.mp hz]; exact hd2.2) (by simp)).up (by omega), ?_⟩
      rw [show lisB (.tup [id d]) = false by simp [lisB, hd2.1]]
      (try simp? only [])
      exact hnx _ _ ⟨σ, rfl, _, _, rfl⟩
  · rintro dn k r e ρ S' ⟨rfl, x, rfl⟩
    refine ⟨True.intro, _, rfl, fun nx hnx => ?_⟩
    have c1 : cutL (bs.map Bk.d) none (some (k : Int)) = (bs.take k).map Bk.d := by rw [cutk, List.map_take]
    have c2 : cutL (bs.map Bk.d) (some (k : Int)) none = (bs.drop k).map Bk.d := by rw [cutd, List.map_drop]
    (try rw [wpB_cons]); (try simp? only [c1, c2])
    refine ⟨ltS _ (List.take_sublist ..), ?_⟩
    rw [good _ (List.take_sublist ..)]
    (try simp? only [c2])
    rw [show permV [0] [D.tup (List.map Bk.d (List.drop k bs))] = [D.tup (List.map Bk.d (List.drop k bs))] from rfl, u_is_list, good _ (List.drop_sublist ..)]
    refine ⟨ltS _ (List.drop_sublist ..), ?_⟩
    (try simp? only [])
    exact hnx _ _ ⟨rfl, _, rfl⟩

end K02
-- v2 k02
set_option Elab.async false
set_option linter.all false
set_option maxRecDepth 100000
set_option maxHeartbeats 8000000
namespace K02
open PySem PySem.Spec PyProof.Rows L2 MP
theorem bk_pl : ∀ bs : List Bk, plainL (bs.map Bk.d) = true
  | [] => rfl
  | b :: bs => by rw [List.map_cons, plL_cons, bk_pl bs, shp_plain _ (knd_bk.s b)]; rfl
theorem d_law : Does gk T_law s_law n_law P_law m_law (gk.sp i_law) := by
  refine ⟨sc_law, c_law, (by rintro ds S Q E ⟨ns, rfl, hQ⟩; rfl), ?_⟩
  rintro ds S Q E ⟨ns, rfl, hQ⟩
  simp only [n_law, rho0, List.map_cons, List.map_nil, List.length_cons, List.length_nil, Nat.reduceAdd, Nat.reduceSub, Nat.zero_add, List.replicate, List.cons_append, List.nil_append, List.append_nil]; rw [m_law, wpB_cons]; simp? only []
  refine fun a σ ha => ?_
  (try rw [wpB_cons]); (try simp? only [])
  (try rw [wpB_cons]); (try simp? only [])
  have e3 : (List.map (fun k : Nat => D.int (1 + (k : Int))) (List.range 3)) = [1, 2, 3].map fun k : Nat => D.int k := rfl
  rw [e3]
  refine forW_lr (fun k : Nat => D.int k) [1, 2, 3] (fun dn ρ S' => S' = supd S a σ.st ∧ ∃ x, ρ = [some (.scr (ns.map .int)), some (.ref a), some (.lst (dn.flatMap fun k : Nat => [.tup [.int k, .int 0, .int 0], .tup [.int k, .int 0, .int 1], .tup [.int k, .int 1, .int 0], .tup [.int k, .int 1, .int 1]])), x, none, none, none]) ?_ ?_ _ _ ⟨rfl, _, rfl⟩
  · rintro ρ S' ⟨rfl, x, rfl⟩
    refine ⟨True.intro, ?_⟩
    have hS : (List.flatMap (fun k : Nat => [D.tup [.int k, .int 0, .int 0], .tup [.int k, .int 0, .int 1], .tup [.int k, .int 1, .int 0], .tup [.int k, .int 1, .int 1]]) [1, 2, 3]) = SHP := rfl
    rw [hS]
    (try rw [wpB_cons]); (try simp? only [])
    (try rw [wpB_cons]); (try simp? only [])
    refine (u__law_same (x := .tup SHP) ⟨rfl, rfl, by show dep (.tup SHP) ≤ 11; simp only [SHP, dep, depL]; decide⟩).mpr ?_
    (try rw [wpB_cons]); (try simp? only [])
    (try rw [wpB_cons]); (try simp? only [])
    refine fun σ b0 hb0 => ?_
    (try rw [wpB_cons]); (try simp? only [])
    refine fun q hq => ?_
    (try rw [wpB_cons]); (try simp? only [↓drF_at2 hq.1])
    refine fun σ n ⟨n0, n1⟩ => ⟨by omega, by omega, ?_⟩
    obtain ⟨m, rfl⟩ : ∃ t : Nat, n = t := ⟨n.toNat, by omega⟩
    rw [Int.toNat_natCast]
    have hsd : ∀ (σ : GstP Good) (o : Ob), sdel (supd (supd S a σ.st) q o) q = supd S a σ.st := fun σ o => sdel_supd ((if_neg hq.1).trans hq.2)
    refine forW_lr (fun k : Nat => D.int k) (List.range m) (fun dn ρ S' => ∃ (σ : GstP Good) (bs : List Bk) (x5 x6 : Option D), 1 ≤ bs.length ∧ bs.length ≤ 1 + dn.length ∧ (∀ b ∈ bs, BkS b) ∧ bs.Nodup ∧ S' = supd (supd S a σ.st) q (.lst (bs.map Bk.d)) ∧ ρ = [some (.scr (ns.map .int)), some (.ref a), some (.lst SHP), x, some (.ref q), x5, x6]) ?_ ?_ _ _ ⟨σ, [b0], _, _, by simp, by simp, fun b hb => (by rw [List.mem_singleton.mp hb]; exact hb0), by simp, rfl, rfl⟩
    · rintro ρ S' ⟨σ, bs, x5, x6, h1, h2, h3, h4, rfl, rfl⟩
      rw [List.length_range] at h2
      refine ⟨True.intro, ?_⟩
      (try rw [wpB_cons]); (try simp? only [])
      refine ⟨hq.1, h1, by omega, h3, ?_⟩
      rw [drF_at2 hq.1]
      refine fun σ _ _ => ?_
      (try simp? only [hsd])
      refine ⟨h1, by omega, h3, h4, fun σ _ _ => ?_⟩
      exact ⟨S, .new ha, hQ⟩
    · rintro dn j r e ρ S' ⟨σ, bs, x5, x6, h1, h2, h3, h4, rfl, rfl⟩
      refine ⟨True.intro, _, rfl, fun nx hnx => ?_⟩
      have hk := range_at e
      have hni : ∀ (σ : GstP Good) (b : Bk), BkS b → ∀ {Q : Post}, cmpR .notin b.d (.ref q) (supd (supd S a σ.st) q (.lst (bs.map Bk.d))) Q = Q (.bl (!decide (b ∈ bs))) (supd (supd S a σ.st) q (.lst (bs.map Bk.d))) := fun σ b hb {Q} => by
        rw [ni_r hb.1.lt.p (bk_pl bs) (.inl (Nat.le_trans hb.1.lt.d (by decide))), knd_bk.any]
      have finA : ∀ (σ : GstP Good) (b : Bk), nx [some (.scr (ns.map .int)), some (.ref a), some (.lst SHP), x, some (.ref q), some (.int j), some b.d] (supd (supd S a σ.st) q (.lst (bs.map Bk.d))) := fun σ b =>
        hnx _ _ ⟨σ, bs, _, _, h1, by rw [List.length_append]; simp; omega, h3, h4, rfl, rfl⟩
      have finB : ∀ (σ : GstP Good) (b : Bk), BkS b → ¬ b ∈ bs → nx [some (.scr (ns.map .int)), some (.ref a), some (.lst SHP), x, some (.ref q), some (.int j), some b.d] (supd (supd S a σ.st) q (.lst (bs.map Bk.d ++ [b.d]))) := fun σ b hb hm => by
        refine hnx _ _ ⟨σ, bs ++ [b], _, _, by simp, by simp; omega, fun c hc => ?_, ?_, by simp, rfl⟩
        · rcases List.mem_append.mp hc with hc | hc
          · exact h3 c hc
          · rw [List.mem_singleton.mp hc]; exact hb
        · rw [List.nodup_append]
          exact ⟨h4, by simp, fun c hc d hd => by rw [List.mem_singleton.mp hd]; exact fun e => hm (e ▸ hc)⟩
      (try rw [wpB_cons]); (try simp? only [↓drF_at2 hq.1])
      refine fun σ b hb => ?_
      (try rw [wpB_cons]); (try simp? only [↓drF_at2 hq.1])
      refine fun σ k ⟨k0, k1⟩ => ?_
      by_cases hk1 : k = 1
      · (try simp? only [hk1, ↓t__law_pick hq.1, ↓drF_at2 hq.1, List.length_map])
        refine ⟨h1, by omega, fun σ d hd => ?_⟩
        obtain ⟨c, hc, rfl⟩ := List.mem_map.mp hd
        rw [show (id c.d : D) = c.d from rfl]
        (try simp? only [↓drF_at2 hq.1])
        refine ⟨h3 c hc, fun σ b hb => ?_⟩
        by_cases hm : b ∈ bs
        · (try simp? only [hni σ b hb, hm])
          exact finA σ b
        · (try simp? only [hni σ b hb, hm, List.length_map])
          exact ⟨by omega, finB σ b hb hm⟩
      · rw [if_neg hk1]
        by_cases hm : b ∈ bs
        · (try simp? only [hni σ b hb, hm])
          exact finA σ b
        · (try simp? only [hni σ b hb, hm, List.length_map])
          exact ⟨by omega, finB σ b hb hm⟩
  · rintro dn k r e ρ S' ⟨rfl, x, rfl⟩
    refine ⟨True.intro, _, rfl, fun nx hnx => ?_⟩
    have hdl : dn.length < 3 := by have := congrArg List.length e; simp at this; omega
    (try simp? only [])
    have h := hnx _ _ ⟨rfl, some (.int k), rfl⟩
    rw [List.flatMap_append, List.flatMap_singleton] at h
    refine ⟨?_, h⟩
    have : (dn.flatMap fun k : Nat => [D.tup [.int k, .int 0, .int 0], .tup [.int k, .int 0, .int 1], .tup [.int k, .int 1, .int 0], .tup [.int k, .int 1, .int 1]]).length ≤ dn.length * 4 := by
      rw [List.length_flatMap]
      simp only [List.length_cons, List.length_nil]
      have : ∀ l : List Nat, (l.map fun _ => 4).sum = l.length * 4 := fun l => by induction l with | nil => rfl | cons x l ih => simp [ih]; omega
      rw [this]; exact Nat.le_refl _
    omega

end K02
namespace K02
open PySem PySem.Spec PyProof.Rows L2 MP
theorem b_is_integer : FunBnd "is_integer" s_is_integer f_is_integer.2.1 f_is_integer.2.2 := ⟨fun _ _ _ _ _ _ us hl => match us, hl with | [_], _ => rfl, fun q hq => by cases hq⟩
theorem b_are_all_of : FunBnd "are_all_of" s_are_all_of f_are_all_of.2.1 f_are_all_of.2.2 := ⟨fun _ _ _ _ _ _ us hl => match us, hl with | [_, _], _ => rfl, fun q hq => by cases hq⟩
theorem b_is_family : FunBnd "is_family" s_is_family f_is_family.2.1 f_is_family.2.2 := ⟨fun _ _ _ _ _ _ us hl => match us, hl with | [_], _ => rfl, fun q hq => by cases hq⟩
theorem b_is_given : FunBnd "is_given" s_is_given f_is_given.2.1 f_is_given.2.2 := ⟨fun _ _ _ _ _ _ us hl => match us, hl with | [_], _ => rfl, fun q hq => by cases hq⟩
theorem b_is_title : FunBnd "is_title" s_is_title f_is_title.2.1 f_is_title.2.2 := ⟨fun _ _ _ _ _ _ us hl => match us, hl with | [_], _ => rfl, fun q hq => by cases hq⟩
theorem b_is_name : FunBnd "is_name" s_is_name f_is_name.2.1 f_is_name.2.2 := ⟨fun _ _ _ _ _ _ us hl => match us, hl with | [_], _ => rfl, fun q hq => by cases hq⟩
theorem b_is_book : FunBnd "is_book" s_is_book f_is_book.2.1 f_is_book.2.2 := ⟨fun _ _ _ _ _ _ us hl => match us, hl with | [_], _ => rfl, fun q hq => by
  rcases List.mem_singleton.mp hq with rfl
  exact fun _ _ _ _ _ _ us hl => match us, hl with | [_], _ => rfl⟩
theorem b_is_list : FunBnd "is_list" s_is_list f_is_list.2.1 f_is_list.2.2 := ⟨fun _ _ _ _ _ _ us hl => match us, hl with | [_], _ => rfl, fun q hq => by
  rcases List.mem_singleton.mp hq with rfl
  exact fun _ _ _ _ _ _ us hl => match us, hl with | [_], _ => rfl⟩
theorem b_need_book : FunBnd "need_book" s_need_book f_need_book.2.1 f_need_book.2.2 := ⟨fun _ _ _ _ _ _ us hl => match us, hl with | [_], _ => rfl, fun q hq => by cases hq⟩
theorem b_shape_of : FunBnd "shape_of" s_shape_of f_shape_of.2.1 f_shape_of.2.2 := ⟨fun _ _ _ _ _ _ us hl => match us, hl with | [_], _ => rfl, fun q hq => by
  rcases List.mem_singleton.mp hq with rfl
  exact fun _ _ _ _ _ _ us hl => match us, hl with | [_], _ => rfl⟩
theorem b__law_flow : FunBnd "_law_flow" s__law_flow f__law_flow.2.1 f__law_flow.2.2 := ⟨fun _ _ _ _ _ _ us hl => match us, hl with | [_], _ => rfl, fun q hq => by cases hq⟩
theorem b__law_load : FunBnd "_law_load" s__law_load f__law_load.2.1 f__law_load.2.2 := ⟨fun _ _ _ _ _ _ us hl => match us, hl with | [_], _ => rfl, fun q hq => by cases hq⟩
theorem b__law_draw : FunBnd "_law_draw" s__law_draw f__law_draw.2.1 f__law_draw.2.2 := ⟨fun _ _ _ _ _ _ us hl => match us, hl with | [_, _], _ => rfl, fun q hq => by cases hq⟩
theorem b__law_pick : FunBnd "_law_pick" s__law_pick f__law_pick.2.1 f__law_pick.2.2 := ⟨fun _ _ _ _ _ _ us hl => match us, hl with | [_, _], _ => rfl, fun q hq => by cases hq⟩
theorem b__law_same : FunBnd "_law_same" s__law_same f__law_same.2.1 f__law_same.2.2 := ⟨fun _ _ _ _ _ _ us hl => match us, hl with | [_, _], _ => rfl, fun q hq => by cases hq⟩
theorem b__law_small : FunBnd "_law_small" s__law_small f__law_small.2.1 f__law_small.2.2 := ⟨fun _ _ _ _ _ _ us hl => match us, hl with | [_, _], _ => rfl, fun q hq => by cases hq⟩
theorem b__law_capital : FunBnd "_law_capital" s__law_capital f__law_capital.2.1 f__law_capital.2.2 := ⟨fun _ _ _ _ _ _ us hl => match us, hl with | [_], _ => rfl, fun q hq => by cases hq⟩
theorem b__law_family : FunBnd "_law_family" s__law_family f__law_family.2.1 f__law_family.2.2 := ⟨fun _ _ _ _ _ _ us hl => match us, hl with | [_], _ => rfl, fun q hq => by cases hq⟩
theorem b__law_name : FunBnd "_law_name" s__law_name f__law_name.2.1 f__law_name.2.2 := ⟨fun _ _ _ _ _ _ us hl => match us, hl with | [_], _ => rfl, fun q hq => by cases hq⟩
theorem b__law_book : FunBnd "_law_book" s__law_book f__law_book.2.1 f__law_book.2.2 := ⟨fun _ _ _ _ _ _ us hl => match us, hl with | [_], _ => rfl, fun q hq => by cases hq⟩
theorem b__law_bad_words : FunBnd "_law_bad_words" s__law_bad_words f__law_bad_words.2.1 f__law_bad_words.2.2 := ⟨fun _ _ _ _ _ _ us hl => match us, hl with | [_], _ => rfl, fun q hq => by cases hq⟩
theorem b__law_bad_names : FunBnd "_law_bad_names" s__law_bad_names f__law_bad_names.2.1 f__law_bad_names.2.2 := ⟨fun _ _ _ _ _ _ us hl => match us, hl with | [_, _], _ => rfl, fun q hq => by cases hq⟩
theorem b__law_bad_titles : FunBnd "_law_bad_titles" s__law_bad_titles f__law_bad_titles.2.1 f__law_bad_titles.2.2 := ⟨fun _ _ _ _ _ _ us hl => match us, hl with | [_], _ => rfl, fun q hq => by cases hq⟩
theorem b__law_spoilt : FunBnd "_law_spoilt" s__law_spoilt f__law_spoilt.2.1 f__law_spoilt.2.2 := ⟨fun _ _ _ _ _ _ us hl => match us, hl with | [_, _], _ => rfl, fun q hq => by cases hq⟩
theorem b__law_near : FunBnd "_law_near" s__law_near f__law_near.2.1 f__law_near.2.2 := ⟨fun _ _ _ _ _ _ us hl => match us, hl with | [_, _], _ => rfl, fun q hq => by cases hq⟩
theorem b__law_long : FunBnd "_law_long" s__law_long f__law_long.2.1 f__law_long.2.2 := ⟨fun _ _ _ _ _ _ us hl => match us, hl with | [_, _], _ => rfl, fun q hq => by cases hq⟩
theorem b__law_refused : FunBnd "_law_refused" s__law_refused f__law_refused.2.1 f__law_refused.2.2 := ⟨fun _ _ _ _ _ _ us hl => match us, hl with | [_], _ => rfl, fun q hq => by cases hq⟩
theorem b__law_books_right : FunBnd "_law_books_right" s__law_books_right f__law_books_right.2.1 f__law_books_right.2.2 := ⟨fun _ _ _ _ _ _ us hl => match us, hl with | [_, _], _ => rfl, fun q hq => by cases hq⟩
theorem b__law_lists_right : FunBnd "_law_lists_right" s__law_lists_right f__law_lists_right.2.1 f__law_lists_right.2.2 := ⟨fun _ _ _ _ _ _ us hl => match us, hl with | [_, _], _ => rfl, fun q hq => by cases hq⟩
theorem b_law : FunBnd "law" s_law f_law.2.1 f_law.2.2 := ⟨fun _ _ _ _ _ _ us hl => match us, hl with | [_], _ => rfl, fun q hq => by cases hq⟩
def rest : List (Str × List Str) := excs.drop 2
theorem bs_all {P : Program} {w : World} {K : PySem.W.Frag} {mg : Str → Option Value} {base : Heap} {CE : Addr} {cs : List Addr} (X : K.In base) (Gm : base.Ns mainGlobals mg) (T : TopSay P K) (E : CeSay K CE) (A : AllCls P K CE rest cs) (nd : cs.Nodup) (Cn : ConAll K cons conV)
    (h0 : FunSay K "is_integer" s_is_integer)
    (h1 : FunSay K "are_all_of" s_are_all_of)
    (h2 : FunSay K "is_family" s_is_family)
    (h3 : FunSay K "is_given" s_is_given)
    (h4 : FunSay K "is_title" s_is_title)
    (h5 : FunSay K "is_name" s_is_name)
    (h6 : FunSay K "is_book" s_is_book)
    (h7 : FunSay K "is_list" s_is_list)
    (h8 : FunSay K "need_book" s_need_book)
    (h9 : FunSay K "shape_of" s_shape_of)
    (h10 : FunSay K "_law_flow" s__law_flow)
    (h11 : FunSay K "_law_load" s__law_load)
    (h12 : FunSay K "_law_draw" s__law_draw)
    (h13 : FunSay K "_law_pick" s__law_pick)
    (h14 : FunSay K "_law_same" s__law_same)
    (h15 : FunSay K "_law_small" s__law_small)
    (h16 : FunSay K "_law_capital" s__law_capital)
    (h17 : FunSay K "_law_family" s__law_family)
    (h18 : FunSay K "_law_name" s__law_name)
    (h19 : FunSay K "_law_book" s__law_book)
    (h20 : FunSay K "_law_bad_words" s__law_bad_words)
    (h21 : FunSay K "_law_bad_names" s__law_bad_names)
    (h22 : FunSay K "_law_bad_titles" s__law_bad_titles)
    (h23 : FunSay K "_law_spoilt" s__law_spoilt)
    (h24 : FunSay K "_law_near" s__law_near)
    (h25 : FunSay K "_law_long" s__law_long)
    (h26 : FunSay K "_law_refused" s__law_refused)
    (h27 : FunSay K "_law_books_right" s__law_books_right)
    (h28 : FunSay K "_law_lists_right" s__law_lists_right)
    : Bs gk (jOf rest K) (nt 29) 40 P w K mg base := by
  have a0 : Bs gk (jOf rest K) (nt 0) 0 P w K mg base := bs_start X Gm T E A nd Cn (fun i => rfl) rfl
  have a1 : Bs gk (jOf rest K) (nt 1) 1 P w K mg base := a0.add X Gm rfl h0 b_is_integer d_is_integer
  have a2 : Bs gk (jOf rest K) (nt 2) 2 P w K mg base := a1.add X Gm rfl h1 b_are_all_of d_are_all_of
  have a3 : Bs gk (jOf rest K) (nt 3) 3 P w K mg base := a2.add X Gm rfl h2 b_is_family d_is_family
  have a4 : Bs gk (jOf rest K) (nt 4) 4 P w K mg base := a3.add X Gm rfl h3 b_is_given d_is_given
  have a5 : Bs gk (jOf rest K) (nt 5) 5 P w K mg base := a4.add X Gm rfl h4 b_is_title d_is_title
  have a6 : Bs gk (jOf rest K) (nt 6) 6 P w K mg base := a5.add X Gm rfl h5 b_is_name d_is_name
  have a7 : Bs gk (jOf rest K) (nt 7) 7 P w K mg base := a6.add X Gm rfl h6 b_is_book d_is_book
  have a8 : Bs gk (jOf rest K) (nt 8) 8 P w K mg base := a7.add X Gm rfl h7 b_is_list d_is_list
  have a9 : Bs gk (jOf rest K) (nt 9) 9 P w K mg base := a8.add X Gm rfl h8 b_need_book d_need_book
  have a10 : Bs gk (jOf rest K) (nt 10) 10 P w K mg base := a9.add X Gm rfl h9 b_shape_of d_shape_of
  have a11 : Bs gk (jOf rest K) (nt 11) 11 P w K mg base := a10.add X Gm rfl h10 b__law_flow d__law_flow
  have a12 : Bs gk (jOf rest K) (nt 12) 12 P w K mg base := a11.add X Gm rfl h11 b__law_load d__law_load
  have a13 : Bs gk (jOf rest K) (nt 13) 13 P w K mg base := a12.add X Gm rfl h12 b__law_draw d__law_draw
  have a14 : Bs gk (jOf rest K) (nt 14) 14 P w K mg base := a13.add X Gm rfl h13 b__law_pick d__law_pick
  have a15 : Bs gk (jOf rest K) (nt 15) 26 P w K mg base := a14.addRecH X Gm rfl h14 b__law_same (spn := sp_same_) (fun ds S Q E ⟨x, _, _, h, _⟩ => absurd h (by decide)) (fun n => d__law_same n) h__law_same (m := 12) rfl
  have a16 : Bs gk (jOf rest K) (nt 16) 27 P w K mg base := a15.add X Gm rfl h15 b__law_small d__law_small
  have a17 : Bs gk (jOf rest K) (nt 17) 28 P w K mg base := a16.add X Gm rfl h16 b__law_capital d__law_capital
  have a18 : Bs gk (jOf rest K) (nt 18) 29 P w K mg base := a17.add X Gm rfl h17 b__law_family d__law_family
  have a19 : Bs gk (jOf rest K) (nt 19) 30 P w K mg base := a18.add X Gm rfl h18 b__law_name d__law_name
  have a20 : Bs gk (jOf rest K) (nt 20) 31 P w K mg base := a19.add X Gm rfl h19 b__law_book d__law_book
  have a21 : Bs gk (jOf rest K) (nt 21) 32 P w K mg base := a20.add X Gm rfl h20 b__law_bad_words d__law_bad_words
  have a22 : Bs gk (jOf rest K) (nt 22) 33 P w K mg base := a21.add X Gm rfl h21 b__law_bad_names d__law_bad_names
  have a23 : Bs gk (jOf rest K) (nt 23) 34 P w K mg base := a22.add X Gm rfl h22 b__law_bad_titles d__law_bad_titles
  have a24 : Bs gk (jOf rest K) (nt 24) 35 P w K mg base := a23.add X Gm rfl h23 b__law_spoilt d__law_spoilt
  have a25 : Bs gk (jOf rest K) (nt 25) 36 P w K mg base := a24.add X Gm rfl h24 b__law_near d__law_near
  have a26 : Bs gk (jOf rest K) (nt 26) 37 P w K mg base := a25.add X Gm rfl h25 b__law_long d__law_long
  have a27 : Bs gk (jOf rest K) (nt 27) 38 P w K mg base := a26.add X Gm rfl h26 b__law_refused d__law_refused
  have a28 : Bs gk (jOf rest K) (nt 28) 39 P w K mg base := a27.add X Gm rfl h27 b__law_books_right d__law_books_right
  have a29 : Bs gk (jOf rest K) (nt 29) 40 P w K mg base := a28.add X Gm rfl h28 b__law_lists_right d__law_lists_right
  exact a29
end K02
open PySem PySem.W PyProof.Rows
set_option maxHeartbeats 0 in
theorem PySem.Challenge.cw_ibidem_k02_books_and_lists_holds : PySem.Challenge.rw_ibidem_k02_books_and_lists.Holds := by
  w_on; o_law; k_head; (case hw => w_witness2)
  k_fill
  refine MP.walk_law (l := PySem.Challenge.rw_ibidem_k02_books_and_lists) (n := 63) (k := 40) (x := "_law_script") (nm := "law") (sp := K02.sp_law) (r := K02.rest) (N := K02.n_law) (ms := K02.m_law) (T := K02.nt 29) (G := K02.gk) (st := K02.s_law) rfl (by decide) rfl ⟨rfl, by decide, by decide⟩ rfl (fun w h Y => PySem.W.kIn_of Y) ?say K02.b_law ?F K02.d_law (fun ns hl => ⟨ns, rfl, rfl⟩)
  case say =>
    intro w
    refine' MP.fun_say ?a ?l ?c ?k; (case a => k_is); (case l => k_is); (case c => k_is); (case k => k_is)
  case F =>
    intro w mg base X Gm
    refine K02.bs_all X Gm (CE := ?CE) (cs := [?C0]) ?T ?E ?A ?nd ?Cn ?h0 ?h1 ?h2 ?h3 ?h4 ?h5 ?h6 ?h7 ?h8 ?h9 ?h10 ?h11 ?h12 ?h13 ?h14 ?h15 ?h16 ?h17 ?h18 ?h19 ?h20 ?h21 ?h22 ?h23 ?h24 ?h25 ?h26 ?h27 ?h28
    case h0 => refine' MP.fun_say ?a ?l ?c ?k; (case a => k_is); (case l => k_is); (case c => k_is); (case k => k_is)
    case h1 => refine' MP.fun_say ?a ?l ?c ?k; (case a => k_is); (case l => k_is); (case c => k_is); (case k => k_is)
    case h2 => refine' MP.fun_say ?a ?l ?c ?k; (case a => k_is); (case l => k_is); (case c => k_is); (case k => k_is)
    case h3 => refine' MP.fun_say ?a ?l ?c ?k; (case a => k_is); (case l => k_is); (case c => k_is); (case k => k_is)
    case h4 => refine' MP.fun_say ?a ?l ?c ?k; (case a => k_is); (case l => k_is); (case c => k_is); (case k => k_is)
    case h5 => refine' MP.fun_say ?a ?l ?c ?k; (case a => k_is); (case l => k_is); (case c => k_is); (case k => k_is)
    case h6 => refine' MP.fun_say ?a ?l ?c ?k; (case a => k_is); (case l => k_is); (case c => k_is); (case k => k_is)
    case h7 => refine' MP.fun_say ?a ?l ?c ?k; (case a => k_is); (case l => k_is); (case c => k_is); (case k => k_is)
    case h8 => refine' MP.fun_say ?a ?l ?c ?k; (case a => k_is); (case l => k_is); (case c => k_is); (case k => k_is)
    case h9 => refine' MP.fun_say ?a ?l ?c ?k; (case a => k_is); (case l => k_is); (case c => k_is); (case k => k_is)
    case h10 => refine' MP.fun_say ?a ?l ?c ?k; (case a => k_is); (case l => k_is); (case c => k_is); (case k => k_is)
    case h11 => refine' MP.fun_say ?a ?l ?c ?k; (case a => k_is); (case l => k_is); (case c => k_is); (case k => k_is)
    case h12 => refine' MP.fun_say ?a ?l ?c ?k; (case a => k_is); (case l => k_is); (case c => k_is); (case k => k_is)
    case h13 => refine' MP.fun_say ?a ?l ?c ?k; (case a => k_is); (case l => k_is); (case c => k_is); (case k => k_is)
    case h14 => refine' MP.fun_say ?a ?l ?c ?k; (case a => k_is); (case l => k_is); (case c => k_is); (case k => k_is)
    case h15 => refine' MP.fun_say ?a ?l ?c ?k; (case a => k_is); (case l => k_is); (case c => k_is); (case k => k_is)
    case h16 => refine' MP.fun_say ?a ?l ?c ?k; (case a => k_is); (case l => k_is); (case c => k_is); (case k => k_is)
    case h17 => refine' MP.fun_say ?a ?l ?c ?k; (case a => k_is); (case l => k_is); (case c => k_is); (case k => k_is)
    case h18 => refine' MP.fun_say ?a ?l ?c ?k; (case a => k_is); (case l => k_is); (case c => k_is); (case k => k_is)
    case h19 => refine' MP.fun_say ?a ?l ?c ?k; (case a => k_is); (case l => k_is); (case c => k_is); (case k => k_is)
    case h20 => refine' MP.fun_say ?a ?l ?c ?k; (case a => k_is); (case l => k_is); (case c => k_is); (case k => k_is)
    case h21 => refine' MP.fun_say ?a ?l ?c ?k; (case a => k_is); (case l => k_is); (case c => k_is); (case k => k_is)
    case h22 => refine' MP.fun_say ?a ?l ?c ?k; (case a => k_is); (case l => k_is); (case c => k_is); (case k => k_is)
    case h23 => refine' MP.fun_say ?a ?l ?c ?k; (case a => k_is); (case l => k_is); (case c => k_is); (case k => k_is)
    case h24 => refine' MP.fun_say ?a ?l ?c ?k; (case a => k_is); (case l => k_is); (case c => k_is); (case k => k_is)
    case h25 => refine' MP.fun_say ?a ?l ?c ?k; (case a => k_is); (case l => k_is); (case c => k_is); (case k => k_is)
    case h26 => refine' MP.fun_say ?a ?l ?c ?k; (case a => k_is); (case l => k_is); (case c => k_is); (case k => k_is)
    case h27 => refine' MP.fun_say ?a ?l ?c ?k; (case a => k_is); (case l => k_is); (case c => k_is); (case k => k_is)
    case h28 => refine' MP.fun_say ?a ?l ?c ?k; (case a => k_is); (case l => k_is); (case c => k_is); (case k => k_is)
    case E => refine' ⟨?a, ?b, ?c, ?d⟩; (case a => k_is); (case b => k_is); (case c => k_is); (case d => k_is)
    case A =>
      show MP.AllCls _ _ _ [("InvalidBook", ["value"])] _
      refine MP.cls_one ?c0 (by decide) (by decide) ?n0 ?r0
      case c0 =>
        refine' MP.cls_say ?gC ?l ?sa ?ga ?gg ?ca ?noN ?tyC ?kC ?supI ?i1 ?i2 ?i3 ?i4 ?i5 ?i6 ?i7 ?i8 ?i9 ?i10 ?i11 ?i12
        (case gC => k_is)
        (case l => k_is)
        (case sa => k_is)
        (case ga => k_is)
        (case gg => k_is)
        (case ca => k_is)
        (case tyC => k_is)
        (case kC => k_is)
        (case supI => ks_is)
        (case i1 => k_is)
        (case i2 => k_is)
        (case i3 => k_is)
        (case i4 => k_is)
        (case i5 => k_is)
        (case i6 => rfl); (case i7 => first | rfl | decide +kernel | k_is); (case i8 => k_is); (case i9 => rfl); (case i10 => exact fun us hl => match us, hl with | [_, _], _ => rfl); (case i11 => decide +kernel); (case i12 => decide +kernel)
        case noN =>
          refine MP.no_one ?a0 ?_
          case a0 => k_is
          exact MP.no_nil
      case n0 => decide
      exact MP.cls_nil
    case nd => decide
    case T =>
      refine' ⟨?sup, ?ve, ?seer, ?htop, ?oc, ?ot, ?vb, ?blt⟩
      (case sup => k_is); (case ve => k_is); (case seer => k_is); (case htop => first | rfl | decide +kernel); (case oc => first | k_is | rfl); (case ot => first | k_is | rfl); (case vb => first | k_is | rfl | decide +kernel)
      case blt =>
        show ∀ x ∈ (["len", "int", "str", "abs", "max", "min", "all", "any", "tuple", "list", "sum", "isinstance", "range", "bool", "enumerate", "zip", "sorted", "dict"] : List PySem.Str), _
        refine MP.blt_one ?b0 ?_
        case b0 => k_is
        refine MP.blt_one ?b1 ?_
        case b1 => k_is
        refine MP.blt_one ?b2 ?_
        case b2 => k_is
        refine MP.blt_one ?b3 ?_
        case b3 => k_is
        refine MP.blt_one ?b4 ?_
        case b4 => k_is
        refine MP.blt_one ?b5 ?_
        case b5 => k_is
        refine MP.blt_one ?b6 ?_
        case b6 => k_is
        refine MP.blt_one ?b7 ?_
        case b7 => k_is
        refine MP.blt_one ?b8 ?_
        case b8 => k_is
        refine MP.blt_one ?b9 ?_
        case b9 => k_is
        refine MP.blt_one ?b10 ?_
        case b10 => k_is
        refine MP.blt_one ?b11 ?_
        case b11 => k_is
        refine MP.blt_one ?b12 ?_
        case b12 => k_is
        refine MP.blt_one ?b13 ?_
        case b13 => k_is
        refine MP.blt_one ?b14 ?_
        case b14 => k_is
        refine MP.blt_one ?b15 ?_
        case b15 => k_is
        refine MP.blt_one ?b16 ?_
        case b16 => k_is
        refine MP.blt_one ?b17 ?_
        case b17 => k_is
        exact MP.blt_nil
    case Cn =>
      show MP.ConAll _ ["CAPITALS", "SMALLS", "MOST_NAMES", "FIRST_YEAR", "LAST_YEAR", "LAST_VOLUME", "SHAPES"] (K02.conV)
      refine' MP.con_one (MP.con_str ?k ?e ?o) ?_
      (case k => k_is)
      (case e => rfl)
      (case o => decide +kernel)
      refine' MP.con_one (MP.con_str ?k ?e ?o) ?_
      (case k => k_is)
      (case e => rfl)
      (case o => decide +kernel)
      refine' MP.con_one (MP.con_int ?k) ?_
      (case k => k_is)
      refine' MP.con_one (MP.con_int ?k) ?_
      (case k => k_is)
      refine' MP.con_one (MP.con_int ?k) ?_
      (case k => k_is)
      refine' MP.con_one (MP.con_int ?k) ?_
      (case k => k_is)
      refine' MP.con_one (MP.con_tup ?g ?k ?e ?z ?h) ?_
      case g => k_is
      case k => k_is
      case e => rfl
      case z => decide +kernel
      case h =>
        refine' MP.rv_tup ?zkq1 ?zeq1 ?zzq1 ?zhq1 ?zrq1
        case zkq1 => k_is
        case zeq1 => rfl
        case zzq1 => decide +kernel
        case zhq1 =>
         refine' MP.rv_int ?zrq2
         case zrq2 =>
          refine' MP.rv_int ?zrq3
          case zrq3 =>
           refine' MP.rv_int ?zrq4
           case zrq4 =>
            exact MP.rv_nil
        case zrq1 =>
         refine' MP.rv_tup ?zkq5 ?zeq5 ?zzq5 ?zhq5 ?zrq5
         case zkq5 => k_is
         case zeq5 => rfl
         case zzq5 => decide +kernel
         case zhq5 =>
          refine' MP.rv_int ?zrq6
          case zrq6 =>
           refine' MP.rv_int ?zrq7
           case zrq7 =>
            refine' MP.rv_int ?zrq8
            case zrq8 =>
             exact MP.rv_nil
         case zrq5 =>
          refine' MP.rv_tup ?zkq9 ?zeq9 ?zzq9 ?zhq9 ?zrq9
          case zkq9 => k_is
          case zeq9 => rfl
          case zzq9 => decide +kernel
          case zhq9 =>
           refine' MP.rv_int ?zrq10
           case zrq10 =>
            refine' MP.rv_int ?zrq11
            case zrq11 =>
             refine' MP.rv_int ?zrq12
             case zrq12 =>
              exact MP.rv_nil
          case zrq9 =>
           refine' MP.rv_tup ?zkq13 ?zeq13 ?zzq13 ?zhq13 ?zrq13
           case zkq13 => k_is
           case zeq13 => rfl
           case zzq13 => decide +kernel
           case zhq13 =>
            refine' MP.rv_int ?zrq14
            case zrq14 =>
             refine' MP.rv_int ?zrq15
             case zrq15 =>
              refine' MP.rv_int ?zrq16
              case zrq16 =>
               exact MP.rv_nil
           case zrq13 =>
            refine' MP.rv_tup ?zkq17 ?zeq17 ?zzq17 ?zhq17 ?zrq17
            case zkq17 => k_is
            case zeq17 => rfl
            case zzq17 => decide +kernel
            case zhq17 =>
             refine' MP.rv_int ?zrq18
             case zrq18 =>
              refine' MP.rv_int ?zrq19
              case zrq19 =>
               refine' MP.rv_int ?zrq20
               case zrq20 =>
                exact MP.rv_nil
            case zrq17 =>
             refine' MP.rv_tup ?zkq21 ?zeq21 ?zzq21 ?zhq21 ?zrq21
             case zkq21 => k_is
             case zeq21 => rfl
             case zzq21 => decide +kernel
             case zhq21 =>
              refine' MP.rv_int ?zrq22
              case zrq22 =>
               refine' MP.rv_int ?zrq23
               case zrq23 =>
                refine' MP.rv_int ?zrq24
                case zrq24 =>
                 exact MP.rv_nil
             case zrq21 =>
              refine' MP.rv_tup ?zkq25 ?zeq25 ?zzq25 ?zhq25 ?zrq25
              case zkq25 => k_is
              case zeq25 => rfl
              case zzq25 => decide +kernel
              case zhq25 =>
               refine' MP.rv_int ?zrq26
               case zrq26 =>
                refine' MP.rv_int ?zrq27
                case zrq27 =>
                 refine' MP.rv_int ?zrq28
                 case zrq28 =>
                  exact MP.rv_nil
              case zrq25 =>
               refine' MP.rv_tup ?zkq29 ?zeq29 ?zzq29 ?zhq29 ?zrq29
               case zkq29 => k_is
               case zeq29 => rfl
               case zzq29 => decide +kernel
               case zhq29 =>
                refine' MP.rv_int ?zrq30
                case zrq30 =>
                 refine' MP.rv_int ?zrq31
                 case zrq31 =>
                  refine' MP.rv_int ?zrq32
                  case zrq32 =>
                   exact MP.rv_nil
               case zrq29 =>
                refine' MP.rv_tup ?zkq33 ?zeq33 ?zzq33 ?zhq33 ?zrq33
                case zkq33 => k_is
                case zeq33 => rfl
                case zzq33 => decide +kernel
                case zhq33 =>
                 refine' MP.rv_int ?zrq34
                 case zrq34 =>
                  refine' MP.rv_int ?zrq35
                  case zrq35 =>
                   refine' MP.rv_int ?zrq36
                   case zrq36 =>
                    exact MP.rv_nil
                case zrq33 =>
                 refine' MP.rv_tup ?zkq37 ?zeq37 ?zzq37 ?zhq37 ?zrq37
                 case zkq37 => k_is
                 case zeq37 => rfl
                 case zzq37 => decide +kernel
                 case zhq37 =>
                  refine' MP.rv_int ?zrq38
                  case zrq38 =>
                   refine' MP.rv_int ?zrq39
                   case zrq39 =>
                    refine' MP.rv_int ?zrq40
                    case zrq40 =>
                     exact MP.rv_nil
                 case zrq37 =>
                  refine' MP.rv_tup ?zkq41 ?zeq41 ?zzq41 ?zhq41 ?zrq41
                  case zkq41 => k_is
                  case zeq41 => rfl
                  case zzq41 => decide +kernel
                  case zhq41 =>
                   refine' MP.rv_int ?zrq42
                   case zrq42 =>
                    refine' MP.rv_int ?zrq43
                    case zrq43 =>
                     refine' MP.rv_int ?zrq44
                     case zrq44 =>
                      exact MP.rv_nil
                  case zrq41 =>
                   refine' MP.rv_tup ?zkq45 ?zeq45 ?zzq45 ?zhq45 ?zrq45
                   case zkq45 => k_is
                   case zeq45 => rfl
                   case zzq45 => decide +kernel
                   case zhq45 =>
                    refine' MP.rv_int ?zrq46
                    case zrq46 =>
                     refine' MP.rv_int ?zrq47
                     case zrq47 =>
                      refine' MP.rv_int ?zrq48
                      case zrq48 =>
                       exact MP.rv_nil
                   case zrq45 =>
                    exact MP.rv_nil
      exact MP.con_nil
