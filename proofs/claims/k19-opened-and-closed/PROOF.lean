import PyProof.Rows.All
import Wide.All
import OpenK.AllK
import Wide.FinOn
import HandS.ForMost
import HandS.ForExc
import HandS.Wide
import HandS.EndBits
import HandS.CallSlots
import HandS.IsInst
import HandS.Defaults
import HandS.Comp
import HandS.List
import HandS.HotCalls
import HandS.Lambda
import HandS.Property
import HandS.WordsExc
import HandS.Conv
import HandS.Codes
import HandS.Zip
import HandS.Text
import HandS.ExcInit
import HandS.ExcSuper
import HandS.ExcCtx
import HandS.ExcIs
import HandS.ExcField
import HandS.FStr
import KE.KExcSuper
import KE.KExcIs
import HandS.Small
import HandS.More
import HandS.SetFor
import HandS.Strs
import HandS.Deep
import HandS.SortInts
import KE.SortData
import KE.SortKeyHeap
import KE.KSortKey
import KE.KLam
import HandS.EndTab
import KE.KNestM
import HandS.TupAny
import PySem.Challenge.RW_onetelling_k19_opened_and_closed
set_option Elab.async false
set_option linter.all false
set_option maxRecDepth 100000
set_option maxHeartbeats 4000000
/-! Zh: lists walked while an exception is handled (its context is None): iteration, comprehension, sum. -/
namespace Zh
open PySem PySem.Spec PyProof.Rows L2 HotX L2H
section
variable {prog : Program} {w : World} {A : Around} {E : Value → Shared → Prop} {s : Shared} {x1 : Addr}
/-- StopIteration is made and raised: the handled exception becomes its context -/
theorem stop_hot {α : Type} {Q : α → Shared → Prop} {E' : Value → Shared → Prop} (hot : HotAt A x1 s.heap)
    (k : ∀ a h', (∀ b o, s.heap.get? b = some o → h'.get? b = some o) → ({ s with heap := h' } : Shared).TypeIs (.ref a) "StopIteration" → E' (.ref a) { s with heap := h' }) :
    wpAny (model prog w) A (newExc (.type "StopIteration") [] >>= fun e => (raiseNew e : Sem α)) Q E' s := by
  obtain ⟨hh, o1, vs1, g1, d1, c1⟩ := hot
  refine wpAny_bind ?_
  simp only [newExc, newTuple]
  refine wpAny_bind (wpAny_newObj_type (wpAny_bind (m := firstArgMember _ _) (wpAny_of_eq (a := Value.none) (by first | rfl | (simp only [firstArgMember]; rfl)) (wpAny_newObj_type ?_ (by size_fits)))) (by size_fits))
  have up := fun (b : Addr) (o : Obj) (z : s.heap.get? b = some o) => Heap.get?_push_of_some { cls := .type "tuple", data := .seq ([] : List Value).toArray } z
  refine raiseNew_hot ⟨hh, o1, vs1, Heap.get?_push_of_some _ (up _ _ g1), d1, c1⟩ (Nat.ne_of_lt (Heap.lt_size (up _ _ g1))) (Heap.get?_push_size _ rfl) rfl (by first | (simp; done) | (simp; omega)) ?_
  refine k _ _ (fun b o z => ?_) ⟨_, Heap.get?_update_self _ (Heap.get?_push_size _ rfl) rfl, rfl⟩
  rw [Heap.get?_update_other _ _ (Nat.ne_of_gt (Heap.lt_size (up _ _ z)))]
  exact Heap.get?_push_of_some _ (up _ _ z)
/-- an iterator's state behind its end -/
theorem hot_upd {it : Addr} {f : Obj → Obj} {h : Heap} (hot : HotAt A x1 h) (ne : x1 ≠ it) : HotAt A x1 (h.update it f) := by
  obtain ⟨hh, o1, vs1, g1, d1, c1⟩ := hot
  exact ⟨hh, o1, vs1, (Heap.get?_update_other _ _ ne.symm).trans g1, d1, c1⟩
theorem list_end_hot {it l : Addr} {i : Nat} {items : Array Value} {Q : Option Value → Shared → Prop} (hot : HotAt A x1 s.heap) (ne : x1 ≠ it) (hit : s.heap.IsListIter it l i) (hl : s.heap.IsList l items) (hend : items[i]? = none)
    (k : ∀ h', (∀ b o, b ≠ it → s.heap.get? b = some o → h'.get? b = some o) → Q none { s with heap := h' }) : wpAny (model prog w) A (pyNext (.ref it)) Q E s := by
  obtain ⟨o, hob, hcl, hdt⟩ := id hit
  obtain ⟨ol, hlo, _, cap, hld⟩ := hl
  unfold pyNext
  refine wpAny_bind (wpAny_attempt (wpAny_callSpecial?_slot (name := Str.ofString "__next__") hit.typeIs slot_listiter_next (wpAny_call_entry slot_listiter_next hit.typeIs entry_listiter_next ?_ (args_listiter_next _))))
  refine wpAny_bind (m := field (.ref it) 0) (wpAny_field hob hdt (x := .ref l) rfl ?_)
  rw [if_neg (show ¬ ((Value.ref l == Value.none) = true) from Bool.false_ne_true)]
  refine wpAny_bind (m := field (.ref it) 1) (wpAny_field hob hdt (x := .int i 0) rfl (wpAny_bind (m := seqItems? (.ref l)) (wpAny_seqItems hlo hld ?_)))
  simp only [Int.toNat_natCast, hend]
  refine wpAny_bind (wpAny_rule (wpAny_bind (wpAny_setField hob hdt (by simp) ?_)))
  refine stop_hot (hot_upd hot ne) fun a h' kk ty => ?_
  refine wpAny_bind (wpAny_isInstance (T := "StopIteration") (b := true) ty isSubtype_stop ?_)
  exact wpAny_pure (k _ fun b o nb z => kk b o ((Heap.get?_update_other _ _ (fun e => nb e.symm)).trans z))
end
section
variable {P : Program} {w : World} {K : PySem.W.Frag} {tg : Expr}
theorem one_cell {h : Heap} {it b : Addr} {o : Obj} {vs : Array Value} (hb : b ∈ [it]) (e : h.get? it = some o) (d : o.data = .fields vs) : ∃ o, h.get? b = some o ∧ ∀ v, o.data ≠ .cell v := by
  cases List.mem_singleton.mp hb
  exact ⟨o, e, fun v z => by rw [d] at z; cases z⟩
theorem turn_listH (a it : Addr) : TurnH P w K tg (Itl K a) [it] it (fun i h => h.IsListIter it a i) where
  mem := List.mem_singleton.mpr rfl
  obj := fun i h ⟨o, e, _, d⟩ b hb => one_cell hb e d
  keep := fun i h hp sti k => sti.at fun o e => k it (List.mem_singleton.mpr rfl) o e
  item := by
    rintro X rfl rfl rfl hc i pins s σ H E I hf sti ⟨xs, x, hq, hx⟩
    obtain ⟨its, rv, p, _⟩ := I.list hq
    obtain ⟨uv, hat, rat⟩ := rv.get hx
    have F := hf it (List.mem_singleton.mpr rfl)
    refine wpAny_pyNext_list_item sti p.isList (x := uv) (by simpa using hat) fun hp st' sb => ?_
    have J : Inv X pins σ H { s with heap := hp } := I.turned (t' := s.toks) (fun b o nb z => (sb.2 b nb).trans z) F.1 F.2.1 F.2.2.2.1 F.2.2.2.2.1 F.2.2.2.2.2
    obtain ⟨o, e, c, d⟩ := id st'
    exact ⟨uv, rfl, go_of (s := { s with heap := hp }) e c d (by decide) ⟨x, H, J, rat, ⟨rfl, fun ys hy => by rw [I.list_inj hy hq]; exact hx⟩, st', fun b hb => (hf b hb).1⟩⟩
  done := by
    rintro X rfl rfl rfl hc i pins s σ H E I hf sti ⟨xs, hq, hx⟩
    obtain ⟨its, rv, p, _⟩ := I.list hq
    have F := hf it (List.mem_singleton.mpr rfl)
    have hl := rv.length
    obtain ⟨q, hq1, hq2⟩ := hc
    have hot : HotAt X.A q.1 s.heap := by
      obtain ⟨hh, v1, e1, c1⟩ := hq1
      exact ⟨hh, q.2, v1, (I.pin q (List.mem_append_left _ hq2)).1, e1, c1⟩
    exact list_end_hot hot (F.2.2.2.2.2 q (List.mem_append_left _ hq2)) sti p.isList (by simp; omega) fun hp eb => ⟨rfl, I.turned (t' := s.toks) eb F.1 F.2.1 F.2.2.2.1 F.2.2.2.2.1 F.2.2.2.2.2⟩
  self := fun _ _ _ _ _ sti h => wpAny_pyIter_listiter sti h
end
section
variable {X : Cx} {tg l : Expr} {tl : TE}
theorem new_it {pins : List (Addr × Obj)} {σ : L2.St} {H : Hp} {s : Shared} (I : Inv X pins σ H s) : ∀ b ∈ [s.heap.objs.size], FpOk X pins H b := fun b hb => by
  cases List.mem_singleton.mp hb
  exact I.fpOk (Nat.le_refl _) (I.hok.fresh (Nat.le_refl _))
theorem pi_listH (hl : PE X l tl) : PIH X tg l (iList X.K tl) := by
  refine ⟨fun pins s σ H R I h => thn (hl.run pins s σ H _ I h) fun v s1 hh => ?_⟩
  obtain ⟨x, H1, I1, r1, a, rfl, ⟨xs, hq⟩, q⟩ := hh
  cases r1
  obtain ⟨its, rv, p, _⟩ := I1.list hq
  exact wpAny_pyIter_list p.isList ⟨s1.heap.objs.size, [s1.heap.objs.size], _, _, H1, rfl, I1.kept (t' := s1.toks) fun b o e => Heap.get?_push_of_some _ e, turn_listH a _, ⟨_, Heap.get?_push_size _ rfl, rfl, rfl⟩, new_it I1, q⟩
end
/-! ### sum -/
section
variable {prog : Program} {w : World} {A : Around} {E : Value → Shared → Prop} {s : Shared} {x1 l : Addr}
theorem walks_hot {I ax : Addr} (hh : A.handled = some (.ref x1)) (hne : ax ≠ I) (hx : x1 ≠ I) (items : Array Value) :
    Walks prog w A I [I, ax, x1] [I] items.size (fun i v => items[i]? = some v) (fun i h => h.IsListIter I ax i ∧ h.IsList ax items ∧ HotAt A x1 h) where
  sub := fun b hb => by cases List.mem_singleton.mp hb; exact List.mem_cons_self
  frame := fun _ _ _ st hk => by
    obtain ⟨_, o1, vs1, g1, d1, c1⟩ := st.2.2
    exact ⟨st.1.at fun o e => hk I (by simp) o e, st.2.1.at fun o e => hk ax (by simp) o e, hh, o1, vs1, hk x1 (by simp) _ g1, d1, c1⟩
  item := fun i s Q E hi st hQ => by
    refine wpAny_pyNext_list_item st.1 st.2.1 (x := items[i]) (by simp [hi]) fun h' hit' hs' => ?_
    obtain ⟨_, o1, vs1, g1, d1, c1⟩ := st.2.2
    exact hQ _ h' s.toks (by simp [hi]) ⟨hit', st.2.1.extBut hs'.extBut hne, hh, o1, vs1, (hs'.2 x1 hx).trans g1, d1, c1⟩ fun b o hb e => hs'.extBut b o (fun h => hb (by simp [h])) e
  done := fun s Q E st hQ => list_end_hot st.2.2 hx st.1 st.2.1 (by simp) fun h' he' => hQ h' s.toks fun b o hb e => he' b o (fun h => hb (by simp [h])) e
  self := fun _ _ _ _ st hQ => wpAny_pyIter_listiter st.1 hQ
theorem sum_hot {xs : Array (Int × Tok)} {Q : Value → Shared → Prop} (hot : HotAt A x1 s.heap) (hl : s.heap.IsList l (intItems xs))
    (k : ∀ h' tk t', (∀ b o, s.heap.get? b = some o → h'.get? b = some o) → Q (.int (preSum (numAt xs) xs.size) t') { s with heap := h', toks := tk }) : wpAny (model prog w) A (call (.builtin "sum") [.ref l]) Q E s := by
  obtain ⟨hh, o1, vs1, g1, d1, c1⟩ := hot
  refine call_sum_walkG (iter_intList hl fun s₂ e st hfp hlI => ?_)
  subst e
  have lt := Heap.lt_size g1
  refine ⟨_, [s.heap.objs.size, l, x1], [s.heap.objs.size], _, _, _, numAt xs, rfl, walks_hot (A := A.in1) hh hlI (Nat.ne_of_lt lt) (intItems xs), ⟨st.1, st.2, hh, o1, vs1, Heap.get?_push_of_some _ g1, d1, c1⟩, fun b hb => ?_, (fun _ _ => intItems_at), fun h' tk t' hk => ?_⟩
  · rcases List.mem_cons.mp hb with rfl | hb
    · exact hfp _ (by simp)
    · rcases List.mem_cons.mp hb with rfl | hb
      · exact hfp _ (by simp)
      · cases List.mem_singleton.mp hb
        exact Nat.lt_of_lt_of_le lt (by show _ ≤ (s.heap.push _).objs.size; rw [Heap.size_push]; exact Nat.le_succ _)
  · have := k h' tk t' (old_kept hk)
    simpa [intItems] using this
end
section
variable {X : Cx}
theorem cr_sumH (hc : HotC X) : CallR X (.builtin "sum") (rSum X.K) := by
  intro pins s σ H vs us Q I r h
  obtain ⟨a, ns, rfl, hs, q⟩ := h
  obtain ⟨its, rv, hl, _⟩ := I.list hs
  obtain ⟨x1, hot⟩ := hc.at I
  rw [Vals.ref1 r]
  obtain ⟨xs, e⟩ := rv.ints.allInts.items
  have hn : numsOf (intItems xs).toList = ns := by rw [← e]; exact rv.ints.numsOf
  rw [nums_intItems] at hn
  have hl' := hl.isList
  rw [e] at hl'
  refine sum_hot hot hl' fun h' tk t' hk => ⟨.int _, H, I.kept hk, ⟨t', ?_⟩, q⟩
  rw [preSum_eq, List.take_of_length_le (by simp), hn]
end
/-! ### list comprehensions -/
section
variable {X : Cx}
/-- a block's state with one pin more -/
theorem addPin {Y : Cx} {pins : List (Addr × Obj)} {σ : L2.St} {H : Hp} {s : Shared} {p : Addr × Obj} (I : Inv Y pins σ H s) (g : s.heap.get? p.1 = some p.2) (n : H p.1 = none) (nl : p.1 ≠ Y.env.locals) (nf : p.1 ∉ Y.fs) (nc : ∀ v, p.2.data ≠ .cell v) :
    Inv Y (p :: pins) σ H s := ⟨I.ok, I.os, I.bare, I.base, I.loc, I.cell, I.free, I.freeC, fun q hq => by
      rcases List.mem_append.mp hq with z | z
      · exact I.pin q (List.mem_append_left _ z)
      · rcases List.mem_cons.mp z with z | z
        · subst z; exact ⟨g, n, nl, nf, nc⟩
        · exact I.pin q (List.mem_append_right _ z), I.hok, I.len⟩
/-- the pin is one of the context's -/
theorem hotB {Y : Cx} {σ : L2.St} {H : Hp} {s : Shared} {p : Addr × Obj} {pins : List (Addr × Obj)} (I : Inv Y (p :: pins) σ H s) : Inv { Y with pn := p :: Y.pn } pins σ H s :=
  ⟨⟨I.ok.mod, I.ok.kind, I.ok.glob, I.ok.blt, I.ok.above, I.ok.inj, I.ok.has, I.ok.cab, I.ok.hd, I.ok.frames, I.ok.stk, I.ok.exf, I.ok.bs, I.ok.bsz, I.ok.noex, I.ok.exfs, I.ok.funs, I.ok.frf⟩, I.os, I.bare, I.base, I.loc, I.cell, I.free, I.freeC, fun q hq => I.pin q (by
    rcases List.mem_append.mp hq with z | z
    · rcases List.mem_cons.mp z with z | z
      · subst z; exact List.mem_append_right _ List.mem_cons_self
      · exact List.mem_append_left _ z
    · exact List.mem_append_right _ (List.mem_cons_of_mem _ z)), I.hok, I.len⟩
theorem hotA {Y : Cx} {σ : L2.St} {H : Hp} {s : Shared} {p : Addr × Obj} {pins : List (Addr × Obj)} (I : Inv { Y with pn := p :: Y.pn } pins σ H s) : Inv Y (p :: pins) σ H s :=
  ⟨⟨I.ok.mod, I.ok.kind, I.ok.glob, I.ok.blt, I.ok.above, I.ok.inj, I.ok.has, I.ok.cab, I.ok.hd, I.ok.frames, I.ok.stk, I.ok.exf, I.ok.bs, I.ok.bsz, I.ok.noex, I.ok.exfs, I.ok.funs, I.ok.frf⟩, I.os, I.bare, I.base, I.loc, I.cell, I.free, I.freeC, fun q hq => I.pin q (by
    rcases List.mem_append.mp hq with z | z
    · exact List.mem_append_left _ (List.mem_cons_of_mem _ z)
    · rcases List.mem_cons.mp z with z | z
      · subst z; exact List.mem_append_left _ List.mem_cons_self
      · exact List.mem_append_right _ z), I.hok, I.len⟩
/-- lc_core's fellow where an exception is handled; the iterator's end wants its context's exception pinned in the block -/
theorem lc_hot {pins : List (Addr × Obj)} {s : Shared} {σ : L2.St} {H : Hp} {Q : VK} {elt tg iter : Expr} {ifs : List Expr} {scope : Scope} {own : List (Str × Nat)} {pos pos' : Pos} {wi : TI} {g : TG} {tt : TT} {te : TE} {use : Option (Value → Sem Unit)} {Qf : Value → Shared → Prop}
    (hot : HotC X) (nd : X.N.Nodup) (I : Inv X pins σ H s) (hi : PIH X tg iter wi) (ok : BlkOk X.N X.env.scope scope own)
    (hg : ∀ s H C cl fp, PG (X.blk s H scope (compEnvC scope cl C X.env) fp) tg g) (ht : ∀ s H C cl fp, PTs (X.blk s H scope (compEnvC scope cl C X.env) fp) ifs tt) (he : ∀ s H C cl fp, PE (X.blk s H scope (compEnvC scope cl C X.env) fp) elt te)
    (hs : ∀ x, foldedSetIterable iter X.env x = pure x) (h : tLc wi g tt te (own.map (·.2)) σ H Q)
    (fin : ∀ D C s' m H', Inv X pins σ H' s' → Q (.ref D) H' → s'.heap.Ns C m → FpOk X pins H' C → compPost (model X.prog X.w) X.A X.xe use Qf (.ref D) C (.ok .next) s') :
    wpAny (model X.prog X.w) X.A (comprehension (.ListComp elt [⟨tg, iter, ifs, 0⟩] scope pos) scope X.env pos' (newList []) false (eval iter X.env) use) Qf X.xe s := by
  obtain ⟨p, hp1, hp2⟩ := hot
  refine wpAny_comprehension_free (use := use) rfl hs (closure_ok fun y hy e => (ok.free y hy e).elim (fun k => I.ok.has _ (.inl k)) fun k => I.ok.has _ (.inr k)) ok.kind (fun y hy e => by rw [ok.uniq y hy, e])
    (thn (hi.run pins s σ H _ I h) fun iv s1 hx => thn hx fun itv sB h2 => ?_)
  obtain ⟨it, fp, tn, J, HB, rfl, IB, T, tnB, fB, q⟩ := h2
  refine wpAny_newObj_type (newEnv_comp ?_) (by show 0 ≤ sizeLine; decide)
  obtain ⟨D, hD⟩ : ∃ D, D = sB.heap.objs.size := ⟨_, rfl⟩
  rw [← hD]
  have dn : HB D = none := IB.hok.fresh (Nat.le_of_eq hD.symm)
  obtain ⟨W, ⟨m0, w0⟩, step1⟩ := q D dn
  have szf : ∀ b ∈ fp, b < sB.heap.objs.size := fun b hb => by
    obtain ⟨o, e, _⟩ := T.obj _ _ tnB b hb
    exact Heap.lt_size e
  -- behind the new list
  have up3 : ∀ b o, sB.heap.get? b = some o → (sB.heap.push { cls := .type "list", data := .seq ([] : List Value).toArray }).get? b = some o := fun b o e => Heap.get?_push_of_some _ e
  have IC : Inv X pins σ (upd HB D (.lst [])) { sB with heap := sB.heap.push { cls := .type "list", data := .seq ([] : List Value).toArray } } :=
    IB.laid (t' := sB.toks) up3 (Nat.le_of_eq hD.symm) ⟨Nat.zero_le _, [], 0, .nil, by rw [hD]; exact Heap.get?_push_size _ rfl⟩
  have st3 := T.keep _ _ _ tnB fun b _ o e => up3 b o e
  have fC : ∀ b ∈ fp, FpOk X pins (upd HB D (.lst [])) b ∧ b < (sB.heap.push { cls := .type "list", data := .seq ([] : List Value).toArray }).objs.size := fun b hb =>
    ⟨⟨by rw [upd_ne (by rw [hD]; exact Nat.ne_of_lt (szf b hb))]; exact (fB b hb).1, (fB b hb).2⟩, by rw [Heap.size_push]; exact Nat.lt_succ_of_lt (szf b hb)⟩
  generalize eqC : ({ sB with heap := sB.heap.push { cls := .type "list", data := .seq ([] : List Value).toArray } } : Shared) = sC at IC
  have h3 : sB.heap.push { cls := .type "list", data := .seq ([] : List Value).toArray } = sC.heap := by rw [← eqC]
  rw [h3] at st3 fC
  have B0 := block_start IC ok nd fC
  have gB := hg sC (upd HB D (.lst [])) sC.heap.objs.size (cellsFrom (sC.heap.objs.size + 1) scope.names (cloFrom X.env.cells scope.names [])) fp
  have tB := ht sC (upd HB D (.lst [])) sC.heap.objs.size (cellsFrom (sC.heap.objs.size + 1) scope.names (cloFrom X.env.cells scope.names [])) fp
  have eB := he sC (upd HB D (.lst [])) sC.heap.objs.size (cellsFrom (sC.heap.objs.size + 1) scope.names (cloFrom X.env.cells scope.names [])) fp
  show codeAny _ _ (.compStart (.ListComp elt [⟨tg, iter, ifs, 0⟩] scope pos) 0 (.ref it) (.ref D) (compEnvC scope (cellsFrom (sC.heap.objs.size + 1) scope.names (cloFrom X.env.cells scope.names [])) sC.heap.objs.size X.env)) (compPost (model X.prog X.w) X.A X.xe use Qf (.ref D) sC.heap.objs.size) { sC with heap := pushCells (sC.heap.push { cls := .type "dict", data := .dict #[] }) scope.names }
  have nofp : ∀ b ∈ fp, (upd HB D (.lst [])) b = none := fun b hb => (fC b hb).1.1
  generalize hce : compEnvC scope (cellsFrom (sC.heap.objs.size + 1) scope.names (cloFrom X.env.cells scope.names [])) sC.heap.objs.size X.env = cenv at B0 gB tB eB ⊢
  have locE : cenv.locals = sC.heap.objs.size := by subst hce; rfl
  generalize upd HB D (.lst []) = HC at IC B0 gB tB eB w0 nofp fC
  have up4 : ∀ b o, sC.heap.get? b = some o → (pushCells (sC.heap.push { cls := .type "dict", data := .dict #[] }) scope.names).get? b = some o := fun b o e => pushCells_keeps _ _ _ _ (Heap.get?_push_of_some _ e)
  have P3 := IC.pin p (List.mem_append_left _ hp2)
  have ID : Inv (X.blk sC HC scope cenv fp) [p] (wipe σ (own.map (·.2))) HC { sC with heap := pushCells (sC.heap.push { cls := .type "dict", data := .dict #[] }) scope.names } :=
    addPin B0 (up4 _ _ P3.1) P3.2.1 (by show p.1 ≠ cenv.locals; rw [locE]; exact Nat.ne_of_lt (Heap.lt_size P3.1)) (fun hm => (List.mem_cons.mp (IC.stkSub p.1 hm)).elim P3.2.2.1 P3.2.2.2.1) P3.2.2.2.2
  have st4 := T.keep _ _ _ st3 fun b _ o e => up4 b o e
  generalize eqD : ({ sC with heap := pushCells (sC.heap.push { cls := .type "dict", data := .dict #[] }) scope.names } : Shared) = sD at ID ⊢
  have st5 : tn 0 sD.heap := by rw [← eqD]; exact st4
  have pne : ∀ b ∈ fp, p.1 ≠ b := fun b hb => (fB b hb).2.2.2.2.2 p (List.mem_append_left _ hp2)
  have hotY : HotC { X.blk sC HC scope cenv fp with pn := p :: (X.blk sC HC scope cenv fp).pn } := ⟨p, hp1, List.mem_cons_self⟩
  -- the iterator's objects, seen from the block
  have FY : ∀ {σ' : L2.St} {H' : Hp} {s' : Shared}, Inv (X.blk sC HC scope cenv fp) [p] σ' H' s' → (∀ b ∈ fp, H' b = none) → ∀ b ∈ fp, FpOk (X.blk sC HC scope cenv fp) [p] H' b := fun {σ' H' s'} J n b hb =>
    ⟨n b hb, (J.ok.exf b hb).1, J.ok.exfs b hb, .inl hb, (J.ok.exf b hb).2, fun q hq => by cases List.mem_singleton.mp (show q ∈ [p] from hq); exact pne b hb⟩
  have FZ : ∀ {H' : Hp}, (∀ b ∈ fp, FpOk (X.blk sC HC scope cenv fp) [p] H' b) → ∀ b ∈ fp, FpOk { X.blk sC HC scope cenv fp with pn := p :: (X.blk sC HC scope cenv fp).pn } [] H' b := fun F b hb =>
    ⟨(F b hb).1, (F b hb).2.1, (F b hb).2.2.1, (F b hb).2.2.2.1, (F b hb).2.2.2.2.1, fun q hq => (F b hb).2.2.2.2.2 q hq⟩
  have loop : codeAny (model X.prog X.w) X.A (.compLoop (.ListComp elt [⟨tg, iter, ifs, 0⟩] scope pos) 0 (.ref it) (.ref D) cenv) (compPost (model X.prog X.w) X.A X.xe use Qf (.ref D) sC.heap.objs.size) sD := by
    refine compLoop_any (fun n s' => ∃ i H', Inv (X.blk sC HC scope cenv fp) [p] (wipe σ (own.map (·.2))) H' s' ∧ tn i s'.heap ∧ (∀ b ∈ fp, H' b = none) ∧ W i n H') (fun n s5 hI => ?_) m0 ⟨0, HC, ID, st5, nofp, w0⟩
    obtain ⟨i, H5, I5, t5, nE, wE⟩ := hI
    rcases step1 i n H5 wE with ⟨atEnd, qq⟩ | ⟨go, Nx, hnx, step⟩
    · refine thnF (T.done { X.blk sC HC scope cenv fp with pn := p :: (X.blk sC HC scope cenv fp).pn } rfl rfl rfl hotY i [] s5 _ H5 (fun _ _ => False) (hotB I5) (FZ (FY I5 nE)) t5 atEnd) fun r s6 hr => ?_
      obtain ⟨rfl, I6'⟩ := hr
      have I6 := hotA I6'
      have IG : Inv X pins σ H5 s6 := IC.call' (ch := fp) I6.os I6.base I6.hok I6.bare fun b hb => ⟨(fC b hb).1.2.2.2.1, (fC b hb).1.2.1, (fC b hb).1.2.2.2.2.1, (fC b hb).1.2.2.2.2.2⟩
      have nEnv : H5 sC.heap.objs.size = none := by
        have z : H5 cenv.locals = none := I6.free
        rw [locE] at z
        exact z
      obtain ⟨m, hn, _⟩ := I6.loc
      have hn : s6.heap.Ns sC.heap.objs.size m := by rw [← locE]; exact hn
      exact fin D sC.heap.objs.size s6 m H5 IG qq hn (IC.fpOk (Nat.le_refl _) nEnv)
    · refine thnF (T.item { X.blk sC HC scope cenv fp with pn := p :: (X.blk sC HC scope cenv fp).pn } rfl rfl rfl hotY i [] s5 _ H5 (fun _ _ => False) (hotB I5) (FZ (FY I5 nE)) t5 go) fun r s6 hr => ?_
      obtain ⟨u, rfl, h6⟩ := hr
      refine thnF h6 fun _ s7 h7 => ?_
      obtain ⟨x, H7, I7', r7, y7, t7, n7⟩ := h7
      have IG := hotA I7'
      have J7 := IG.pinned (FY IG n7) (T.obj _ _ t7)
      refine thnF (gB.run _ s7 _ H7 x u _ J7 r7 (step x H7 y7)) fun _ s8 h8 => ?_
      obtain ⟨σ8, H8, I8, hw8, q8⟩ := h8
      refine thnF (tB.run _ s8 σ8 H8 _ I8 q8) fun b s9 h9 => ?_
      obtain ⟨H9, I9, q9⟩ := h9
      -- the turn's end
      have back : ∀ {s' : Shared} {H' : Hp}, Inv (X.blk sC HC scope cenv fp) ([p] ++ pinsAt fp s7.heap) σ8 H' s' → Nx H' → ∃ m, m < n ∧ ∃ i H', Inv (X.blk sC HC scope cenv fp) [p] (wipe σ (own.map (·.2))) H' s' ∧ tn i s'.heap ∧ (∀ b ∈ fp, H' b = none) ∧ W i m H' := fun {s' H'} J nx => by
        obtain ⟨m', hm, w'⟩ := hnx H' nx
        have at_ : ∀ b ∈ fp, ∀ o, s7.heap.get? b = some o → s'.heap.get? b = some o ∧ H' b = none := fun b hb o e =>
          have z := J.pin (b, o) (List.mem_append_right _ (List.mem_append_right _ (mem_pinsAt hb e)))
          ⟨z.1, z.2.1⟩
        refine ⟨m', hm, i + 1, H', (J.unpinned (pins := [p])).weak (by rw [← hw8, wipe_length]) (fun j v e => ?_), T.keep _ _ _ t7 fun b hb o e => (at_ b hb o e).1, fun b hb => ?_, w'⟩
        · rw [← hw8] at e
          exact (wipe_some e).1
        · obtain ⟨o, e, _⟩ := T.obj _ _ t7 b hb
          exact (at_ b hb o e).2
      cases b with
      | false =>
        simp only [Bool.false_eq_true, if_false] at q9 ⊢
        exact back I9 q9
      | true =>
        simp only [if_true] at q9 ⊢
        refine thnF (eB.run _ s9 σ8 H9 _ I9 q9) fun z s10 h10 => ?_
        obtain ⟨yv, H10, I10, r10, acc, hD10, hz10, nx⟩ := h10
        exact app_ok (X := X.blk sC HC scope cenv fp) I10 hD10 hz10 r10 fun s11 I11 => back I11 nx
  exact codeAny_compStart_list loop (T.self X.A 0 _ _ _ st5 loop)
end
end Zh
set_option Elab.async false
set_option linter.all false
set_option maxRecDepth 100000
set_option maxHeartbeats 4000000
/-! Z0: plain data D, how it lies in the abstract heap (Rep), a frame's slots (Sl, EnvOk), how the heap goes on (Stp). -/
namespace Z
open PySem L2
/-- the tables of code objects that lambdas write at -/
class TabsT where
  T : List (Addr × Str)
variable [tabsI : TabsT]
structure TOk (G H : Hp) : Prop where
  tb : LamX.Tabs tabsI.T H
  gn : ∀ x ∈ tabsI.T, G x.1 = none
theorem TOk.ne {G H : Hp} (t : TOk G H) {x : Addr × Str} (hx : x ∈ tabsI.T) {p : Addr} (h : ∀ ps, H p ≠ some (.tbl ps)) : x.1 ≠ p := fun z => by
  obtain ⟨ps, h1, _⟩ := t.tb x hx
  rw [z] at h1
  exact h ps h1
/-- no code object -/
def nExt : HO → Prop
  | .ext _ => False
  | _ => True

inductive D where
  | non | bl (b : Bool) | int (i : Int) | str (x : Str)
  | tup (ds : List D) | lst (ds : List D)
  | obj (C : Addr) (ns : List Str) (ds : List D)
  | cls (a : Addr) | ty (n : String)
  | sto (cells : List Int)
  | scr (ns : List Int)
  | exc (a : Addr) (d : Option Addr) (ns : List Str) (ds : List D)

instance : Inhabited D := ⟨.non⟩

abbrev kS (x : Str) : Key := Sum.inr x
/-- the law's store: its six keys -/
def stoKeys : List Key := [kS "cells", kS "at", kS "rest", kS "left", kS "turn", kS "seed"]
def stoKvs (c : Addr) (a r l t s : Int) : List (Key × V) :=
  [(kS "cells", V.ref c), (kS "at", V.int a), (kS "rest", V.int r), (kS "left", V.int l), (kS "turn", V.int t), (kS "seed", V.int s)]
structure StoreAt (K : PySem.W.Frag) (G : Hp) (cells : List Int) (kvs : List (Key × V)) : Prop where
  ex : ∃ (c : Addr) (a r l t s : Int), kvs = stoKvs c a r l t s ∧
    G c = some (.lst (cells.map V.int)) ∧ cells.length ≤ 63 ∧ 0 ≤ a ∧ a ≤ cells.length ∧ 0 ≤ r ∧ r < 2 ^ 2560 ∧ (0 < l → cells ≠ [])
def stoC : HO → Option (Key × V)
  | .dK kvs => kvs.head?
  | _ => none
def isSto : HO → Prop
  | .dK kvs => kvs.map (·.1) = stoKeys
  | .tbl _ => True
  | _ => False

def StoreOk (K : PySem.W.Frag) (G H : Hp) (cells : List Int) (a : Addr) : Prop := ∃ kvs, H a = some (.dK kvs) ∧ StoreAt K G cells kvs

/-- an exception's dict, its fields' values -/
def XdV (G : Hp) (d : Option Addr) (ns : List Str) (vs : List V) : Prop := (d = none ∧ ns = [] ∧ vs = []) ∨ ∃ dd fs, d = some dd ∧ G dd = some (.xd fs) ∧ fs.map (·.1) = ns ∧ vs = fs.map (·.2)
mutual
def Rep (K : PySem.W.Frag) (G H : Hp) : D → V → Prop
  | .non, v => v = .non
  | .bl b, v => v = .bl b
  | .int i, v => v = .int i
  | .str x, v => v = .str x
  | .tup ds, v => ∃ a vs, v = .ref a ∧ SqT K G a vs ∧ RepL K G H ds vs
  | .lst ds, v => ∃ a vs, v = .ref a ∧ G a = some (.lst vs) ∧ RepL K G H ds vs
  | .obj C ns ds, v => ∃ a dx fs, v = .ref a ∧ G a = some (.ins C dx fs) ∧ fs.map (·.1) = ns ∧ RepL K G H ds (fs.map (·.2))
  | .cls a, v => v = .ref a
  | .ty n, v => v = .ty n
  | .sto cells, v => ∃ a, v = .ref a ∧ G a = none ∧ StoreOk K G H cells a
  | .scr ns, v => ∃ a, v = .ref a ∧ SqL K G a (ns.map V.int)
  | .exc a d ns ds, v => v = .ref a ∧ ∃ vs, XdV G d ns vs ∧ RepL K G H ds vs
def RepL (K : PySem.W.Frag) (G H : Hp) : List D → List V → Prop
  | [], vs => vs = []
  | d :: ds, vs => ∃ v r, vs = v :: r ∧ Rep K G H d v ∧ RepL K G H ds r
end

/-- how the heap goes on: G (what never changes) grows; what is not in G stays, but for stores -/
structure Stp (K : PySem.W.Frag) (G H G' H' : Hp) : Prop where
  exG : Same G G'
  sub : Same G' H'
  own : ∀ a o, H a = some o → G a = none → G' a = none ∧ (H' a = some o ∨ (isSto o ∧ ∃ o', H' a = some o' ∧ (isSto o' ∧ stoC o' = stoC o) ∧ ∀ cells, StoreOk K G H cells a → StoreOk K G' H' cells a))
  tab : TOk G H → TOk G' H'

section
variable {K : PySem.W.Frag} {G H G' H' G2 H2 : Hp} {a : Addr} {o : HO}

theorem StoreAt.mono {cells : List Int} {kvs : List (Key × V)} (e : Same G G') (h : StoreAt K G cells kvs) : StoreAt K G' cells kvs := by
  obtain ⟨c, a, r, l, t, s, e1, h2, h3⟩ := h.ex
  exact ⟨c, a, r, l, t, s, e1, e _ _ h2, h3⟩

theorem StoreOk.at_ {cells : List Int} (e : Same G G') (h : StoreOk K G H cells a) (h1 : H a = some o) (h2 : H' a = some o) : StoreOk K G' H' cells a := by
  obtain ⟨kvs, q1, q2⟩ := h
  rw [q1] at h1
  cases h1
  exact ⟨kvs, h2, q2.mono e⟩
theorem StoreOk.stp (s : Stp K G H G' H') {a : Addr} {cells : List Int} (g : G a = none) (h : StoreOk K G H cells a) : StoreOk K G' H' cells a := by
  obtain ⟨kvs, h1, h2⟩ := id h
  rcases (s.own a _ h1 g).2 with q | ⟨_, o', q1, q2, q3⟩
  · exact ⟨kvs, q, h2.mono s.exG⟩
  · exact q3 cells h

theorem Stp.refl (e : Same G H) : Stp K G H G H := ⟨Same.refl G, e, fun a o h g => ⟨g, .inl h⟩, fun t => t⟩

theorem Stp.trans (a : Stp K G H G' H') (b : Stp K G' H' G2 H2) : Stp K G H G2 H2 := by
  refine ⟨a.exG.trans b.exG, b.sub, fun x o h g => ?_, fun t => b.tab (a.tab t)⟩
  obtain ⟨g', h'⟩ := a.own x o h g
  rcases h' with h' | ⟨h1, o', h2, h3, h4⟩
  · obtain ⟨g2, q⟩ := b.own x o h' g'
    refine ⟨g2, ?_⟩
    rcases q with q | ⟨q1, o2, q2, q3, q4⟩
    · exact .inl q
    · exact .inr ⟨q1, o2, q2, q3, fun cells z => q4 cells (z.at_ a.exG h h')⟩
  · obtain ⟨g2, q⟩ := b.own x o' h2 g'
    refine ⟨g2, ?_⟩
    rcases q with q | ⟨q1, o2, q2, q3, q4⟩
    · exact .inr ⟨h1, o', q, h3, fun cells z => (h4 cells z).at_ b.exG h2 q⟩
    · exact .inr ⟨h1, o2, q2, ⟨q3.1, q3.2.trans h3.2⟩, fun cells z => q4 cells (h4 cells z)⟩
theorem Stp.free (s : Stp K G H G' H') {p : Addr} (hp : H' p = none) : H p = none := by
  cases q : H p with
  | none => rfl
  | some o =>
    cases g : G p with
    | some u =>
      have := s.sub _ _ (s.exG _ _ g)
      rw [hp] at this; cases this
    | none =>
      rcases (s.own p o q g).2 with z | ⟨_, kv, z, _⟩
      · rw [hp] at z; cases z
      · rw [hp] at z; cases z
/-- only new things -/
theorem Stp.new (e : Same G H) {p : Addr} {o : HO} (h : H p = none) : Stp K G H (upd G p o) (upd H p o) := by
  have g : G p = none := e.free h
  refine ⟨fun b u q => ?_, fun b u q => ?_, fun b u q n => ?_, fun t => ⟨t.tb.ext fun b u q => by rw [upd_ne (ne_of_none q h)]; exact q, fun x hx => by rw [upd_ne (t.ne hx fun ps z => by rw [h] at z; cases z)]; exact t.gn x hx⟩⟩
  · rw [upd_ne (ne_of_none q g)]; exact q
  · by_cases z : b = p
    · subst z; rw [upd_same] at q ⊢; exact q
    · rw [upd_ne z] at q ⊢; exact e b u q
  · have z : b ≠ p := ne_of_none q h
    rw [upd_ne z, upd_ne z]
    exact ⟨n, .inl q⟩
/-- a new thing that is not in G -/
theorem Stp.newM (e : Same G H) {p : Addr} {o : HO} (h : H p = none) : Stp K G H G (upd H p o) := by
  have g : G p = none := e.free h
  refine ⟨Same.refl G, fun b u q => ?_, fun b u q n => ?_, fun t => ⟨t.tb.ext fun b u q => by rw [upd_ne (ne_of_none q h)]; exact q, t.gn⟩⟩
  · have z : b ≠ p := ne_of_none q g
    rw [upd_ne z]; exact e b u q
  · have z : b ≠ p := ne_of_none q h
    rw [upd_ne z]
    exact ⟨n, .inl q⟩
end

section
variable {K : PySem.W.Frag} {G H G' H' G2 H2 : Hp}
theorem Same.tup {a : Addr} {xs : List V} (e : Same G G') (h : SqT K G a xs) : SqT K G' a xs := by
  rcases h with (h | ⟨o, h⟩) | h
  · exact .inl (.inl (e _ _ h))
  · exact .inl (.inr ⟨o, e _ _ h⟩)
  · exact .inr h
/-- what Rep leans on -/
structure Mo (K : PySem.W.Frag) (G H G' H' : Hp) : Prop where
  exG : Same G G'
  sto : ∀ a cells, G a = none → StoreOk K G H cells a → G' a = none ∧ StoreOk K G' H' cells a
theorem Stp.mo (s : Stp K G H G' H') : Mo K G H G' H' := ⟨s.exG, fun a cells g h => by
  obtain ⟨kvs, h1, h2⟩ := id h
  exact ⟨(s.own a _ h1 g).1, h.stp s g⟩⟩
theorem Mo.refl : Mo K G H G H := ⟨Same.refl G, fun _ _ g h => ⟨g, h⟩⟩
theorem Mo.trans (a : Mo K G H G' H') (b : Mo K G' H' G2 H2) : Mo K G H G2 H2 := ⟨a.exG.trans b.exG, fun x c g h => b.sto x c (a.sto x c g h).1 (a.sto x c g h).2⟩
/-- an object of one's own is put among what never changes -/
theorem Mo.freeze {p : Addr} {vs : List V} (h : H p = some (.lst vs)) (g : G p = none) : Mo K G H (upd G p (.lst vs)) H := by
  have e : Same G (upd G p (.lst vs)) := fun b u q => by rw [upd_ne (ne_of_none q g)]; exact q
  refine ⟨e, fun a cells n q => ?_⟩
  obtain ⟨kvs, h1, h2⟩ := q
  have z : a ≠ p := by
    intro z
    subst z
    rw [h] at h1
    cases h1
  exact ⟨by rw [upd_ne z]; exact n, kvs, h1, h2.mono e⟩
theorem Stp.freeze {p : Addr} {vs : List V} (s : Stp K G H G' H') (hp : H p = none) (h : H' p = some (.lst vs)) (g : G' p = none) : Stp K G H (upd G' p (.lst vs)) H' := by
  have e : Same G' (upd G' p (.lst vs)) := fun b u q => by rw [upd_ne (ne_of_none q g)]; exact q
  refine ⟨s.exG.trans e, fun b u q => ?_, fun b u q n => ?_, fun t => ⟨(s.tab t).tb, fun x hx => by rw [upd_ne ((s.tab t).ne hx fun ps z => by rw [h] at z; cases z)]; exact (s.tab t).gn x hx⟩⟩
  · by_cases z : b = p
    · subst z; rw [upd_same] at q; cases q; exact h
    · rw [upd_ne z] at q; exact s.sub b u q
  · have z : b ≠ p := ne_of_none q hp
    obtain ⟨n', q'⟩ := s.own b u q n
    refine ⟨by rw [upd_ne z]; exact n', ?_⟩
    rcases q' with q' | ⟨q1, o', q2, q3, q4⟩
    · exact .inl q'
    · exact .inr ⟨q1, o', q2, q3, fun cells w => by
        obtain ⟨kvs, w1, w2⟩ := q4 cells w
        exact ⟨kvs, w1, w2.mono e⟩⟩
theorem XdV.mo {d : Option Addr} {ns : List Str} {vs : List V} (e : Same G G') (h : XdV G d ns vs) : XdV G' d ns vs := by
  rcases h with h | ⟨dd, fs, h1, h2, h3⟩
  · exact .inl h
  · exact .inr ⟨dd, fs, h1, e _ _ h2, h3⟩
mutual
theorem Rep.mo (s : Mo K G H G' H') : ∀ {d : D} {v : V}, Rep K G H d v → Rep K G' H' d v
  | .non, v, h => by unfold Rep at h ⊢; exact h
  | .bl b, v, h => by unfold Rep at h ⊢; exact h
  | .int i, v, h => by unfold Rep at h ⊢; exact h
  | .str x, v, h => by unfold Rep at h ⊢; exact h
  | .tup ds, v, h => by
    unfold Rep at h ⊢
    obtain ⟨a, vs, e, h1, h2⟩ := h
    exact ⟨a, vs, e, Same.tup s.exG h1, RepL.mo s h2⟩
  | .lst ds, v, h => by
    unfold Rep at h ⊢
    obtain ⟨a, vs, e, h1, h2⟩ := h
    exact ⟨a, vs, e, s.exG _ _ h1, RepL.mo s h2⟩
  | .obj C ns ds, v, h => by
    unfold Rep at h ⊢
    obtain ⟨a, dx, fs, e, h1, h2, h3⟩ := h
    exact ⟨a, dx, fs, e, s.exG _ _ h1, h2, RepL.mo s h3⟩
  | .cls a, v, h => by unfold Rep at h ⊢; exact h
  | .ty n, v, h => by unfold Rep at h ⊢; exact h
  | .sto cells, v, h => by
    unfold Rep at h ⊢
    obtain ⟨a, e, g, h1⟩ := h
    obtain ⟨g', h2⟩ := s.sto a cells g h1
    exact ⟨a, e, g', h2⟩
  | .scr ns, v, h => by
    unfold Rep at h ⊢
    obtain ⟨a, e, h1⟩ := h
    exact ⟨a, e, Same.seq s.exG h1⟩
  | .exc a d ns ds, v, h => by
    unfold Rep at h ⊢
    obtain ⟨e, vs, h1, h2⟩ := h
    exact ⟨e, vs, XdV.mo s.exG h1, RepL.mo s h2⟩
theorem RepL.mo (s : Mo K G H G' H') : ∀ {ds : List D} {vs : List V}, RepL K G H ds vs → RepL K G' H' ds vs
  | [], vs, h => by unfold RepL at h ⊢; exact h
  | d :: ds, vs, h => by
    unfold RepL at h ⊢
    obtain ⟨v, r, e, h1, h2⟩ := h
    exact ⟨v, r, e, Rep.mo s h1, RepL.mo s h2⟩
end
theorem Rep.mono (s : Stp K G H G' H') {d : D} {v : V} (h : Rep K G H d v) : Rep K G' H' d v := h.mo s.mo
theorem RepL.mono (s : Stp K G H G' H') {ds : List D} {vs : List V} (h : RepL K G H ds vs) : RepL K G' H' ds vs := h.mo s.mo
theorem RepL.length : ∀ {ds : List D} {vs : List V}, RepL K G H ds vs → vs.length = ds.length
  | [], vs, h => by unfold RepL at h; subst h; rfl
  | d :: ds, vs, h => by
    unfold RepL at h
    obtain ⟨v, r, e, h1, h2⟩ := h
    subst e
    simp [RepL.length h2]
theorem RepL.get : ∀ {ds : List D} {vs : List V} {i : Nat} {d : D}, RepL K G H ds vs → ds[i]? = some d → ∃ v, vs[i]? = some v ∧ Rep K G H d v
  | [], vs, i, d, h, e => by simp at e
  | d0 :: ds, vs, 0, d, h, e => by
    unfold RepL at h
    obtain ⟨v, r, e1, h1, h2⟩ := h
    simp at e
    subst e e1
    exact ⟨v, rfl, h1⟩
  | d0 :: ds, vs, i + 1, d, h, e => by
    unfold RepL at h
    obtain ⟨v, r, e1, h1, h2⟩ := h
    subst e1
    obtain ⟨u, q1, q2⟩ := RepL.get h2 (show ds[i]? = some d by simpa using e)
    exact ⟨u, by simpa using q1, q2⟩
theorem RepL.back : ∀ {ds : List D} {vs : List V} {i : Nat} {v : V}, RepL K G H ds vs → vs[i]? = some v → ∃ d, ds[i]? = some d ∧ Rep K G H d v := fun {ds vs i v} h e => by
  have hl := h.length
  have hi : i < vs.length := (List.getElem?_eq_some_iff.mp e).1
  have hi2 : i < ds.length := by omega
  obtain ⟨u, q1, q2⟩ := h.get (i := i) (d := ds[i]) (by simp [hi2])
  rw [e] at q1
  cases q1
  exact ⟨ds[i], by simp [hi2], q2⟩
theorem RepL.append : ∀ {ds : List D} {vs : List V} {es : List D} {us : List V}, RepL K G H ds vs → RepL K G H es us → RepL K G H (ds ++ es) (vs ++ us)
  | [], vs, es, us, h, h' => by unfold RepL at h; subst h; exact h'
  | d :: ds, vs, es, us, h, h' => by
    unfold RepL at h
    obtain ⟨v, r, e, h1, h2⟩ := h
    subst e
    show RepL K G H (d :: (ds ++ es)) (v :: (r ++ us))
    unfold RepL
    exact ⟨v, _, rfl, h1, RepL.append h2 h'⟩
theorem RepL.nil : RepL K G H [] [] := by unfold RepL; rfl
theorem RepL.cons {d : D} {v : V} {ds : List D} {vs : List V} (h : Rep K G H d v) (h' : RepL K G H ds vs) : RepL K G H (d :: ds) (v :: vs) := by
  unfold RepL; exact ⟨v, vs, rfl, h, h'⟩
theorem RepL.one {d : D} {v : V} (h : Rep K G H d v) : RepL K G H [d] [v] := .cons h .nil
theorem RepL.take : ∀ {ds : List D} {vs : List V} (n : Nat), RepL K G H ds vs → RepL K G H (ds.take n) (vs.take n)
  | [], vs, n, h => by unfold RepL at h; subst h; simp; exact .nil
  | d :: ds, vs, 0, h => by simp; exact .nil
  | d :: ds, vs, n + 1, h => by
    unfold RepL at h
    obtain ⟨v, r, e, h1, h2⟩ := h
    subst e
    exact .cons h1 (RepL.take n h2)
theorem RepL.drop : ∀ {ds : List D} {vs : List V} (n : Nat), RepL K G H ds vs → RepL K G H (ds.drop n) (vs.drop n)
  | [], vs, n, h => by unfold RepL at h; subst h; simp; exact .nil
  | d :: ds, vs, 0, h => h
  | d :: ds, vs, n + 1, h => by
    unfold RepL at h
    obtain ⟨v, r, e, h1, h2⟩ := h
    subst e
    exact RepL.drop n h2
theorem RepL.ints : ∀ {ns : List Int} {vs : List V}, RepL K G H (ns.map D.int) vs → vs = ns.map V.int
  | [], vs, h => by unfold RepL at h; exact h
  | n :: ns, vs, h => by
    simp only [List.map_cons] at h ⊢
    unfold RepL Rep at h
    obtain ⟨v, r, e, h1, h2⟩ := h
    rw [e, h1, RepL.ints h2]
theorem RepL.ofInts : ∀ {ns : List Int}, RepL K G H (ns.map D.int) (ns.map V.int)
  | [] => .nil
  | n :: ns => .cons (by unfold Rep; rfl) RepL.ofInts
end

/-- data of which some lists are one's own, at any depth -/
inductive MT where
  | fz (d : D) | ls (ts : List MT) | tp (ts : List MT)
instance : Inhabited MT := ⟨.fz .non⟩
mutual
/-- how it lies in the heap; the addresses of the lists of one's own -/
def MRep (K : PySem.W.Frag) (G H : Hp) : MT → V → List Addr → Prop
  | .fz d, v, as => as = [] ∧ Rep K G H d v
  | .ls ts, v, as => ∃ p vs bs, v = .ref p ∧ H p = some (.lst vs) ∧ as = p :: bs ∧ MRepL K G H ts vs bs
  | .tp ts, v, as => ∃ p vs, v = .ref p ∧ G p = some (.tup vs) ∧ MRepL K G H ts vs as
def MRepL (K : PySem.W.Frag) (G H : Hp) : List MT → List V → List Addr → Prop
  | [], vs, as => vs = [] ∧ as = []
  | t :: ts, vs, as => ∃ v r a b, vs = v :: r ∧ as = a ++ b ∧ MRep K G H t v a ∧ MRepL K G H ts r b
end
/-- what stands at a path -/
def MT.kids : MT → List MT
  | .ls ts => ts
  | .tp ts => ts
  | .fz _ => []
def MT.sub : List Nat → MT → Option MT
  | [], t => some t
  | i :: π, t => (t.kids[i]?).bind (MT.sub π)
def MT.put (u : MT) : List Nat → MT → MT
  | [], _ => u
  | i :: π, .ls ts => .ls (ts.set i (MT.put u π ((ts[i]?).getD (.fz .non))))
  | i :: π, .tp ts => .tp (ts.set i (MT.put u π ((ts[i]?).getD (.fz .non))))
  | _ :: _, .fz d => .fz d
/-- .. and its value -/
def VAt (K : PySem.W.Frag) (G H : Hp) : List Nat → MT → V → V → Prop
  | [], _, v, w => v = w
  | i :: π, t, v, w => ∃ p vs ts t' x, v = .ref p ∧ ts[i]? = some t' ∧ vs[i]? = some x ∧ (t = .ls ts ∧ H p = some (.lst vs) ∨ t = .tp ts ∧ G p = some (.tup vs)) ∧ VAt K G H π t' x w
/-- what a slot of a frame holds: nothing known; data that never changes; a list of the frame's own; an object that is made; data with own lists in it, some of their addresses known -/
inductive Sl where
  | no | fz (d : D) | ow (ds : List D) | ob (C p : Addr) (ns : List Str) (ds : List D) | mt (t : MT) (pins : List (List Nat × Addr))
def SlOk (K : PySem.W.Frag) (G H H0 : Hp) : Sl → Option (Option V) → Prop
  | .no, _ => True
  | .fz d, o => ∃ v, o = some (some v) ∧ Rep K G H d v
  | .ow ds, o => ∃ p vs, o = some (some (.ref p)) ∧ H p = some (.lst vs) ∧ G p = none ∧ H0 p = none ∧ RepL K G H ds vs
  | .ob C p ns ds, o => ∃ dx fs, o = some (some (.ref p)) ∧ H p = some (.ins C dx fs) ∧ G p = none ∧ H0 p = none ∧ fs.map (·.1) = ns ∧ RepL K G H ds (fs.map (·.2))
  | .mt _ _, _ => True
/-- .. and its addresses -/
def SlF (K : PySem.W.Frag) (G H H0 : Hp) : Sl → Option (Option V) → List Addr → Prop
  | .no, _, as => as = []
  | .fz d, o, as => as = [] ∧ ∃ v, o = some (some v) ∧ Rep K G H d v
  | .ow ds, o, as => ∃ p vs, as = [p] ∧ o = some (some (.ref p)) ∧ H p = some (.lst vs) ∧ G p = none ∧ H0 p = none ∧ RepL K G H ds vs
  | .ob C p ns ds, o, as => ∃ dx fs, as = [p] ∧ o = some (some (.ref p)) ∧ H p = some (.ins C dx fs) ∧ G p = none ∧ H0 p = none ∧ fs.map (·.1) = ns ∧ RepL K G H ds (fs.map (·.2))
  | .mt t pins, o, as => ∃ v, o = some (some v) ∧ MRep K G H t v as ∧ as.Nodup ∧ (∀ a ∈ as, G a = none ∧ H0 a = none) ∧ ∀ x ∈ pins, VAt K G H x.1 t v (.ref x.2)
structure EnvOk (K : PySem.W.Frag) (G H H0 : Hp) (σ : St) (δ : List Sl) : Prop where
  len : σ.length = δ.length
  fp : ∃ F : Nat → List Addr, (∀ i : Nat, SlF K G H H0 ((δ[i]?).getD .no) σ[i]? (F i)) ∧ ∀ i j, i ≠ j → ∀ a ∈ F i, a ∉ F j
section
variable {K : PySem.W.Frag} {G H G' H' G2 H2 H0 : Hp} {σ : St} {δ : List Sl}
theorem SlF.ok {s : Sl} {o : Option (Option V)} {as : List Addr} (h : SlF K G H H0 s o as) : SlOk K G H H0 s o := by
  cases s with
  | no => trivial
  | fz d => exact h.2
  | ow ds => obtain ⟨p, vs, _, r⟩ := h; exact ⟨p, vs, r⟩
  | ob C p ns ds => obtain ⟨dx, fs, _, r⟩ := h; exact ⟨dx, fs, r⟩
  | mt t pins => trivial
theorem EnvOk.at_ (h : EnvOk K G H H0 σ δ) (i : Nat) (s : Sl) (e : δ[i]? = some s) : SlOk K G H H0 s σ[i]? := by
  obtain ⟨F, f, _⟩ := h.fp
  have := (f i).ok
  rw [e] at this
  exact this
/-! what lies at the addresses stays -/
def ownO : HO → Prop
  | .lst _ => True
  | .ins _ _ _ => True
  | _ => False
mutual
theorem MRep.own : ∀ {t : MT} {v : V} {as : List Addr}, MRep K G H t v as → ∀ a ∈ as, ∃ vs, H a = some (.lst vs)
  | .fz d, v, as, h, a, ha => by
    unfold MRep at h
    rw [h.1] at ha
    cases ha
  | .ls ts, v, as, h, a, ha => by
    unfold MRep at h
    obtain ⟨p, vs, bs, _, h1, e, h2⟩ := h
    rw [e] at ha
    cases ha with
    | head => exact ⟨vs, h1⟩
    | tail _ ha => exact MRepL.own h2 a ha
  | .tp ts, v, as, h, a, ha => by
    unfold MRep at h
    obtain ⟨p, vs, _, _, h2⟩ := h
    exact MRepL.own h2 a ha
theorem MRepL.own : ∀ {ts : List MT} {vs : List V} {as : List Addr}, MRepL K G H ts vs as → ∀ a ∈ as, ∃ vs, H a = some (.lst vs)
  | [], vs, as, h, a, ha => by
    unfold MRepL at h
    rw [h.2] at ha
    cases ha
  | t :: ts, vs, as, h, a, ha => by
    unfold MRepL at h
    obtain ⟨v, r, x, y, _, e, h1, h2⟩ := h
    rw [e] at ha
    rcases List.mem_append.mp ha with ha | ha
    · exact MRep.own h1 a ha
    · exact MRepL.own h2 a ha
end
mutual
theorem MRep.mo (m : Mo K G H G' H') : ∀ {t : MT} {v : V} {as : List Addr}, (∀ a ∈ as, H' a = H a) → MRep K G H t v as → MRep K G' H' t v as
  | .fz d, v, as, k, h => by
    unfold MRep at h ⊢
    exact ⟨h.1, h.2.mo m⟩
  | .ls ts, v, as, k, h => by
    unfold MRep at h ⊢
    obtain ⟨p, vs, bs, e0, h1, e, h2⟩ := h
    exact ⟨p, vs, bs, e0, by rw [k p (by rw [e]; exact .head _)]; exact h1, e, MRepL.mo m (fun a ha => k a (by rw [e]; exact .tail _ ha)) h2⟩
  | .tp ts, v, as, k, h => by
    unfold MRep at h ⊢
    obtain ⟨p, vs, e0, h1, h2⟩ := h
    exact ⟨p, vs, e0, m.exG _ _ h1, MRepL.mo m k h2⟩
theorem MRepL.mo (m : Mo K G H G' H') : ∀ {ts : List MT} {vs : List V} {as : List Addr}, (∀ a ∈ as, H' a = H a) → MRepL K G H ts vs as → MRepL K G' H' ts vs as
  | [], vs, as, k, h => by
    unfold MRepL at h ⊢
    exact h
  | t :: ts, vs, as, k, h => by
    unfold MRepL at h ⊢
    obtain ⟨v, r, x, y, e1, e, h1, h2⟩ := h
    exact ⟨v, r, x, y, e1, e, MRep.mo m (fun a ha => k a (by rw [e]; exact List.mem_append_left _ ha)) h1, MRepL.mo m (fun a ha => k a (by rw [e]; exact List.mem_append_right _ ha)) h2⟩
end
theorem MRepL.get : ∀ {ts : List MT} {vs : List V} {as : List Addr} {i : Nat} {t : MT}, MRepL K G H ts vs as → ts[i]? = some t → ∃ v pre b post, vs[i]? = some v ∧ as = pre ++ (b ++ post) ∧ MRep K G H t v b ∧
    ∀ G' H' u b', Mo K G H G' H' → (∀ a ∈ pre, H' a = H a) → (∀ a ∈ post, H' a = H a) → MRep K G' H' u v b' → MRepL K G' H' (ts.set i u) vs (pre ++ (b' ++ post))
  | [], vs, as, i, t, h, e => by simp at e
  | t0 :: ts, vs, as, 0, t, h, e => by
    unfold MRepL at h
    obtain ⟨v, r, x, y, e1, e2, h1, h2⟩ := h
    simp at e
    subst e
    refine ⟨v, [], x, y, by rw [e1]; rfl, e2, h1, fun G' H' u b' m _ kq hu => ?_⟩
    show MRepL K G' H' (u :: ts) vs (b' ++ y)
    unfold MRepL
    exact ⟨v, r, b', y, e1, rfl, hu, MRepL.mo m kq h2⟩
  | t0 :: ts, vs, as, i + 1, t, h, e => by
    unfold MRepL at h
    obtain ⟨v, r, x, y, e1, e2, h1, h2⟩ := h
    obtain ⟨w, pre, b, post, q1, q2, q3, q4⟩ := MRepL.get h2 (show ts[i]? = some t by simpa using e)
    refine ⟨w, x ++ pre, b, post, by rw [e1]; simpa using q1, by rw [e2, q2]; simp, q3, fun G' H' u b' m kp kq hu => ?_⟩
    show MRepL K G' H' (t0 :: ts.set i u) vs (x ++ pre ++ (b' ++ post))
    unfold MRepL
    exact ⟨v, r, x, pre ++ (b' ++ post), e1, by simp, MRep.mo m (fun a ha => kp a (List.mem_append_left _ ha)) h1, q4 G' H' u b' m (fun a ha => kp a (List.mem_append_right _ ha)) kq hu⟩
/-- the part at a path, and what may be put there -/
theorem MRep.focus : ∀ (π : List Nat) {t u : MT} {v : V} {as : List Addr}, MRep K G H t v as → t.sub π = some u → ∃ w pre b post, VAt K G H π t v w ∧ as = pre ++ (b ++ post) ∧ MRep K G H u w b ∧
    ∀ G' H' u' b', Mo K G H G' H' → (∀ a ∈ pre, H' a = H a) → (∀ a ∈ post, H' a = H a) → MRep K G' H' u' w b' → MRep K G' H' (MT.put u' π t) v (pre ++ (b' ++ post))
  | [], t, u, v, as, h, e => by
    unfold MT.sub at e
    cases e
    exact ⟨v, [], as, [], rfl, by simp, h, fun G' H' u' b' _ _ _ hu => by unfold MT.put; simpa using hu⟩
  | i :: π, .fz d, u, v, as, h, e => by simp [MT.sub, MT.kids] at e
  | i :: π, .ls ts, u, v, as, h, e => by
    unfold MT.sub MT.kids at e
    cases q : ts[i]? with
    | none => rw [q] at e; cases e
    | some t' =>
      rw [q] at e
      unfold MRep at h
      obtain ⟨p, vs, bs, e1, h1, e2, h2⟩ := h
      obtain ⟨x, pre, b, post, q1, q2, q3, q4⟩ := h2.get q
      obtain ⟨w, pre', b', post', r1, r2, r3, r4⟩ := MRep.focus π q3 e
      refine ⟨w, p :: (pre ++ pre'), b', post' ++ post, ⟨p, vs, ts, t', x, e1, q, q1, .inl ⟨rfl, h1⟩, r1⟩, by rw [e2, q2, r2]; simp, r3, fun G' H' u' c m kp kq hu => ?_⟩
      have hh := r4 G' H' u' c m (fun a ha => kp a (by simp [ha])) (fun a ha => kq a (by simp [ha])) hu
      have hs := q4 G' H' _ _ m (fun a ha => kp a (by simp [ha])) (fun a ha => kq a (by simp [ha])) hh
      unfold MT.put
      rw [q]
      unfold MRep
      exact ⟨p, vs, _, e1, by rw [kp p (by simp)]; exact h1, rfl, by simpa using hs⟩
  | i :: π, .tp ts, u, v, as, h, e => by
    unfold MT.sub MT.kids at e
    cases q : ts[i]? with
    | none => rw [q] at e; cases e
    | some t' =>
      rw [q] at e
      unfold MRep at h
      obtain ⟨p, vs, e1, h1, h2⟩ := h
      obtain ⟨x, pre, b, post, q1, q2, q3, q4⟩ := h2.get q
      obtain ⟨w, pre', b', post', r1, r2, r3, r4⟩ := MRep.focus π q3 e
      refine ⟨w, pre ++ pre', b', post' ++ post, ⟨p, vs, ts, t', x, e1, q, q1, .inr ⟨rfl, h1⟩, r1⟩, by rw [q2, r2]; simp, r3, fun G' H' u' c m kp kq hu => ?_⟩
      have hh := r4 G' H' u' c m (fun a ha => kp a (by simp [ha])) (fun a ha => kq a (by simp [ha])) hu
      have hs := q4 G' H' _ _ m (fun a ha => kp a (by simp [ha])) (fun a ha => kq a (by simp [ha])) hh
      unfold MT.put
      rw [q]
      unfold MRep
      exact ⟨p, vs, e1, m.exG _ _ h1, by simpa using hs⟩
theorem VAt.mo (e : Same G G') : ∀ {π : List Nat} {t : MT} {v w : V} {as : List Addr}, MRep K G H t v as → (∀ a ∈ as, H' a = H a) → VAt K G H π t v w → VAt K G' H' π t v w
  | [], t, v, w, as, _, _, h => h
  | i :: π, t, v, w, as, r, k, h => by
    obtain ⟨p, vs, ts, t', x, e1, q1, q2, q3, q4⟩ := h
    rcases q3 with ⟨rfl, h1⟩ | ⟨rfl, h1⟩
    · unfold MRep at r
      obtain ⟨p', vs', bs, e1', h1', e2, h2⟩ := r
      rw [e1] at e1'
      cases e1'
      rw [h1] at h1'
      cases h1'
      obtain ⟨x', pre, b, post, s1, s2, s3, _⟩ := h2.get q1
      rw [q2] at s1
      cases s1
      exact ⟨p, vs, ts, t', x, e1, q1, q2, .inl ⟨rfl, by rw [k p (by rw [e2]; exact .head _)]; exact h1⟩, VAt.mo e s3 (fun a ha => k a (by rw [e2, s2]; simp [ha])) q4⟩
    · unfold MRep at r
      obtain ⟨p', vs', e1', h1', h2⟩ := r
      rw [e1] at e1'
      cases e1'
      rw [h1] at h1'
      cases h1'
      obtain ⟨x', pre, b, post, s1, s2, s3, _⟩ := h2.get q1
      rw [q2] at s1
      cases s1
      exact ⟨p, vs, ts, t', x, e1, q1, q2, .inr ⟨rfl, e _ _ h1⟩, VAt.mo e s3 (fun a ha => k a (by rw [s2]; simp [ha])) q4⟩
theorem SlF.own {s : Sl} {o : Option (Option V)} {as : List Addr} (h : SlF K G H H0 s o as) : ∀ a ∈ as, G a = none ∧ H0 a = none ∧ ∃ u, H a = some u ∧ ownO u := by
  cases s with
  | no => intro a ha; rw [show as = [] from h] at ha; cases ha
  | fz d => intro a ha; rw [h.1] at ha; cases ha
  | ow ds =>
    obtain ⟨p, vs, e, _, h1, g, h0, _⟩ := h
    intro a ha
    rw [e] at ha
    cases List.mem_singleton.mp ha
    exact ⟨g, h0, _, h1, trivial⟩
  | ob C p ns ds =>
    obtain ⟨dx, fs, e, _, h1, g, h0, _⟩ := h
    intro a ha
    rw [e] at ha
    cases List.mem_singleton.mp ha
    exact ⟨g, h0, _, h1, trivial⟩
  | mt t pins =>
    obtain ⟨v, _, h1, _, h2, _⟩ := h
    intro a ha
    obtain ⟨vs, h3⟩ := h1.own a ha
    exact ⟨(h2 a ha).1, (h2 a ha).2, _, h3, trivial⟩
theorem SlF.mo {s : Sl} {o : Option (Option V)} {as : List Addr} (m : Mo K G H G' H') (k : ∀ a ∈ as, H' a = H a ∧ G' a = none) (h : SlF K G H H0 s o as) : SlF K G' H' H0 s o as := by
  cases s with
  | no => exact h
  | fz d =>
    obtain ⟨e, v, e1, r⟩ := h
    exact ⟨e, v, e1, r.mo m⟩
  | ow ds =>
    obtain ⟨p, vs, e, e1, h1, g, h0, r⟩ := h
    obtain ⟨q1, q2⟩ := k p (by rw [e]; exact .head _)
    exact ⟨p, vs, e, e1, by rw [q1]; exact h1, q2, h0, r.mo m⟩
  | ob C p ns ds =>
    obtain ⟨dx, fs, e, e1, h1, g, h0, hn, r⟩ := h
    obtain ⟨q1, q2⟩ := k p (by rw [e]; exact .head _)
    exact ⟨dx, fs, e, e1, by rw [q1]; exact h1, q2, h0, hn, r.mo m⟩
  | mt t pins =>
    obtain ⟨v, e1, h1, nd, h2, hp⟩ := h
    exact ⟨v, e1, h1.mo m (fun a ha => (k a ha).1), nd, fun a ha => ⟨(k a ha).2, (h2 a ha).2⟩, fun x hx => (hp x hx).mo m.exG h1 (fun a ha => (k a ha).1)⟩
theorem ownO.nsto {o : HO} (h : ownO o) : ¬ isSto o := by
  cases o <;> first | exact h.elim | exact fun z => z.elim
theorem SlF.mono {s : Sl} {o : Option (Option V)} {as : List Addr} (t : Stp K G H G' H') (h : SlF K G H H0 s o as) : SlF K G' H' H0 s o as := by
  refine h.mo t.mo fun a ha => ?_
  obtain ⟨g, _, u, h1, h2⟩ := h.own a ha
  obtain ⟨g', q⟩ := t.own a u h1 g
  rcases q with q | ⟨q, _⟩
  · exact ⟨by rw [q, h1], g'⟩
  · exact (h2.nsto q).elim
theorem EnvOk.mono (t : Stp K G H G' H') (h : EnvOk K G H H0 σ δ) : EnvOk K G' H' H0 σ δ := by
  obtain ⟨F, f, dj⟩ := h.fp
  exact ⟨h.len, F, fun i => (f i).mono t, dj⟩
theorem EnvOk.fz (h : EnvOk K G H H0 σ δ) {i : Nat} {d : D} (e : δ[i]? = some (.fz d)) : ∃ v, σ[i]? = some (some v) ∧ Rep K G H d v := h.at_ i _ e
/-- one slot anew; the addresses of the others stay -/
theorem EnvOk.anew {F : Nat → List Addr} {σ' : St} {s' : Sl} {i : Nat} {as' : List Addr} (hl : σ.length = δ.length) (f : ∀ j : Nat, SlF K G H H0 ((δ[j]?).getD .no) σ[j]? (F j)) (dj : ∀ i j, i ≠ j → ∀ a ∈ F i, a ∉ F j)
    (m : Mo K G H G' H') (k : ∀ j, j ≠ i → ∀ a ∈ F j, H' a = H a ∧ G' a = none) (hl' : σ'.length = σ.length) (hσ : ∀ j, j ≠ i → σ'[j]? = σ[j]?) (new : i < δ.length → SlF K G' H' H0 s' σ'[i]? as') (dn : ∀ j, j ≠ i → ∀ a ∈ as', a ∉ F j) : EnvOk K G' H' H0 σ' (δ.set i s') := by
  by_cases hi : i < δ.length
  · refine ⟨by simp [hl', hl], fun j => if j = i then as' else F j, fun j => ?_, fun j l n a ha => ?_⟩
    · by_cases z : j = i
      · subst z
        rw [List.getElem?_set_self hi]
        simp only [if_true]
        exact new hi
      · rw [List.getElem?_set_ne (fun w => z w.symm)]
        simp only [if_neg z]
        rw [hσ j z]
        exact (f j).mo m (k j z)
    · by_cases z : j = i
      · subst z
        simp only [if_true] at ha
        simp only [if_neg (fun w => n (Eq.symm w))]
        exact dn l (fun w => n w.symm) a ha
      · simp only [if_neg z] at ha
        by_cases z2 : l = i
        · subst z2
          simp only [if_true]
          exact fun hb => dn j z a hb ha
        · simp only [if_neg z2]
          exact dj j l n a ha
  · have ed : δ.set i s' = δ := List.set_eq_of_length_le (by omega)
    have n0 : ∀ j, j = i → F j = [] := by
      intro j z
      subst z
      have := f j
      rw [List.getElem?_eq_none (by omega)] at this
      exact this
    rw [ed]
    refine ⟨by rw [hl', hl], F, fun j => ?_, dj⟩
    by_cases z : j = i
    · subst z
      rw [List.getElem?_eq_none (show δ.length ≤ j by omega), n0 j rfl]
      rfl
    · rw [hσ j z]
      exact (f j).mo m (k j z)
theorem EnvOk.at0 {F : Nat → List Addr} (f : ∀ j : Nat, SlF K G H H0 ((δ[j]?).getD .no) σ[j]? (F j)) {i : Nat} {s : Sl} (e : δ[i]? = some s) : SlF K G H H0 s σ[i]? (F i) := by
  have := f i
  rw [e] at this
  exact this
theorem EnvOk.set (h : EnvOk K G H H0 σ δ) {i : Nat} {d : D} {v : V} (r : Rep K G H d v) : EnvOk K G H H0 (σ.set i (some v)) (δ.set i (.fz d)) := by
  obtain ⟨F, f, dj⟩ := h.fp
  exact EnvOk.anew (as' := []) h.len f dj .refl (fun j _ a ha => ⟨rfl, ((f j).own a ha).1⟩) (by simp) (fun j n => List.getElem?_set_ne (fun w => n w.symm)) (fun hi => ⟨rfl, v, by rw [List.getElem?_set_self (by rw [h.len]; exact hi)], r⟩) (fun _ _ a ha => by cases ha)
/-- a slot forgotten -/
theorem EnvOk.forget (h : EnvOk K G H H0 σ δ) (i : Nat) (o : Option V) : EnvOk K G H H0 (σ.set i o) (δ.set i .no) := by
  obtain ⟨F, f, dj⟩ := h.fp
  exact EnvOk.anew (as' := []) h.len f dj .refl (fun j _ a ha => ⟨rfl, ((f j).own a ha).1⟩) (by simp) (fun j n => List.getElem?_set_ne (fun w => n w.symm)) (fun _ => rfl) (fun _ _ a ha => by cases ha)
end
end Z
set_option Elab.async false
set_option linter.all false
set_option maxRecDepth 100000
set_option maxHeartbeats 4000000
/-! Z1: what a piece of code does to plain data: JE, JT, JA, JS .. over the program's own syntax; their rules. -/
namespace Z
open PySem L2
variable [tabsI : TabsT]

/-- what is known of a block's names: slots, scope, the names that may be read, that may be stored, the globals -/
structure Scp where
  N : List Str
  sc : Scope
  vs : List (Str × Nat)
  ss : List (Str × Nat)
  gl : List Str
  lv : Nat
/-- is an exception being handled: no; yes (its address, class, dict); yes, unknown here -/
inductive Md where
  | calm | hot (h : Addr × Addr × Option Addr) | blind
/-- the surroundings of a body that runs -/
structure Cg where
  P : Program
  w : World
  K : PySem.W.Frag
  mg : Str → Option Value
  base : Heap
  G0 : Hp
  H0 : Hp
  ex : List Sl → Value → List Str → List D → Prop
  rf : MT → Prop
  blk : Bool
  md : Md
  cd : Option (Addr × Addr × Str) := none

structure Scp.Ok (S : Scp) : Prop where
  nd : S.N.Nodup
  vs : ∀ p ∈ S.vs, S.N[p.2]? = some p.1 ∧ Vis S.sc p.1
  ss : ∀ p ∈ S.ss, S.N[p.2]? = some p.1 ∧ Loc S.sc p.1
  gl : ∀ x ∈ S.gl, S.sc.names.lookup x = some .globalImplicit

/-- an exception's own fields -/
def XdOk (K : PySem.W.Frag) (G H : Hp) (d : Option Addr) (ns : List Str) (ds : List D) : Prop :=
  (d = none ∧ ns = [] ∧ ds = []) ∨ ∃ dd fs, d = some dd ∧ G dd = some (.xd fs) ∧ fs.map (·.1) = ns ∧ RepL K G H ds (fs.map (·.2))
def wx (Γ : Cg) : WX := fun cls d σ H => ∃ G δ ns ds, Stp Γ.K Γ.G0 Γ.H0 G H ∧ EnvOk Γ.K G H Γ.H0 σ δ ∧ XdOk Γ.K G H d ns ds ∧ Γ.ex δ cls ns ds

/-- no exception is handled -/
class Calm (Γ : Cg) : Prop where
  hx : Γ.md = .calm
theorem unH {k : Nat} {A : Around} (r : L2H.RoomH k A) : A.units + 64 < cLine := by have := r.un; omega
theorem unH1 {k : Nat} {A : Around} (r : L2H.RoomH k A) : A.units + 1 < cLine := by have := r.un; omega
/-- the exception that the suite holds -/
def HeldX (X : Cx) (h : Addr × Addr × Option Addr) : Prop := ∃ oe, (h.1, oe) ∈ X.pn ∧ L2H.Hot1 X.A (h.1, oe) ∧ oe.cls = .ref h.2.1 ∧ oe.dict = h.2.2 ∧ X.calm = false ∧ (∃ vs, oe.data = .fields vs)
structure COk (S : Scp) (Γ : Cg) (X : Cx) : Prop where
  so : S.Ok
  prog : X.prog = Γ.P
  w : X.w = Γ.w
  K : X.K = Γ.K
  mg : X.mg = Γ.mg
  base : X.base = Γ.base
  N : X.N = S.N
  sc : X.env.scope = S.sc
  calm : Γ.md = .calm → X.calm = true
  room : Γ.md = .calm → Room S.lv X.A
  roomH : L2H.RoomH S.lv X.A
  hot : ∀ h, Γ.md = .hot h → HeldX X h
  st : ∀ x, x ∈ S.ss → X.fn x.1 = true ∨ X.env.scope.names.lookup x.1 = some .local
  def_ : Γ.blk = false → X.stack = X.env :: X.outer ∧ X.env.frame = some X.env.locals ∧ X.ex = [] ∧ PassesOwn (model X.prog X.w) X.A X.env X.xe
  tk : L2N.Takes X (wx Γ)
  tb : TOk Γ.G0 Γ.H0
  cd : ∀ c P q, Γ.cd = some (c, P, q) → X.env.code = .ref c ∧ X.env.qual = q

/-! ### the weakest readings -/
section
variable (X : Cx)
def wE (e : Expr) : TE := fun σ H Q => ∀ pins s, Inv X pins σ H s → wpAny (model X.prog X.w) X.A (eval e X.env) (EP X pins σ Q) X.xe s
def wT (e : Expr) : TT := fun σ H Q => ∀ pins s, Inv X pins σ H s → wpAny (model X.prog X.w) X.A (isTrue e X.env (eval e X.env)) (TP X pins σ Q) X.xe s
def wA (es : List Expr) : TA := fun σ H Q => ∀ pos pins s, Inv X pins σ H s → wpAny (model X.prog X.w) X.A (spliced (backTo pos (starEach es X.env))) (AP X pins σ Q) X.xe s
def wS (st : Stmt) : TS := fun D σ H => ∀ pins s, Inv X pins σ H s → wpAny (model X.prog X.w) X.A (exec st X.env) (SP X pins D) X.xe s
def wSs (st : List Stmt) : TS := fun D σ H => ∀ pins s, Inv X pins σ H s → wpAny (model X.prog X.w) X.A (execs st X.env) (SP X pins D) X.xe s
def wG (tg : Expr) : TG := fun v σ H Q => ∀ pins s u, Inv X pins σ H s → RelV v u → wpAny (model X.prog X.w) X.A (assign tg X.env u) (fun _ s' => ∃ σ' H', Inv X pins σ' H' s' ∧ Q σ' H') X.xe s
def wGs (ts : List Expr) : TGs := fun vs σ H Q => ∀ pins s us, Inv X pins σ H s → Vals vs us → wpAny (model X.prog X.w) X.A (assignInOrder ((assignEach ts X.env).map (·.2)) us) (fun _ s' => ∃ σ' H', Inv X pins σ' H' s' ∧ Q σ' H') X.xe s
def wO (f : Value → Value → Sem Value) : R2 := fun x y H Q => ∀ pins s σ v u, Inv X pins σ H s → RelV x v → RelV y u → wpAny (model X.prog X.w) X.A (f v u) (EP X pins σ Q) X.xe s
def wU (f : Value → Sem Value) : V → Hp → VK → Prop := fun x H Q => ∀ pins s σ v, Inv X pins σ H s → RelV x v → wpAny (model X.prog X.w) X.A (f v) (EP X pins σ Q) X.xe s
def wC (f : Value) : List V → Hp → VK → Prop := fun xs H Q => ∀ pins s σ us, Inv X pins σ H s → Vals xs us → wpAny (model X.prog X.w) X.A (call f us) (EP X pins σ Q) X.xe s
def wI (tg e : Expr) : TI := fun σ H R => ∀ pins s, Inv X pins σ H s → wpAny (model X.prog X.w) X.A (eval e X.env) (fun v s1 => wpAny (model X.prog X.w) X.A (pyIter v) (fun u s2 => (X.calm = true → PIE X pins σ tg R u s2) ∧ (X.calm = false → L2H.PIEH X pins σ tg R u s2)) X.xe s1) X.xe s
def wX (f : Value → Value → Sem Value) : R2 := wO X f
end
section
variable {X : Cx} {e tg : Expr} {es : List Expr} {st : Stmt} {sts : List Stmt} {σ : St} {H : Hp}
theorem wE_pe : PE X e (wE X e) := ⟨fun pins s _ _ _ I h => h pins s I⟩
theorem wT_pt : PT X e (wT X e) := ⟨fun pins s _ _ _ I h => h pins s I⟩
theorem wA_pa : PA X es (wA X es) := ⟨fun pos pins s _ _ _ I h => h pos pins s I⟩
theorem wS_ps : PS X st (wS X st) := ⟨fun pins s _ _ _ I h => h pins s I⟩
theorem wSs_pss : PSs X sts (wSs X sts) := ⟨fun pins s _ _ _ I h => h pins s I⟩
theorem wG_pg : PG X tg (wG X tg) := ⟨fun pins s _ _ _ u _ I r h => h pins s u I r⟩
theorem wGs_pgs : PGs X es (wGs X es) := ⟨fun pins s _ _ _ u _ I r h => h pins s u I r⟩
theorem wI_pi (hc : X.calm = true) : PI X tg e (wI X tg e) := ⟨fun pins s _ _ _ I h => thn (h pins s I) fun v s1 z => thn z fun u s2 y => y.1 hc⟩
theorem wI_piH (hc : X.calm = false) : L2H.PIH X tg e (wI X tg e) := ⟨fun pins s _ _ _ I h => thn (h pins s I) fun v s1 z => thn z fun u s2 y => y.2 hc⟩
theorem wO_r {f : Value → Value → Sem Value} : OpR X f (wO X f) := fun pins s σ _ _ _ v u _ I r1 r2 h => h pins s σ v u I r1 r2
theorem wU_r {f : Value → Sem Value} : UnR X f (wU X f) := fun pins s σ _ _ v _ I r1 h => h pins s σ v I r1
theorem wC_r {f : Value} : CallR X f (wC X f) := fun pins s σ _ _ us _ I r1 h => h pins s σ us I r1
theorem PEw {t : TE} {Q : VK} (h : PE X e t) (q : t σ H Q) : wE X e σ H Q := fun pins s I => h.run pins s σ H Q I q
theorem PTw {t : TT} {Q : Bool → Hp → Prop} (h : PT X e t) (q : t σ H Q) : wT X e σ H Q := fun pins s I => h.run pins s σ H Q I q
theorem PAw {t : TA} {Q : List V → Hp → Prop} (h : PA X es t) (q : t σ H Q) : wA X es σ H Q := fun pos pins s I => h.run pos pins s σ H Q I q
theorem PSw {t : TS} {D : Ends} (h : PS X st t) (q : t D σ H) : wS X st D σ H := fun pins s I => h.run pins s σ H D I q
theorem PSsw {t : TS} {D : Ends} (h : PSs X sts t) (q : t D σ H) : wSs X sts D σ H := fun pins s I => h.run pins s σ H D I q
theorem PGw {t : TG} {v : V} {Q : St → Hp → Prop} (h : PG X tg t) (q : t v σ H Q) : wG X tg v σ H Q := fun pins s u I r => h.run pins s σ H v u Q I r q
theorem PGsw {t : TGs} {vs : List V} {Q : St → Hp → Prop} (h : PGs X es t) (q : t vs σ H Q) : wGs X es vs σ H Q := fun pins s u I r => h.run pins s σ H vs u Q I r q
theorem PIw {t : TI} {R : It → Hp → Prop} (hc : X.calm = true) (h : PI X tg e t) (q : t σ H R) : wI X tg e σ H R := fun pins s I => thn (h.run pins s σ H R I q) fun v s1 z => thn z fun u s2 y => ⟨fun _ => y, (fun hf => by rw [hc] at hf; cases hf)⟩
theorem PIwB {t : TI} {R : It → Hp → Prop} (h : PI X tg e t) (h' : L2H.PIH X tg e t) (q : t σ H R) : wI X tg e σ H R := fun pins s I => by
  cases hc : X.calm with
  | true => exact thn (h.run pins s σ H R I q) fun v s1 z => thn z fun u s2 y => ⟨fun _ => y, (fun hf => by cases hf)⟩
  | false => exact thn (h'.run pins s σ H R I q) fun v s1 z => thn z fun u s2 y => ⟨(fun hf => by cases hf), fun _ => y⟩
theorem OpRw {f : Value → Value → Sem Value} {r : R2} {x y : V} {Q : VK} (h : OpR X f r) (q : r x y H Q) : wO X f x y H Q := fun pins s σ v u I r1 r2 => h pins s σ H x y v u Q I r1 r2 q
theorem UnRw {f : Value → Sem Value} {r : V → Hp → VK → Prop} {x : V} {Q : VK} (h : UnR X f r) (q : r x H Q) : wU X f x H Q := fun pins s σ v I r1 => h pins s σ H x v Q I r1 q
theorem CallRw {f : Value} {r : List V → Hp → VK → Prop} {xs : List V} {Q : VK} (h : CallR X f r) (q : r xs H Q) : wC X f xs H Q := fun pins s σ us I r1 => h pins s σ H xs us Q I r1 q
end

/-! ### the judgements -/
section
variable (S : Scp) (Γ : Cg)
structure JE (e : Expr) (δ : List Sl) (P : D → Prop) : Prop where
  run : ∀ X, COk S Γ X → ∀ σ G H, Stp Γ.K Γ.G0 Γ.H0 G H → EnvOk Γ.K G H Γ.H0 σ δ → ∀ Q : VK, (∀ v G' H' d, Stp Γ.K G H G' H' → Rep Γ.K G' H' d v → P d → Q v H') → wE X e σ H Q
/-- a new list of one's own -/
structure JF (e : Expr) (δ : List Sl) (P : List D → Prop) : Prop where
  run : ∀ X, COk S Γ X → ∀ σ G H, Stp Γ.K Γ.G0 Γ.H0 G H → EnvOk Γ.K G H Γ.H0 σ δ → ∀ Q : VK, (∀ p vs G' H' ds, Stp Γ.K G H G' H' → H p = none → G' p = none → H' p = some (.lst vs) → RepL Γ.K G' H' ds vs → P ds → Q (.ref p) H') → wE X e σ H Q
structure JT (e : Expr) (δ : List Sl) (P : Bool → Prop) : Prop where
  run : ∀ X, COk S Γ X → ∀ σ G H, Stp Γ.K Γ.G0 Γ.H0 G H → EnvOk Γ.K G H Γ.H0 σ δ → ∀ Q : Bool → Hp → Prop, (∀ b G' H', Stp Γ.K G H G' H' → P b → Q b H') → wT X e σ H Q
structure JA (es : List Expr) (δ : List Sl) (P : List D → Prop) : Prop where
  run : ∀ X, COk S Γ X → ∀ σ G H, Stp Γ.K Γ.G0 Γ.H0 G H → EnvOk Γ.K G H Γ.H0 σ δ → ∀ Q : List V → Hp → Prop, (∀ vs G' H' ds, Stp Γ.K G H G' H' → RepL Γ.K G' H' ds vs → P ds → Q vs H') → wA X es σ H Q
structure OpD (f : Value → Value → Sem Value) (x y : D) (P : D → Prop) : Prop where
  run : ∀ X, COk S Γ X → ∀ v u G H, Stp Γ.K Γ.G0 Γ.H0 G H → Rep Γ.K G H x v → Rep Γ.K G H y u → ∀ Q : VK, (∀ z G' H' d, Stp Γ.K G H G' H' → Rep Γ.K G' H' d z → P d → Q z H') → wO X f v u H Q
structure UnD (f : Value → Sem Value) (x : D) (P : D → Prop) : Prop where
  run : ∀ X, COk S Γ X → ∀ v G H, Stp Γ.K Γ.G0 Γ.H0 G H → Rep Γ.K G H x v → ∀ Q : VK, (∀ z G' H' d, Stp Γ.K G H G' H' → Rep Γ.K G' H' d z → P d → Q z H') → wU X f v H Q
structure CallD (f : Value) (xs : List D) (P : D → Prop) : Prop where
  run : ∀ X, COk S Γ X → ∀ vs G H, Stp Γ.K Γ.G0 Γ.H0 G H → RepL Γ.K G H xs vs → ∀ Q : VK, (∀ z G' H' d, Stp Γ.K G H G' H' → Rep Γ.K G' H' d z → P d → Q z H') → wC X f vs H Q
structure Kp where
  nx : List Sl → Prop
  rt : D → Prop
  bk : List Sl → Prop := fun _ => False
  ct : List Sl → Prop := fun _ => False
structure EndOk (K : Kp) (De : Ends) (G H : Hp) : Prop where
  nx : ∀ σ' G' H' δ', Stp Γ.K Γ.G0 Γ.H0 G' H' → Mo Γ.K G H G' H' → EnvOk Γ.K G' H' Γ.H0 σ' δ' → K.nx δ' → De.nx σ' H'
  bk : ∀ σ' G' H' δ', Stp Γ.K Γ.G0 Γ.H0 G' H' → Mo Γ.K G H G' H' → EnvOk Γ.K G' H' Γ.H0 σ' δ' → K.bk δ' → De.bk σ' H'
  ct : ∀ σ' G' H' δ', Stp Γ.K Γ.G0 Γ.H0 G' H' → Mo Γ.K G H G' H' → EnvOk Γ.K G' H' Γ.H0 σ' δ' → K.ct δ' → De.ct σ' H'
  rt : ∀ v G' H' d, Stp Γ.K Γ.G0 Γ.H0 G' H' → Rep Γ.K G' H' d v → K.rt d → De.rt v H'
  rf : ∀ v as t G' H', Stp Γ.K Γ.G0 Γ.H0 G' H' → MRep Γ.K G' H' t v as → as.Nodup → (∀ a ∈ as, G' a = none ∧ Γ.H0 a = none) → Γ.rf t → De.rt v H'
theorem EndOk.go {Γ : Cg} {K : Kp} {De : Ends} {G H G1 H1 : Hp} (en : EndOk Γ K De G H) (m : Mo Γ.K G H G1 H1) : EndOk Γ K De G1 H1 :=
  ⟨fun σ' G' H' δ' s m' => en.nx σ' G' H' δ' s (m.trans m'), fun σ' G' H' δ' s m' => en.bk σ' G' H' δ' s (m.trans m'), fun σ' G' H' δ' s m' => en.ct σ' G' H' δ' s (m.trans m'), en.rt, en.rf⟩
structure JS (st : Stmt) (δ : List Sl) (K : Kp) : Prop where
  run : ∀ X, COk S Γ X → ∀ σ G H De, Stp Γ.K Γ.G0 Γ.H0 G H → EnvOk Γ.K G H Γ.H0 σ δ → EndOk Γ K De G H → wS X st De σ H
structure JSs (st : List Stmt) (δ : List Sl) (K : Kp) : Prop where
  run : ∀ X, COk S Γ X → ∀ σ G H De, Stp Γ.K Γ.G0 Γ.H0 G H → EnvOk Γ.K G H Γ.H0 σ δ → EndOk Γ K De G H → wSs X st De σ H
structure JG (tg : Expr) (d : D) (δ : List Sl) (P : List Sl → Prop) : Prop where
  run : ∀ X, COk S Γ X → ∀ v σ G H, Stp Γ.K Γ.G0 Γ.H0 G H → EnvOk Γ.K G H Γ.H0 σ δ → Rep Γ.K G H d v → ∀ Q : St → Hp → Prop, (∀ σ' G' H' δ', Stp Γ.K G H G' H' → EnvOk Γ.K G' H' Γ.H0 σ' δ' → P δ' → Q σ' H') → wG X tg v σ H Q
structure JGs (tgs : List Expr) (ds : List D) (δ : List Sl) (P : List Sl → Prop) : Prop where
  run : ∀ X, COk S Γ X → ∀ vs σ G H, Stp Γ.K Γ.G0 Γ.H0 G H → EnvOk Γ.K G H Γ.H0 σ δ → RepL Γ.K G H ds vs → ∀ Q : St → Hp → Prop, (∀ σ' G' H' δ', Stp Γ.K G H G' H' → EnvOk Γ.K G' H' Γ.H0 σ' δ' → P δ' → Q σ' H') → wGs X tgs vs σ H Q
end

section
variable {S : Scp} {Γ : Cg} {δ : List Sl} {P : D → Prop} {PB : Bool → Prop} {PL : List D → Prop} {K : Kp} {a b c e : Expr} {es rest : List Expr} {pos : Pos}

/-! ### expressions -/
theorem je_name {x : Str} {i : Nat} {d : D} (hv : (x, i) ∈ S.vs) (hδ : δ[i]? = some (.fz d)) (h : P d) (hd : (x == ("__debug__" : Str)) = false := by decide) (hcd : (x == ("__classdict__" : Str)) = false := by decide) : JE S Γ (.Name x pos) δ P := by
  refine ⟨fun X hX σ G H st ev Q k => ?_⟩
  obtain ⟨h1, h2⟩ := hX.so.vs _ hv
  obtain ⟨v, e, r⟩ := ev.fz hδ
  exact PEw (pe_var (by rw [hX.N]; exact h1) (by rw [hX.sc]; exact h2) hd hcd) ⟨v, e, k v G H d (.refl st.sub) r h⟩
theorem rep_int {K : PySem.W.Frag} {G H : Hp} {i : Int} : Rep K G H (.int i) (.int i) := by unfold Rep; rfl
theorem rep_bl {K : PySem.W.Frag} {G H : Hp} {i : Bool} : Rep K G H (.bl i) (.bl i) := by unfold Rep; rfl
theorem rep_non {K : PySem.W.Frag} {G H : Hp} : Rep K G H .non .non := by unfold Rep; rfl
theorem rep_str {K : PySem.W.Frag} {G H : Hp} {x : Str} : Rep K G H (.str x) (.str x) := by unfold Rep; rfl
theorem je_int {i : Int} {j : Nat} (h : P (.int i)) : JE S Γ (.Constant (.int i) j pos) δ P := ⟨fun X hX σ G H st ev Q k => PEw pe_int (k _ G H _ (.refl st.sub) rep_int h)⟩
theorem je_bl {i : Bool} {j : Nat} (h : P (.bl i)) : JE S Γ (.Constant (.bool i) j pos) δ P := ⟨fun X hX σ G H st ev Q k => PEw pe_bl (k _ G H _ (.refl st.sub) rep_bl h)⟩
theorem je_non {j : Nat} (h : P .non) : JE S Γ (.Constant .none j pos) δ P := ⟨fun X hX σ G H st ev Q k => PEw pe_non (k _ G H _ (.refl st.sub) rep_non h)⟩
theorem je_str {x : Str} {j : Nat} (h : P (.str x)) : JE S Γ (.Constant (.str x) j pos) δ P := ⟨fun X hX σ G H st ev Q k => PEw pe_str (k _ G H _ (.refl st.sub) rep_str h)⟩
/-- a global of the module that is a known address (a class, a def) -/
theorem je_globA {x : Str} {A : Addr} (hg : x ∈ S.gl) (hm : Γ.mg x = some (.ref A)) (h : P (.cls A)) (hd : (x == ("__debug__" : Str)) = false := by decide) : JE S Γ (.Name x pos) δ P := by
  refine ⟨fun X hX σ G H st ev Q k => ?_⟩
  have hk : Gl X x := by show X.env.scope.names.lookup x = _; rw [hX.sc]; exact hX.so.gl x hg
  exact PEw (pe_glob (v := .ref A) hk (by rw [hX.mg]; exact hm) rfl hd) (k _ G H _ (.refl st.sub) (by unfold Rep; rfl) h)
theorem je_globT {x : Str} {T : String} (hg : x ∈ S.gl) (hm : Γ.mg x = none) (hb : bootBuiltins x = some (.type T)) (h : P (.ty T)) (hn : x ≠ "__name__" := by decide) (hd : (x == ("__debug__" : Str)) = false := by decide) : JE S Γ (.Name x pos) δ P := by
  refine ⟨fun X hX σ G H st ev Q k => ?_⟩
  have hk : Gl X x := by show X.env.scope.names.lookup x = _; rw [hX.sc]; exact hX.so.gl x hg
  exact PEw (pe_bltn (v := .ty T) hk (by rw [hX.mg]; exact hm) hb rfl hn hd) (k _ G H _ (.refl st.sub) (by unfold Rep; rfl) h)
theorem je_bin {op : Operator} (h : JE S Γ a δ fun x => JE S Γ b δ fun y => OpD S Γ (binaryOp op) x y P) : JE S Γ (.BinOp a op b pos) δ P := by
  refine ⟨fun X hX σ G H st ev Q k => ?_⟩
  refine PEw (pe_op wO_r wE_pe wE_pe) ?_
  refine h.run X hX σ G H st ev _ fun v G1 H1 x s1 r1 h1 => ?_
  refine h1.run X hX σ G1 H1 (st.trans s1) (ev.mono s1) _ fun u G2 H2 y s2 r2 h2 => ?_
  exact h2.run X hX v u G2 H2 ((st.trans s1).trans s2) (r1.mono s2) r2 Q fun z G' H' d s r p => k z G' H' d ((s1.trans s2).trans s) r p
theorem je_un {op : UnaryOp} (h : JE S Γ a δ fun x => UnD S Γ (unaryOp op) x P) : JE S Γ (.UnaryOp op a pos) δ P := by
  refine ⟨fun X hX σ G H st ev Q k => ?_⟩
  refine PEw (pe_un wU_r wE_pe) ?_
  refine h.run X hX σ G H st ev _ fun v G1 H1 x s1 r1 h1 => ?_
  exact h1.run X hX v G1 H1 (st.trans s1) r1 Q fun z G' H' d s r p => k z G' H' d (s1.trans s) r p
theorem je_cmp {op : CmpOp} (hm : behindInMarks op b = false) (h : JE S Γ a δ fun x => JE S Γ b δ fun y => OpD S Γ (compareOp op) x y P) : JE S Γ (.Compare a [op] [b] pos) δ P := by
  refine ⟨fun X hX σ G H st ev Q k => ?_⟩
  refine PEw (pe_cmpR wO_r wE_pe wE_pe hm) ?_
  refine h.run X hX σ G H st ev _ fun v G1 H1 x s1 r1 h1 => ?_
  refine h1.run X hX σ G1 H1 (st.trans s1) (ev.mono s1) _ fun u G2 H2 y s2 r2 h2 => ?_
  exact h2.run X hX v u G2 H2 ((st.trans s1).trans s2) (r1.mono s2) r2 Q fun z G' H' d s r p => k z G' H' d ((s1.trans s2).trans s) r p
def isBl (P : Bool → Prop) (d : D) : Prop := match d with | .bl b => P b | _ => False
theorem isBl_v {K : PySem.W.Frag} {G H : Hp} {PB : Bool → Prop} {d : D} {v : V} (h : isBl PB d) (r : Rep K G H d v) : ∃ b, v = .bl b ∧ d = .bl b ∧ PB b := by
  cases d <;> first | exact h.elim | skip
  unfold Rep at r
  exact ⟨_, r, rfl, h⟩
theorem jt_cmp {op : CmpOp} (hm : behindInMarks op b = false) (h : JE S Γ a δ fun x => JE S Γ b δ fun y => OpD S Γ (compareOp op) x y (isBl PB)) : JT S Γ (.Compare a [op] [b] pos) δ PB := by
  refine ⟨fun X hX σ G H st ev Q k => ?_⟩
  refine PTw (pt_cmpR wO_r wE_pe wE_pe hm) ?_
  refine h.run X hX σ G H st ev _ fun v G1 H1 x s1 r1 h1 => ?_
  refine h1.run X hX σ G1 H1 (st.trans s1) (ev.mono s1) _ fun u G2 H2 y s2 r2 h2 => ?_
  refine h2.run X hX v u G2 H2 ((st.trans s1).trans s2) (r1.mono s2) r2 _ fun z G' H' d s r p => ?_
  obtain ⟨bb, e1, e2, q⟩ := isBl_v p r
  exact ⟨bb, e1, k bb G' H' ((s1.trans s2).trans s) q⟩
/-- a op1 b op2 c -/
theorem jt_chain {op op' : CmpOp} (hm : lastMarks [op, op'] [b, c] = false)
    (h : JE S Γ a δ fun x => JE S Γ b δ fun y => OpD S Γ (compareOp op) x y (isBl fun t => if t = true then JE S Γ c δ fun z => OpD S Γ (compareOp op') y z (isBl PB) else PB false)) : JT S Γ (.Compare a [op, op'] [b, c] pos) δ PB := by
  refine ⟨fun X hX σ G H st ev Q k => ?_⟩
  refine PTw (pt_chain wO_r wO_r wE_pe wE_pe wE_pe hm) ?_
  refine h.run X hX σ G H st ev _ fun v G1 H1 x s1 r1 h1 => ?_
  refine h1.run X hX σ G1 H1 (st.trans s1) (ev.mono s1) _ fun u G2 H2 y s2 r2 h2 => ?_
  refine h2.run X hX v u G2 H2 ((st.trans s1).trans s2) (r1.mono s2) r2 _ fun z G3 H3 d s r p => ?_
  obtain ⟨bb, e1, e2, q⟩ := isBl_v p r
  refine ⟨bb, e1, ?_⟩
  cases bb with
  | false => exact L2.iteF ⟨false, rfl, k false G3 H3 ((s1.trans s2).trans s) q⟩
  | true =>
    refine L2.iteT ?_
    refine q.run X hX σ G3 H3 (((st.trans s1).trans s2).trans s) (((ev.mono s1).mono s2).mono s) _ fun z' G4 H4 d4 s4 r4 h4 => ?_
    refine h4.run X hX u z' G4 H4 ((((st.trans s1).trans s2).trans s).trans s4) ((r2.mono s).mono s4) r4 _ fun z5 G5 H5 d5 s5 r5 p5 => ?_
    obtain ⟨b5, e5, _, q5⟩ := isBl_v p5 r5
    exact ⟨b5, e5, k b5 G5 H5 ((((s1.trans s2).trans s).trans s4).trans s5) q5⟩
/-- a test by a bool value -/
theorem jt_val (h : JE S Γ e δ (isBl PB)) (he : ∀ env whole, isTrue e env whole = (do let v ← whole; standAt e.pos; holding [v] (truthy v))) : JT S Γ e δ PB := by
  refine ⟨fun X hX σ G H st ev Q k => ?_⟩
  refine PTw (pt_val wE_pe (he _)) ?_
  refine h.run X hX σ G H st ev _ fun v G1 H1 x s1 r1 h1 => ?_
  obtain ⟨bb, e1, e2, q⟩ := isBl_v h1 r1
  exact ⟨bb, e1, k bb G1 H1 s1 q⟩
theorem jt_not (h : JT S Γ a δ fun t => PB (!t)) : JT S Γ (.UnaryOp .Not a pos) δ PB := by
  refine ⟨fun X hX σ G H st ev Q k => ?_⟩
  refine PTw (pt_not wT_pt) ?_
  exact h.run X hX σ G H st ev _ fun b G1 H1 s1 p => k (!b) G1 H1 s1 p
/-- and / or: the rest is asked as a whole of its own -/
def wTw (X : Cx) (e : Expr) : TT := fun σ H Q => ∀ (whole : Sem Value) pins s, Inv X pins σ H s → wpAny (model X.prog X.w) X.A (isTrue e X.env whole) (TP X pins σ Q) X.xe s
structure JW (S : Scp) (Γ : Cg) (e : Expr) (δ : List Sl) (P : Bool → Prop) : Prop where
  run : ∀ X, COk S Γ X → ∀ σ G H, Stp Γ.K Γ.G0 Γ.H0 G H → EnvOk Γ.K G H Γ.H0 σ δ → ∀ Q : Bool → Hp → Prop, (∀ b G' H', Stp Γ.K G H G' H' → P b → Q b H') → wTw X e σ H Q
theorem wTw_pw {X : Cx} : PW X e (wTw X e) := ⟨fun wh pins s _ _ _ I h => h wh pins s I⟩
theorem jw_t (h : JW S Γ e δ PB) : JT S Γ e δ PB := ⟨fun X hX σ G H st ev Q k pins s I => h.run X hX σ G H st ev Q k _ pins s I⟩
theorem jw_and1 (h : JT S Γ a δ PB) : JW S Γ (.BoolOp .And [a] pos) δ PB := by
  refine ⟨fun X hX σ G H st ev Q k wh pins s I => ?_⟩
  exact (pw_and1 wT_pt).run wh pins s σ H Q I (h.run X hX σ G H st ev Q k)
theorem jw_or1 (h : JT S Γ a δ PB) : JW S Γ (.BoolOp .Or [a] pos) δ PB := by
  refine ⟨fun X hX σ G H st ev Q k wh pins s I => ?_⟩
  exact (pw_or1 wT_pt).run wh pins s σ H Q I (h.run X hX σ G H st ev Q k)
theorem jw_and (h : JT S Γ a δ fun t => if t = true then JW S Γ (.BoolOp .And (b :: rest) pos) δ PB else PB false) : JW S Γ (.BoolOp .And (a :: b :: rest) pos) δ PB := by
  refine ⟨fun X hX σ G H st ev Q k wh pins s I => ?_⟩
  refine (pw_and wT_pt wTw_pw).run wh pins s σ H Q I ?_
  refine h.run X hX σ G H st ev _ fun t G1 H1 s1 p => ?_
  cases t with
  | false => exact L2.iteF (k _ G1 H1 s1 p)
  | true => exact L2.iteT ((show JW _ _ _ _ _ from p).run X hX σ G1 H1 (st.trans s1) (ev.mono s1) Q fun b G2 H2 s2 q => k b G2 H2 (s1.trans s2) q)
theorem jw_or (h : JT S Γ a δ fun t => if t = true then PB true else JW S Γ (.BoolOp .Or (b :: rest) pos) δ PB) : JW S Γ (.BoolOp .Or (a :: b :: rest) pos) δ PB := by
  refine ⟨fun X hX σ G H st ev Q k wh pins s I => ?_⟩
  refine (pw_or wT_pt wTw_pw).run wh pins s σ H Q I ?_
  refine h.run X hX σ G H st ev _ fun t G1 H1 s1 p => ?_
  cases t with
  | true => exact L2.iteT (k _ G1 H1 s1 p)
  | false => exact L2.iteF ((show JW _ _ _ _ _ from p).run X hX σ G1 H1 (st.trans s1) (ev.mono s1) Q fun b G2 H2 s2 q => k b G2 H2 (s1.trans s2) q)
/-! .. as values -/
theorem je_one {op : BoolOp} (h : JE S Γ a δ P) : JE S Γ (.BoolOp op [a] pos) δ P := ⟨fun X hX σ G H st ev Q k => PEw (pe_one wE_pe) (h.run X hX σ G H st ev Q k)⟩
theorem je_and (h : JE S Γ a δ (isBl fun t => if t = true then JE S Γ (.BoolOp .And (b :: rest) pos) δ P else P (.bl false))) : JE S Γ (.BoolOp .And (a :: b :: rest) pos) δ P := by
  refine ⟨fun X hX σ G H st ev Q k => ?_⟩
  refine PEw (pe_and wE_pe wE_pe) ?_
  refine h.run X hX σ G H st ev _ fun v G1 H1 x s1 r1 h1 => ?_
  obtain ⟨bb, e1, e2, q⟩ := isBl_v h1 r1
  refine ⟨bb, e1, ?_⟩
  cases bb with
  | false => exact L2.iteF (k _ G1 H1 _ s1 rep_bl q)
  | true => exact L2.iteT ((show JE _ _ _ _ _ from q).run X hX σ G1 H1 (st.trans s1) (ev.mono s1) Q fun v G2 H2 d s2 r p => k v G2 H2 d (s1.trans s2) r p)
theorem je_not (h : JE S Γ a δ (isBl fun t => P (.bl (!t)))) : JE S Γ (.UnaryOp .Not a pos) δ P := by
  refine ⟨fun X hX σ G H st ev Q k => ?_⟩
  refine PEw (L2.pe_not wE_pe) ?_
  refine h.run X hX σ G H st ev _ fun v G1 H1 x s1 r1 h1 => ?_
  obtain ⟨bb, e1, e2, q⟩ := isBl_v h1 r1
  exact ⟨bb, e1, k _ G1 H1 _ s1 rep_bl q⟩
theorem je_if (h : JT S Γ c δ fun t => if t = true then JE S Γ a δ P else JE S Γ b δ P) : JE S Γ (.IfExp c a b pos) δ P := by
  refine ⟨fun X hX σ G H st ev Q k => ?_⟩
  refine PEw (pe_ifExp wT_pt wE_pe wE_pe) ?_
  refine h.run X hX σ G H st ev _ fun t G1 H1 s1 p => ?_
  cases t with
  | true => exact L2.iteT ((show JE _ _ _ _ _ from p).run X hX σ G1 H1 (st.trans s1) (ev.mono s1) Q fun v G2 H2 d s2 r p => k v G2 H2 d (s1.trans s2) r p)
  | false => exact L2.iteF ((show JE _ _ _ _ _ from p).run X hX σ G1 H1 (st.trans s1) (ev.mono s1) Q fun v G2 H2 d s2 r p => k v G2 H2 d (s1.trans s2) r p)

/-! ### argument lists, displays -/
theorem ja_nil (h : PL []) : JA S Γ [] δ PL := ⟨fun X hX σ G H st ev Q k => PAw pa_nil (k _ G H _ (.refl st.sub) .nil h)⟩
theorem ja_cons (hs : ∀ env, starEach (e :: es) env = (false, eval e env) :: starEach es env) (h : JE S Γ e δ fun d => JA S Γ es δ fun ds => PL (d :: ds)) : JA S Γ (e :: es) δ PL := by
  refine ⟨fun X hX σ G H st ev Q k => ?_⟩
  refine PAw (pa_cons wE_pe wA_pa (hs _)) ?_
  refine h.run X hX σ G H st ev _ fun v G1 H1 x s1 r1 h1 => ?_
  refine h1.run X hX σ G1 H1 (st.trans s1) (ev.mono s1) _ fun vs G2 H2 ds s2 r2 h2 => ?_
  exact k _ G2 H2 _ (s1.trans s2) (.cons (r1.mono s2) r2) h2
theorem je_tup {k : Nat} (h : JA S Γ es δ fun ds => ds.length ≤ sizeLine ∧ P (.tup ds)) : JE S Γ (.Tuple es k pos) δ P := by
  refine ⟨fun X hX σ G H st ev Q kk => ?_⟩
  refine PEw (pe_tup wA_pa) ?_
  refine h.run X hX σ G H st ev _ fun vs G1 H1 ds s1 r1 h1 => ?_
  refine ⟨by rw [r1.length]; exact h1.1, fun p hp => ?_⟩
  have s2 : Stp Γ.K G1 H1 (upd G1 p (.tup vs)) (upd H1 p (.tup vs)) := .new s1.sub hp
  refine kk _ _ _ (.tup ds) (s1.trans s2) ?_ h1.2
  unfold Rep
  exact ⟨p, vs, rfl, .inl (.inl upd_same), r1.mono s2⟩
theorem jf_lst (h : JA S Γ es δ fun ds => ds.length ≤ sizeLine ∧ PL ds) : JF S Γ (.List es pos) δ PL := by
  refine ⟨fun X hX σ G H st ev Q kk => ?_⟩
  refine PEw (pe_lst wA_pa) ?_
  refine h.run X hX σ G H st ev _ fun vs G1 H1 ds s1 r1 h1 => ?_
  refine ⟨by rw [r1.length]; exact h1.1, fun p hp => ?_⟩
  have s2 : Stp Γ.K G1 H1 G1 (upd H1 p (.lst vs)) := .newM s1.sub hp
  exact kk p vs G1 _ ds (s1.trans s2) (s1.free hp) (s1.sub.free hp) upd_same (r1.mono s2) h1.2
/-- a new list, never changed afterwards -/
theorem jf_je (h : JF S Γ e δ fun ds => P (.lst ds)) : JE S Γ e δ P := by
  refine ⟨fun X hX σ G H st ev Q kk => ?_⟩
  refine h.run X hX σ G H st ev _ fun p vs G1 H1 ds s1 hp gp h1 r h2 => ?_
  refine kk _ _ _ (.lst ds) (s1.freeze hp h1 gp) ?_ h2
  unfold Rep
  exact ⟨p, vs, rfl, upd_same, r.mo (.freeze h1 gp)⟩
end
end Z
set_option Elab.async false
set_option linter.all false
set_option maxRecDepth 100000
set_option maxHeartbeats 4000000
/-! Z2: subscripts, operations, built-in calls, calls of defs. -/
namespace Z
open PySem L2
variable [tabsI : TabsT]

section
variable {S : Scp} {Γ : Cg} {δ : List Sl} {P : D → Prop} {PB : Bool → Prop} {PL : List D → Prop} {a b c e : Expr} {es rest : List Expr} {pos : Pos}

/-! ### a[b] -/
def wIx (X : Cx) : R2 := fun x y H Q => ∀ (value slice : Expr) pins s σ v u, Inv X pins σ H s → RelV x v → RelV y u → subscripted slice false v u = operate [v, u] (getItem v u) → wpAny (model X.prog X.w) X.A (PyProof.Rows.subscriptTail value slice v u) (EP X pins σ Q) X.xe s
theorem wIx_r {X : Cx} : IxR X (wIx X) := fun value slice pins s σ _ _ _ v u _ I r1 r2 h hs => h value slice pins s σ v u I r1 r2 hs
theorem IxRw {X : Cx} {r : R2} {x y : V} {H : Hp} {Q : VK} (h : IxR X r) (q : r x y H Q) : wIx X x y H Q := fun value slice pins s σ v u I r1 r2 hs => h value slice pins s σ H x y v u Q I r1 r2 q hs
structure IxD (S : Scp) (Γ : Cg) (x y : D) (P : D → Prop) : Prop where
  run : ∀ X, COk S Γ X → ∀ v u G H, Stp Γ.K Γ.G0 Γ.H0 G H → Rep Γ.K G H x v → Rep Γ.K G H y u → ∀ Q : VK, (∀ z G' H' d, Stp Γ.K G H G' H' → Rep Γ.K G' H' d z → P d → Q z H') → wIx X v u H Q
theorem je_ix (hs : PlainIx b) (h : JE S Γ a δ fun x => JE S Γ b δ fun y => IxD S Γ x y P) : JE S Γ (.Subscript a b pos) δ P := by
  refine ⟨fun X hX σ G H st ev Q k => ?_⟩
  refine PEw (pe_ix wIx_r wE_pe wE_pe hs) ?_
  refine h.run X hX σ G H st ev _ fun v G1 H1 x s1 r1 h1 => ?_
  refine h1.run X hX σ G1 H1 (st.trans s1) (ev.mono s1) _ fun u G2 H2 y s2 r2 h2 => ?_
  exact h2.run X hX v u G2 H2 ((st.trans s1).trans s2) (r1.mono s2) r2 Q fun z G' H' d s r p => k z G' H' d ((s1.trans s2).trans s) r p
theorem RepL.atI {K : PySem.W.Frag} {G H : Hp} {ds : List D} {vs : List V} {i : Int} {d : D} (h : RepL K G H ds vs) (e : L2.atI ds i = some d) : ∃ v, L2.atI vs i = some v ∧ Rep K G H d v := by
  unfold L2.atI at e ⊢
  rw [h.length]
  cases q : ixN ds.length i with
  | none => rw [q] at e; cases e
  | some j =>
    rw [q] at e
    exact h.get (show ds[j]? = some d from e)
theorem ixd_tup {ds : List D} {i : Int} {d : D} (e : L2.atI ds i = some d) (h : P d) : IxD S Γ (.tup ds) (.int i) P := by
  refine ⟨fun X hX v u G H st r1 r2 Q k => ?_⟩
  unfold Rep at r1 r2
  obtain ⟨p, vs, rfl, h1, h2⟩ := r1
  subst r2
  obtain ⟨z, e1, r⟩ := h2.atI e
  refine IxRw ix_tup ⟨p, vs, i, z, rfl, rfl, ?_, e1, k z G H d (.refl st.sub) r h⟩
  rw [hX.K]
  exact Same.tup st.sub h1
theorem ixd_lst {ds : List D} {i : Int} {d : D} (e : L2.atI ds i = some d) (h : P d) : IxD S Γ (.lst ds) (.int i) P := by
  refine ⟨fun X hX v u G H st r1 r2 Q k => ?_⟩
  unfold Rep at r1 r2
  obtain ⟨p, vs, rfl, h1, h2⟩ := r1
  subst r2
  obtain ⟨z, e1, r⟩ := h2.atI e
  exact IxRw ix_list ⟨p, vs, i, z, rfl, rfl, .inl (.inl (st.sub _ _ h1)), e1, k z G H d (.refl st.sub) r h⟩
/-! ### operations on ints -/
/-- an operation on ints, its rule in HandS -/
theorem opd_I {f : Value → Value → Sem Value} {C : Int → Int → Prop} {g : Int → Int → Int} (hr : ∀ X, OpR X f (rI C fun i j => .int (g i j))) {i j : Int} (hc : C i j) (h : P (.int (g i j))) : OpD S Γ f (.int i) (.int j) P := by
  refine ⟨fun X hX v u G H st r1 r2 Q k => ?_⟩
  unfold Rep at r1 r2
  subst r1 r2
  exact OpRw (hr X) ⟨i, j, rfl, rfl, hc, k _ G H _ (.refl st.sub) rep_int h⟩
theorem opd_I0 {f : Value → Value → Sem Value} {g : Int → Int → Int} (hr : ∀ X, OpR X f (rI0 fun i j => .int (g i j))) {i j : Int} (h : P (.int (g i j))) : OpD S Γ f (.int i) (.int j) P := by
  refine ⟨fun X hX v u G H st r1 r2 Q k => ?_⟩
  unfold Rep at r1 r2
  subst r1 r2
  exact OpRw (hr X) ⟨i, j, rfl, rfl, k _ G H _ (.refl st.sub) rep_int h⟩
theorem opd_B0 {f : Value → Value → Sem Value} {g : Int → Int → Bool} (hr : ∀ X, OpR X f (rI0 fun i j => .bl (g i j))) {i j : Int} (h : P (.bl (g i j))) : OpD S Γ f (.int i) (.int j) P := by
  refine ⟨fun X hX v u G H st r1 r2 Q k => ?_⟩
  unfold Rep at r1 r2
  subst r1 r2
  exact OpRw (hr X) ⟨i, j, rfl, rfl, k _ G H _ (.refl st.sub) rep_bl h⟩
theorem od_add {i j : Int} (h : P (.int (i + j))) : OpD S Γ (binaryOp .Add) (.int i) (.int j) P := opd_I0 (fun _ => op_add) h
theorem od_sub {i j : Int} (h : P (.int (i - j))) : OpD S Γ (binaryOp .Sub) (.int i) (.int j) P := opd_I0 (fun _ => op_sub) h
theorem op_mulG {X : Cx} : OpR X (binaryOp .Mult) (rI IntMulOk fun i j => .int (i * j)) := opI fun _ _ _ _ _ _ _ hc q => PyProof.Rows.mul_int q hc
theorem op_fdivG {X : Cx} : OpR X (binaryOp .FloorDiv) (rI (fun i j => 0 < j ∧ Builtin.divisionGoesByPylong i j = false) fun i j => .int (i / j)) := opI fun i j _ _ _ _ _ hc q => by
  have h1 : (0 : Int) < j := hc.1
  exact PyProof.Rows.floordiv_int (by omega) (by rw [Int.fdiv_eq_ediv_of_nonneg i (by omega)]; exact q) (.inl hc.2)
theorem od_mul {i j : Int} (hc : IntMulOk i j) (h : P (.int (i * j))) : OpD S Γ (binaryOp .Mult) (.int i) (.int j) P := opd_I (fun _ => op_mulG) hc h
theorem od_fdiv {i j : Int} (hj : 0 < j) (hp : Builtin.divisionGoesByPylong i j = false) (h : P (.int (i / j))) : OpD S Γ (binaryOp .FloorDiv) (.int i) (.int j) P := opd_I (fun _ => op_fdivG) ⟨hj, hp⟩ h
theorem od_mod {i j : Int} (hj : 0 < j) (h : P (.int (i % j))) : OpD S Γ (binaryOp .Mod) (.int i) (.int j) P := opd_I (fun _ => op_mod) hj h
theorem od_pow {i j : Int} (hj : CPow i j) (h : P (.int (i ^ j.toNat))) : OpD S Γ (binaryOp .Pow) (.int i) (.int j) P := opd_I (fun _ => op_pow) hj h
theorem od_lt {i j : Int} (h : P (.bl (decide (i < j)))) : OpD S Γ (compareOp .Lt) (.int i) (.int j) P := opd_B0 (fun _ => op_lt) h
theorem od_le {i j : Int} (h : P (.bl (decide (i ≤ j)))) : OpD S Γ (compareOp .LtE) (.int i) (.int j) P := opd_B0 (fun _ => op_le) h
theorem od_gt {i j : Int} (h : P (.bl (decide (j < i)))) : OpD S Γ (compareOp .Gt) (.int i) (.int j) P := opd_B0 (fun _ => op_gt) h
theorem od_ge {i j : Int} (h : P (.bl (decide (j ≤ i)))) : OpD S Γ (compareOp .GtE) (.int i) (.int j) P := opd_B0 (fun _ => op_ge) h
theorem dec_V_int {i j : Int} : decide (V.int i = V.int j) = decide (i = j) := by
  by_cases e : i = j
  · subst e; simp
  · rw [decide_eq_false e, decide_eq_false (fun q => e (V.int.inj q))]
theorem dec_V_str {i j : Str} : decide (V.str i = V.str j) = decide (i = j) := by
  by_cases e : i = j
  · subst e; simp
  · rw [decide_eq_false e, decide_eq_false (fun q => e (V.str.inj q))]
theorem dec_V_bl {i j : Bool} : decide (V.bl i = V.bl j) = decide (i = j) := by
  cases i <;> cases j <;> decide
theorem od_eq {i j : Int} (h : P (.bl (decide (i = j)))) : OpD S Γ (compareOp .Eq) (.int i) (.int j) P := by
  refine ⟨fun X hX v u G H st r1 r2 Q k => ?_⟩
  unfold Rep at r1 r2
  subst r1 r2
  exact OpRw op_eq ⟨rfl, by rw [dec_V_int]; exact k _ G H _ (.refl st.sub) rep_bl h⟩
theorem od_ne {i j : Int} (h : P (.bl (!decide (i = j)))) : OpD S Γ (compareOp .NotEq) (.int i) (.int j) P := by
  refine ⟨fun X hX v u G H st r1 r2 Q k => ?_⟩
  unfold Rep at r1 r2
  subst r1 r2
  exact OpRw op_ne ⟨rfl, by rw [dec_V_int]; exact k _ G H _ (.refl st.sub) rep_bl h⟩
theorem od_eqS {i j : Str} (h : P (.bl (decide (i = j)))) : OpD S Γ (compareOp .Eq) (.str i) (.str j) P := by
  refine ⟨fun X hX v u G H st r1 r2 Q k => ?_⟩
  unfold Rep at r1 r2
  subst r1 r2
  exact OpRw op_eq ⟨rfl, by rw [dec_V_str]; exact k _ G H _ (.refl st.sub) rep_bl h⟩
theorem od_neS {i j : Str} (h : P (.bl (!decide (i = j)))) : OpD S Γ (compareOp .NotEq) (.str i) (.str j) P := by
  refine ⟨fun X hX v u G H st r1 r2 Q k => ?_⟩
  unfold Rep at r1 r2
  subst r1 r2
  exact OpRw op_ne ⟨rfl, by rw [dec_V_str]; exact k _ G H _ (.refl st.sub) rep_bl h⟩
theorem od_eqB {i j : Bool} (h : P (.bl (decide (i = j)))) : OpD S Γ (compareOp .Eq) (.bl i) (.bl j) P := by
  refine ⟨fun X hX v u G H st r1 r2 Q k => ?_⟩
  unfold Rep at r1 r2
  subst r1 r2
  exact OpRw op_eq ⟨rfl, by rw [dec_V_bl]; exact k _ G H _ (.refl st.sub) rep_bl h⟩
theorem ud_neg {i : Int} (h : P (.int (-i))) : UnD S Γ (unaryOp .USub) (.int i) P := by
  refine ⟨fun X hX v G H st r1 Q k => ?_⟩
  unfold Rep at r1
  subst r1
  exact UnRw un_neg ⟨i, rfl, k _ G H _ (.refl st.sub) rep_int h⟩
/-- x is None -/
def isNon : D → Bool | .non => true | _ => false
theorem rep_non_iff {K : PySem.W.Frag} {G H : Hp} : ∀ {d : D} {v : V}, Rep K G H d v → decide (v = .non) = isNon d := by
  intro d v r
  cases d <;> unfold Rep at r
  case non => subst r; rfl
  case bl => subst r; rfl
  case int => subst r; rfl
  case str => subst r; rfl
  case cls => subst r; rfl
  case ty => subst r; rfl
  case tup => obtain ⟨_, _, e, _⟩ := r; subst e; rfl
  case lst => obtain ⟨_, _, e, _⟩ := r; subst e; rfl
  case obj => obtain ⟨_, _, _, e, _⟩ := r; subst e; rfl
  case sto => obtain ⟨_, e, _⟩ := r; subst e; rfl
  case scr => obtain ⟨_, e, _⟩ := r; subst e; rfl
  case exc => obtain ⟨e, _⟩ := r; subst e; rfl
theorem od_isN {x : D} (h : P (.bl (isNon x))) : OpD S Γ (compareOp .Is) x .non P := by
  refine ⟨fun X hX v u G H st r1 r2 Q k => ?_⟩
  have e := rep_non_iff r1
  unfold Rep at r2
  subst r2
  exact OpRw op_isN ⟨rfl, by rw [e]; exact k _ G H _ (.refl st.sub) rep_bl h⟩
/-- lists put together: a new list -/
structure OpF (S : Scp) (Γ : Cg) (f : Value → Value → Sem Value) (x y : D) (P : List D → Prop) : Prop where
  run : ∀ X, COk S Γ X → ∀ v u G H, Stp Γ.K Γ.G0 Γ.H0 G H → Rep Γ.K G H x v → Rep Γ.K G H y u → ∀ Q : VK, (∀ p vs G' H' ds, Stp Γ.K G H G' H' → H p = none → G' p = none → H' p = some (.lst vs) → RepL Γ.K G' H' ds vs → P ds → Q (.ref p) H') → wO X f v u H Q
theorem of_cat {xs ys : List D} (hl : xs.length + ys.length ≤ sizeLine) (h : PL (xs ++ ys)) : OpF S Γ (binaryOp .Add) (.lst xs) (.lst ys) PL := by
  refine ⟨fun X hX v u G H st r1 r2 Q k => ?_⟩
  unfold Rep at r1 r2
  obtain ⟨p, vs, rfl, h1, h2⟩ := r1
  obtain ⟨p', vs', rfl, h1', h2'⟩ := r2
  refine OpRw op_cat ⟨p, p', vs, vs', rfl, rfl, st.sub _ _ h1, st.sub _ _ h1', by rw [h2.length, h2'.length]; exact hl, fun q hq => ?_⟩
  have s2 : Stp Γ.K G H G (upd H q (.lst (vs ++ vs'))) := .newM st.sub hq
  exact k q _ G _ (xs ++ ys) s2 hq (st.sub.free hq) upd_same ((h2.append h2').mono s2) h
theorem of_od {f : Value → Value → Sem Value} {x y : D} (h : OpF S Γ f x y fun ds => P (.lst ds)) : OpD S Γ f x y P := by
  refine ⟨fun X hX v u G H st r1 r2 Q k => ?_⟩
  refine h.run X hX v u G H st r1 r2 Q fun p vs G1 H1 ds s1 hp gp h1 r h2 => ?_
  refine k _ _ _ (.lst ds) (s1.freeze hp h1 gp) ?_ h2
  unfold Rep
  exact ⟨p, vs, rfl, upd_same, r.mo (.freeze h1 gp)⟩
/-! ### built-in calls -/
theorem je_callB {x : Str} {id : String} {p : Pos} (hg : x ∈ S.gl) (hm : Γ.mg x = none) (hv : bootBuiltins x = some (.builtin id)) (h : JA S Γ (e :: es) δ fun ds => CallD S Γ (.builtin id) ds P)
    (hn : x ≠ "__name__" := by decide) (hdb : (x == ("__debug__" : Str)) = false := by decide) (he : ∀ env, starEach (e :: es) env = (false, eval e env) :: starEach es env := by intro _; rfl) (hpl : ∀ env, (backTo pos (starEach es env)).any (·.1) = false := by intro _; rfl) :
    JE S Γ (.Call (.Name x p) (e :: es) [] pos) δ P := by
  refine ⟨fun X hX σ G H st ev Q k => ?_⟩
  have hk : Gl X x := by show X.env.scope.names.lookup x = _; rw [hX.sc]; exact hX.so.gl x hg
  refine PEw (pe_callB wC_r hk (by rw [hX.mg]; exact hm) hv wA_pa hn hdb (he _) (hpl _)) ?_
  refine h.run X hX σ G H st ev _ fun vs G1 H1 ds s1 r1 h1 => ?_
  exact h1.run X hX vs G1 H1 (st.trans s1) r1 Q fun z G' H' d s r p => k z G' H' d (s1.trans s) r p
theorem je_callTy {x : Str} {T : String} {p : Pos} (hg : x ∈ S.gl) (hm : Γ.mg x = none) (hv : bootBuiltins x = some (.type T)) (h : JA S Γ (e :: es) δ fun ds => CallD S Γ (.type T) ds P)
    (hn : x ≠ "__name__" := by decide) (hdb : (x == ("__debug__" : Str)) = false := by decide) (he : ∀ env, starEach (e :: es) env = (false, eval e env) :: starEach es env := by intro _; rfl) (hpl : ∀ env, (backTo pos (starEach es env)).any (·.1) = false := by intro _; rfl) :
    JE S Γ (.Call (.Name x p) (e :: es) [] pos) δ P := by
  refine ⟨fun X hX σ G H st ev Q k => ?_⟩
  have hk : Gl X x := by show X.env.scope.names.lookup x = _; rw [hX.sc]; exact hX.so.gl x hg
  refine PEw (pe_callTy wC_r hk (by rw [hX.mg]; exact hm) hv wA_pa hn hdb (he _) (hpl _)) ?_
  refine h.run X hX σ G H st ev _ fun vs G1 H1 ds s1 r1 h1 => ?_
  exact h1.run X hX vs G1 H1 (st.trans s1) r1 Q fun z G' H' d s r p => k z G' H' d (s1.trans s) r p
/-- a built-in whose value is a new list -/
structure CallF (S : Scp) (Γ : Cg) (f : Value) (xs : List D) (P : List D → Prop) : Prop where
  run : ∀ X, COk S Γ X → ∀ vs G H, Stp Γ.K Γ.G0 Γ.H0 G H → RepL Γ.K G H xs vs → ∀ Q : VK, (∀ p vs G' H' ds, Stp Γ.K G H G' H' → H p = none → G' p = none → H' p = some (.lst vs) → RepL Γ.K G' H' ds vs → P ds → Q (.ref p) H') → wC X f vs H Q
theorem jf_callTy {x : Str} {T : String} {p : Pos} (hg : x ∈ S.gl) (hm : Γ.mg x = none) (hv : bootBuiltins x = some (.type T)) (h : JA S Γ (e :: es) δ fun ds => CallF S Γ (.type T) ds PL)
    (hn : x ≠ "__name__" := by decide) (hdb : (x == ("__debug__" : Str)) = false := by decide) (he : ∀ env, starEach (e :: es) env = (false, eval e env) :: starEach es env := by intro _; rfl) (hpl : ∀ env, (backTo pos (starEach es env)).any (·.1) = false := by intro _; rfl) :
    JF S Γ (.Call (.Name x p) (e :: es) [] pos) δ PL := by
  refine ⟨fun X hX σ G H st ev Q k => ?_⟩
  have hk : Gl X x := by show X.env.scope.names.lookup x = _; rw [hX.sc]; exact hX.so.gl x hg
  refine PEw (pe_callTy wC_r hk (by rw [hX.mg]; exact hm) hv wA_pa hn hdb (he _) (hpl _)) ?_
  refine h.run X hX σ G H st ev _ fun vs G1 H1 ds s1 r1 h1 => ?_
  exact h1.run X hX vs G1 H1 (st.trans s1) r1 Q fun p vs G' H' ds s hp g h r q => k p vs G' H' ds (s1.trans s) (s1.free hp) g h r q
theorem repL1 {K : PySem.W.Frag} {G H : Hp} {d : D} {vs : List V} (h : RepL K G H [d] vs) : ∃ v, vs = [v] ∧ Rep K G H d v := by
  unfold RepL at h
  obtain ⟨v, r, e, h1, h2⟩ := h
  unfold RepL at h2
  subst h2
  exact ⟨v, e, h1⟩
theorem repL2 {K : PySem.W.Frag} {G H : Hp} {d d' : D} {vs : List V} (h : RepL K G H [d, d'] vs) : ∃ v u, vs = [v, u] ∧ Rep K G H d v ∧ Rep K G H d' u := by
  unfold RepL at h
  obtain ⟨v, r, e, h1, h2⟩ := h
  obtain ⟨u, e2, h3⟩ := repL1 h2
  subst e2
  exact ⟨v, u, e, h1, h3⟩
theorem cd_int {i : Int} (h : P (.int i)) : CallD S Γ (.type "int") [.int i] P := by
  refine ⟨fun X hX vs G H st r Q k => ?_⟩
  obtain ⟨v, rfl, r1⟩ := repL1 r
  unfold Rep at r1
  subst r1
  exact CallRw call_int1 (.inl ⟨i, rfl, k _ G H _ (.refl st.sub) rep_int h⟩)
theorem cd_intB {i : Bool} (h : P (.int (if i then 1 else 0))) : CallD S Γ (.type "int") [.bl i] P := by
  refine ⟨fun X hX vs G H st r Q k => ?_⟩
  obtain ⟨v, rfl, r1⟩ := repL1 r
  unfold Rep at r1
  subst r1
  exact CallRw call_int1 (.inr ⟨i, rfl, k _ G H _ (.refl st.sub) rep_int h⟩)
theorem cd_lenL {ds : List D} (h : P (.int ds.length)) : CallD S Γ (.builtin "len") [.lst ds] P := by
  refine ⟨fun X hX vs G H st r Q k => ?_⟩
  obtain ⟨v, rfl, r1⟩ := repL1 r
  unfold Rep at r1
  obtain ⟨p, ys, rfl, h1, h2⟩ := r1
  exact CallRw call_len_seq ⟨p, ys, rfl, .inl (.inl (.inl (st.sub _ _ h1))), by rw [h2.length]; exact k _ G H _ (.refl st.sub) rep_int h⟩
theorem cd_lenT {ds : List D} (h : P (.int ds.length)) : CallD S Γ (.builtin "len") [.tup ds] P := by
  refine ⟨fun X hX vs G H st r Q k => ?_⟩
  obtain ⟨v, rfl, r1⟩ := repL1 r
  unfold Rep at r1
  obtain ⟨p, ys, rfl, h1, h2⟩ := r1
  exact CallRw call_len_seq ⟨p, ys, rfl, .inr (by rw [hX.K]; exact Same.tup st.sub h1), by rw [h2.length]; exact k _ G H _ (.refl st.sub) rep_int h⟩
theorem cd_max [Calm Γ] {i j : Int} (h : P (.int (if j > i then j else i))) : CallD S Γ (.builtin "max") [.int i, .int j] P := by
  refine ⟨fun X hX vs G H st r Q k => ?_⟩
  obtain ⟨v, u, rfl, r1, r2⟩ := repL2 r
  unfold Rep at r1 r2
  subst r1 r2
  exact CallRw (call_max2 (hX.calm Calm.hx)) ⟨i, j, rfl, k _ G H _ (.refl st.sub) rep_int h⟩
theorem cd_min [Calm Γ] {i j : Int} (h : P (.int (if j < i then j else i))) : CallD S Γ (.builtin "min") [.int i, .int j] P := by
  refine ⟨fun X hX vs G H st r Q k => ?_⟩
  obtain ⟨v, u, rfl, r1, r2⟩ := repL2 r
  unfold Rep at r1 r2
  subst r1 r2
  exact CallRw (call_min2 (hX.calm Calm.hx)) ⟨i, j, rfl, k _ G H _ (.refl st.sub) rep_int h⟩
theorem cf_list {ds : List D} (h : PL ds) : CallF S Γ (.type "list") [.lst ds] PL := by
  refine ⟨fun X hX vs G H st r Q k => ?_⟩
  obtain ⟨v, rfl, r1⟩ := repL1 r
  unfold Rep at r1
  obtain ⟨p, ys, rfl, h1, h2⟩ := r1
  refine CallRw call_list_of ⟨p, ys, rfl, .inl (.inl (.inl (st.sub _ _ h1))), fun l hl => ?_⟩
  have s2 : Stp Γ.K G H G (upd H l (.lst ys)) := .newM st.sub hl
  exact k l _ G _ ds s2 hl (st.sub.free hl) upd_same (h2.mono s2) h
theorem cf_listT {ds : List D} (h : PL ds) : CallF S Γ (.type "list") [.tup ds] PL := by
  refine ⟨fun X hX vs G H st r Q k => ?_⟩
  obtain ⟨v, rfl, r1⟩ := repL1 r
  unfold Rep at r1
  obtain ⟨p, ys, rfl, h1, h2⟩ := r1
  refine CallRw call_list_of ⟨p, ys, rfl, .inr (by rw [hX.K]; exact Same.tup st.sub h1), fun l hl => ?_⟩
  have s2 : Stp Γ.K G H G (upd H l (.lst ys)) := .newM st.sub hl
  exact k l _ G _ ds s2 hl (st.sub.free hl) upd_same (h2.mono s2) h
/-- isinstance with one of the common built-in types -/
def tyS : D → String
  | .non => "NoneType"
  | .bl _ => "bool"
  | .int _ => "int"
  | .str _ => "str"
  | .tup _ => "tuple"
  | .lst _ => "list"
  | .sto _ => "dict"
  | _ => "object"
def isTyS (a T : String) : Bool := a == T || (a == "bool" && T == "int")
def isTy (d : D) (T : String) : Bool := isTyS (tyS d) T
def plainD : D → Bool
  | .obj _ _ _ => false | .cls _ => false | .ty _ => false | .scr _ => false | .exc _ _ _ _ => false | _ => true
theorem tyx_of {K : PySem.W.Frag} {G H : Hp} (e : Same G H) {d : D} {v : V} (hp : plainD d = true) (r : Rep K G H d v) : TyX K H v (.type (tyS d)) := by
  cases d <;> first | cases hp | skip
  all_goals unfold Rep at r
  case non => subst r; exact .base .non
  case bl => subst r; exact .base (.bl _)
  case int => subst r; exact .base (.int _)
  case str => subst r; exact .base (.str _)
  case tup =>
    obtain ⟨p, vs, rfl, h, _⟩ := r
    rcases h with (h | ⟨o, h⟩) | ⟨o, its, n, h, hc, _⟩
    · exact .base (.tup (e _ _ h))
    · exact .fTuple (e _ _ h)
    · exact .kTuple h hc
  case lst => obtain ⟨p, vs, rfl, h, _⟩ := r; exact .base (.lst (e _ _ h))
  case sto => obtain ⟨p, rfl, _, kvs, h, _⟩ := r; exact .base (.dK h)
theorem kit_tab : (["NoneType", "bool", "int", "str", "tuple", "list", "dict"].all fun a => ["int", "bool", "str", "tuple", "list", "dict"].all fun T => decide (kitB a T = some (isTyS a T))) = true := by decide +kernel
theorem kit_all {K : PySem.W.Frag} {d : D} (hp : plainD d = true) {T : String} (hT : T ∈ ["int", "bool", "str", "tuple", "list", "dict"]) : PySem.W.kitOne K (.type (tyS d)) (.type T) = some (isTy d T) := by
  have h := kit_tab
  rw [List.all_eq_true] at h
  have h2 : tyS d ∈ ["NoneType", "bool", "int", "str", "tuple", "list", "dict"] := by
    cases d <;> first | (simp [tyS]; done) | cases hp
  have h3 := h _ h2
  rw [List.all_eq_true] at h3
  exact kit_ty (of_decide_eq_true (h3 _ hT))
theorem cd_isi {d : D} {T : String} (hp : plainD d = true) (hT : T ∈ ["int", "bool", "str", "tuple", "list", "dict"]) (h : P (.bl (isTy d T))) : CallD S Γ (.builtin "isinstance") [d, .ty T] P := by
  refine ⟨fun X hX vs G H st r Q k => ?_⟩
  obtain ⟨v, u, rfl, r1, r2⟩ := repL2 r
  unfold Rep at r2
  subst r2
  exact CallRw call_isi ⟨v, .ty T, .type (tyS d), .type T, isTy d T, rfl, .ty T, by rw [hX.K]; exact tyx_of st.sub hp r1, kit_all hp hT, k _ G H _ (.refl st.sub) rep_bl h⟩

/-! ### a def's contract -/
abbrev Ct := List D → (D → Prop) → (Value → List Str → List D → Prop) → Prop
def spC (K : PySem.W.Frag) (c : Ct) : Sp := fun vs H Q E => ∃ G ds, Same G H ∧ TOk G H ∧ RepL K G H ds vs ∧ c ds (fun d => ∀ v G' H', Stp K G H G' H' → Rep K G' H' d v → Q v H') fun cls ns es => ∀ d G' H', Stp K G H G' H' → XdOk K G' H' d ns es → E cls d H'
/-- a def of the module, called with arguments and the defaults df -/
structure DefOk (P : Program) (w : World) (K : PySem.W.Frag) (mg : Str → Option Value) (base : Heap) (x : Str) (lv : Nat) (df : List D) (c : Ct) : Prop where
  mono : ∀ ds (P P' : D → Prop) (E E' : Value → List Str → List D → Prop), (∀ d, P d → P' d) → (∀ v ns es, E v ns es → E' v ns es) → c ds P E → c ds P' E'
  ex : ∃ f fd ps ds dvs, FnOk P w K mg base (L2N.CX P w) lv f fd ps (spC K c) ∧ mg x = some (.ref f) ∧ PySem.W.keepIn K (.ref f) = true ∧ Binds K fd ps ds ∧ Vals dvs ds ∧ ∀ G H, RepL K G H df dvs
theorem je_call [Calm Γ] {x : Str} {lv : Nat} {df : List D} {ct : Ct} {p : Pos} (F : DefOk Γ.P Γ.w Γ.K Γ.mg Γ.base x lv df ct) (hl : lv ≤ S.lv) (hg : x ∈ S.gl)
    (h : JA S Γ (e :: es) δ fun ds => ct (ds ++ df) P (Γ.ex δ))
    (hdb : (x == ("__debug__" : Str)) = false := by decide) (he : ∀ env, starEach (e :: es) env = (false, eval e env) :: starEach es env := by intro _; rfl) (hpl : ∀ env, (backTo pos (starEach es env)).any (·.1) = false := by intro _; rfl) :
    JE S Γ (.Call (.Name x p) (e :: es) [] pos) δ P := by
  refine ⟨fun X hX σ G H st ev Q k => ?_⟩
  have hk : Gl X x := by show X.env.scope.names.lookup x = _; rw [hX.sc]; exact hX.so.gl x hg
  obtain ⟨f, fd, ps, ds, dvs, F1, F2, F3, F4, F5, F6⟩ := F.ex
  have F1' : FnOk X.prog X.w X.K X.mg X.base (L2N.CX X.prog X.w) lv f fd ps (spC Γ.K ct) := by rw [hX.prog, hX.w, hX.K, hX.mg, hX.base]; exact F1
  refine PEw (pe_callSD (E := WE (wx Γ)) F1' ((hX.room Calm.hx).mono hl) hk (by rw [hX.mg]; exact F2) (by rw [hX.K]; exact F3) (by rw [hX.K]; exact F4) F5 (fun σ => L2N.passAt hX.tk σ) wA_pa hdb (he _) (hpl _)) ?_
  refine h.run X hX σ G H st ev _ fun vs G1 H1 ds s1 r1 h1 => ?_
  refine ⟨G1, ds ++ df, s1.sub, (st.trans s1).tab hX.tb, r1.append (F6 _ _), F.mono _ _ _ _ _ (fun d p v G' H' s r => k v G' H' d (s1.trans s) r p) (fun cls ns es q d G' H' s x => ?_) h1⟩
  exact ⟨G', δ, ns, es, (st.trans s1).trans s, ev.mono (s1.trans s), x, q⟩
end
end Z
set_option Elab.async false
set_option linter.all false
set_option maxRecDepth 100000
set_option maxHeartbeats 4000000
/-! Z3: statements, targets, loops, comprehensions, a def keeps its contract. -/
namespace Z
open PySem L2
variable [tabsI : TabsT]

section
variable {S : Scp} {Γ : Cg} {δ : List Sl} {P : D → Prop} {PB : Bool → Prop} {PL : List D → Prop} {K : Kp} {a b c e : Expr} {es rest : List Expr} {pos : Pos} {st : Stmt} {sts : List Stmt}

/-! ### blocks -/
theorem jss_nil (h : K.nx δ) : JSs S Γ [] δ K := ⟨fun X hX σ G H De s ev en => PSsw pss_nil (en.nx σ G H δ s .refl ev h)⟩
theorem jss_cons (h : JS S Γ st δ { K with nx := fun δ' => JSs S Γ sts δ' K }) : JSs S Γ (st :: sts) δ K := by
  refine ⟨fun X hX σ G H De s ev en => ?_⟩
  refine PSsw (pss_cons wS_ps wSs_pss) ?_
  refine h.run X hX σ G H _ s ev ⟨fun σ' G' H' δ' s' m ev' q => ?_, en.bk, en.ct, en.rt, en.rf⟩
  exact q.run X hX σ' G' H' De s' ev' (en.go m)
theorem jss_one (h : JS S Γ st δ K) : JSs S Γ [st] δ K := ⟨fun X hX σ G H De s ev en => PSsw (pss_one wS_ps) (h.run X hX σ G H De s ev en)⟩
theorem js_ret (h : JE S Γ e δ K.rt) : JS S Γ (.Return (some e) pos) δ K := by
  refine ⟨fun X hX σ G H De s ev en => ?_⟩
  refine PSw (ps_ret wE_pe) ?_
  exact h.run X hX σ G H s ev _ fun v G' H' d s' r p => en.rt v G' H' d (s.trans s') r p
theorem js_if {x y : List Stmt} (h : JT S Γ c δ fun t => if t = true then JSs S Γ x δ K else JSs S Γ y δ K) : JS S Γ (.If c x y pos) δ K := by
  refine ⟨fun X hX σ G H De s ev en => ?_⟩
  refine PSw (ps_if wT_pt wSs_pss wSs_pss) ?_
  refine h.run X hX σ G H s ev _ fun t G1 H1 s1 p => ?_
  cases t with
  | true => exact L2.iteT ((show JSs _ _ _ _ _ from p).run X hX σ G1 H1 De (s.trans s1) (ev.mono s1) (en.go s1.mo))
  | false => exact L2.iteF ((show JSs _ _ _ _ _ from p).run X hX σ G1 H1 De (s.trans s1) (ev.mono s1) (en.go s1.mo))
/-- an expression whose value is dropped -/
theorem js_expr (h : JE S Γ e δ fun _ => K.nx δ) (hs : ∀ env, swapsWith e none pos.line env = pure false := by intro _; rfl) : JS S Γ (.Expr e pos) δ K := by
  refine ⟨fun X hX σ G H De s ev en => ?_⟩
  refine PSw (ps_expr wE_pe (hs _)) ?_
  exact h.run X hX σ G H s ev _ fun v G' H' d s' r p => en.nx σ G' H' δ (s.trans s') s'.mo (ev.mono s') p

/-! ### targets -/
theorem COk.loc {X : Cx} (hX : COk S Γ X) {x : Str} {i : Nat} (h : (x, i) ∈ S.ss) : X.N[i]? = some x ∧ Loc X.env.scope x ∧ (X.fn x = true ∨ X.env.scope.names.lookup x = some .local) := by
  obtain ⟨h1, h2⟩ := hX.so.ss _ h
  exact ⟨by rw [hX.N]; exact h1, by rw [hX.sc]; exact h2, hX.st _ h⟩
theorem jg_name {x : Str} {i : Nat} {d : D} {Q : List Sl → Prop} (hv : (x, i) ∈ S.ss) (h : Q (δ.set i (.fz d))) : JG S Γ (.Name x pos) d δ Q := by
  refine ⟨fun X hX v σ G H s ev r Q' k => ?_⟩
  obtain ⟨h1, h2, h3⟩ := hX.loc hv
  exact PGw (pg_name (by rw [hX.N]; exact hX.so.nd) h1 h2 h3) (k _ G H _ (.refl s.sub) (ev.set r) h)
theorem jgs_nil {Q : List Sl → Prop} (h : Q δ) : JGs S Γ [] [] δ Q := by
  refine ⟨fun X hX vs σ G H s ev r Q' k => ?_⟩
  unfold RepL at r
  exact PGsw pgs_nil ⟨r, k _ G H _ (.refl s.sub) ev h⟩
theorem jgs_cons {d : D} {ds : List D} {Q : List Sl → Prop} (h : JG S Γ e d δ fun δ' => JGs S Γ es ds δ' Q) (hs : ∀ env, (assignEach (e :: es) env).map (·.2) = assign e env :: (assignEach es env).map (·.2) := by intro _; rfl) : JGs S Γ (e :: es) (d :: ds) δ Q := by
  refine ⟨fun X hX vs σ G H s ev r Q' k => ?_⟩
  unfold RepL at r
  obtain ⟨v, vr, rfl, r1, r2⟩ := r
  refine PGsw (pgs_cons wG_pg wGs_pgs (hs _)) ⟨v, vr, rfl, ?_⟩
  refine h.run X hX v σ G H s ev r1 _ fun σ1 G1 H1 δ1 s1 ev1 q => ?_
  exact q.run X hX vr σ1 G1 H1 (s.trans s1) ev1 (r2.mono s1) Q' fun σ2 G2 H2 δ2 s2 ev2 q2 => k σ2 G2 H2 δ2 (s1.trans s2) ev2 q2
theorem jg_tup [Calm Γ] {kk : Nat} {ds : List D} {Q : List Sl → Prop} {n : Nat} (hl : ds.length = n) (h : JGs S Γ es ds δ Q) (hn : ∀ env, (assignEach es env).length = n := by intro _; rfl) (hst : ∀ env, (assignEach es env).findIdx? (·.1) = none := by intro _; rfl) : JG S Γ (.Tuple es kk pos) (.tup ds) δ Q := by
  refine ⟨fun X hX v σ G H s ev r Q' k => ?_⟩
  unfold Rep at r
  obtain ⟨p, vs, rfl, h1, h2⟩ := r
  refine PGw (pg_tup (hX.calm Calm.hx) wGs_pgs (hn _) (hst _)) ⟨p, vs, rfl, by rw [hX.K]; exact Same.tup s.sub h1, by rw [h2.length]; exact hl, ?_⟩
  exact h.run X hX vs σ G H s ev h2 Q' k
/-- target = value -/
theorem js_asg {tg : Expr} (h : JE S Γ e δ fun d => JG S Γ tg d δ K.nx) (hs : ∀ env, swapsWithSole [tg] e pos.line env = pure false := by intro _; rfl) (hw : ∀ env : Env, env.scope = S.sc → swappedStores [tg] e env = pure none := by intro env h; first | rfl | (cases env; cases h; rfl))
    (h1 : ∀ env, (assignEach [tg] env).map (·.2) = [assign tg env] := by intro _; rfl) : JS S Γ (.Assign [tg] e pos) δ K := by
  refine ⟨fun X hX σ G H De s ev en => ?_⟩
  refine PSw (ps_asg wE_pe wG_pg (hs _) (hw _ hX.sc) (h1 _)) ?_
  refine h.run X hX σ G H s ev _ fun v G1 H1 d s1 r q => ?_
  exact q.run X hX v σ G1 H1 (s.trans s1) (ev.mono s1) r _ fun σ2 G2 H2 δ2 s2 ev2 q2 => en.nx σ2 G2 H2 δ2 ((s.trans s1).trans s2) (s1.trans s2).mo ev2 q2
/-- name = value -/
theorem js_set {x : Str} {i : Nat} {p : Pos} (hv : (x, i) ∈ S.ss) (h : JE S Γ e δ fun d => K.nx (δ.set i (.fz d))) (hs : ∀ env, swapsWith e (some (.Name x p)) pos.line env = pure false := by intro _; rfl) : JS S Γ (.Assign [.Name x p] e pos) δ K := by
  refine ⟨fun X hX σ G H De s ev en => ?_⟩
  obtain ⟨h1, h2, h3⟩ := hX.loc hv
  refine PSw (ps_set (by rw [hX.N]; exact hX.so.nd) h1 h2 wE_pe (hs _) h3) ?_
  exact h.run X hX σ G H s ev _ fun v G1 H1 d s1 r q => en.nx _ G1 H1 _ (s.trans s1) s1.mo ((ev.mono s1).set r) q
/-- one's own things stand where nothing stood before -/
theorem EnvOk.fps {KK : PySem.W.Frag} {G H G' H' H0 : Hp} {σ : St} {δ : List Sl} (h : EnvOk KK G H H0 σ δ) (s : Stp KK G H G' H') : ∃ F : Nat → List Addr, (∀ j : Nat, SlF KK G' H' H0 ((δ[j]?).getD .no) σ[j]? (F j)) ∧ (∀ i j, i ≠ j → ∀ a ∈ F i, a ∉ F j) ∧ ∀ j, ∀ a ∈ F j, H a ≠ none := by
  obtain ⟨F, f, dj⟩ := h.fp
  refine ⟨F, fun j => (f j).mono s, dj, fun j a ha z => ?_⟩
  obtain ⟨_, _, u, h1, _⟩ := (f j).own a ha
  rw [z] at h1
  cases h1
theorem EnvOk.setOwn {KK : PySem.W.Frag} {G H G' H' H0 : Hp} {σ : St} {δ : List Sl} (h : EnvOk KK G H H0 σ δ) (s : Stp KK G H G' H') {i : Nat} {ds : List D} {vs : List V} {p : Addr} (hp : H p = none) (h1 : H' p = some (.lst vs)) (g : G' p = none) (h0 : H0 p = none) (r : RepL KK G' H' ds vs) : EnvOk KK G' H' H0 (σ.set i (some (.ref p))) (δ.set i (.ow ds)) := by
  obtain ⟨F, f, dj, hF⟩ := h.fps s
  refine EnvOk.anew (as' := [p]) h.len f dj .refl (fun j _ a ha => ⟨rfl, ((f j).own a ha).1⟩) (by simp) (fun j n => List.getElem?_set_ne (fun w => n w.symm)) (fun hi => ⟨p, vs, rfl, by rw [List.getElem?_set_self (by rw [h.len]; exact hi)], h1, g, h0, r⟩) (fun j _ a ha => ?_)
  rw [List.mem_singleton.mp ha]
  exact fun z => hF j p z hp
/-- name = a new list, of one's own -/
theorem js_setF {x : Str} {i : Nat} {p : Pos} (hv : (x, i) ∈ S.ss) (h : JF S Γ e δ fun ds => K.nx (δ.set i (.ow ds))) (hs : ∀ env, swapsWith e (some (.Name x p)) pos.line env = pure false := by intro _; rfl) : JS S Γ (.Assign [.Name x p] e pos) δ K := by
  refine ⟨fun X hX σ G H De s ev en => ?_⟩
  obtain ⟨h1, h2, h3⟩ := hX.loc hv
  refine PSw (ps_set (by rw [hX.N]; exact hX.so.nd) h1 h2 wE_pe (hs _) h3) ?_
  refine h.run X hX σ G H s ev _ fun p vs G1 H1 ds s1 hp gp h1 r q => ?_
  have h0 : Γ.H0 p = none := s.free hp
  exact en.nx _ G1 H1 _ (s.trans s1) s1.mo (ev.setOwn s1 hp h1 gp h0 r) q
/-- a list of one's own will never change from here on -/
theorem EnvOk.freeze {KK : PySem.W.Frag} {G H H0 : Hp} {σ : St} {δ : List Sl} (h : EnvOk KK G H H0 σ δ) {i : Nat} {ds : List D} (e : δ[i]? = some (.ow ds)) : ∃ p vs, H p = some (.lst vs) ∧ G p = none ∧ H0 p = none ∧ EnvOk KK (upd G p (.lst vs)) H H0 σ (δ.set i (.fz (.lst ds))) := by
  obtain ⟨F, f, dj⟩ := h.fp
  obtain ⟨p, vs, ea, e1, h1, g, h0, r⟩ := EnvOk.at0 f e
  have mo : Mo KK G H (upd G p (.lst vs)) H := .freeze h1 g
  refine ⟨p, vs, h1, g, h0, EnvOk.anew (as' := []) h.len f dj mo (fun j n a ha => ⟨rfl, ?_⟩) rfl (fun _ _ => rfl) (fun _ => ⟨rfl, _, e1, ?_⟩) (fun _ _ a ha => by cases ha)⟩
  · have ne : a ≠ p := by
      intro w
      subst w
      exact dj j i n a ha (by rw [ea]; exact .head _)
    rw [upd_ne ne]
    exact ((f j).own a ha).1
  · unfold Rep
    exact ⟨p, vs, rfl, upd_same, r.mo mo⟩
theorem jss_freeze (i : Nat) {ds : List D} (e : δ[i]? = some (.ow ds)) (h : JSs S Γ sts (δ.set i (.fz (.lst ds))) K) : JSs S Γ sts δ K := by
  refine ⟨fun X hX σ G H De s ev en => ?_⟩
  obtain ⟨p, vs, h1, g, h0, ev'⟩ := ev.freeze e
  exact h.run X hX σ _ H De (s.freeze h0 h1 g) ev' (en.go (.freeze h1 g))
theorem js_freeze (i : Nat) {ds : List D} (e : δ[i]? = some (.ow ds)) (h : JS S Γ st (δ.set i (.fz (.lst ds))) K) : JS S Γ st δ K := by
  refine ⟨fun X hX σ G H De s ev en => ?_⟩
  obtain ⟨p, vs, h1, g, h0, ev'⟩ := ev.freeze e
  exact h.run X hX σ _ H De (s.freeze h0 h1 g) ev' (en.go (.freeze h1 g))
theorem TOk.upd_ {G H : Hp} {p : Addr} {o u : HO} (hp : H p = some o) (no : nExt o) (t : TOk G H) (n : ∀ q ∈ tabsI.T, q.1 ≠ p) : TOk G (upd H p u) := by
  refine ⟨fun q hq => ?_, t.gn⟩
  obtain ⟨ps, h1, h2, h3⟩ := t.tb q hq
  refine ⟨ps, by rw [upd_ne (n q hq)]; exact h1, h2, fun pos cv hc => ?_⟩
  obtain ⟨c, e1, e2⟩ := h3 pos cv hc
  refine ⟨c, e1, ?_⟩
  rw [upd_ne]
  · exact e2
  · intro z
    subst z
    rw [hp] at e2
    have e3 := Option.some.inj e2
    subst e3
    exact no
theorem TOk.upd_o {G H : Hp} {p : Addr} {o u : HO} (hp : H p = some o) (no : nExt o) (nt : ∀ ps, o ≠ .tbl ps) (t : TOk G H) : TOk G (upd H p u) := TOk.upd_ hp no t fun q hq z => by
  obtain ⟨ps, h1, _⟩ := t.tb q hq
  rw [z, hp] at h1
  exact nt ps (Option.some.inj h1)
theorem Stp.write {KK : PySem.W.Frag} {G0 H0 G H : Hp} (s : Stp KK G0 H0 G H) {p : Addr} {o u : HO} (g : G p = none) (h0 : H0 p = none) (hp : H p = some o := by assumption) (no : nExt o := by exact True.intro) : Stp KK G0 H0 G (upd H p u) := by
  refine ⟨s.exG, fun b w q => ?_, fun b w q n => ?_, fun t0 => TOk.upd_ hp no (s.tab t0) fun q hq z => by
    obtain ⟨ps, k1, _⟩ := t0.tb q hq
    rw [z, h0] at k1
    cases k1⟩
  · rw [upd_ne (ne_of_none q g)]; exact s.sub b w q
  · have z : b ≠ p := ne_of_none q h0
    obtain ⟨n', q'⟩ := s.own b w q n
    refine ⟨n', ?_⟩
    rcases q' with q' | ⟨q1, kvs, q2, q3⟩
    · exact .inl (by rw [upd_ne z]; exact q')
    · exact .inr ⟨q1, kvs, by rw [upd_ne z]; exact q2, q3.1, fun cells w => by
        obtain ⟨kv, w1, w2⟩ := q3.2 cells w
        have zz : b ≠ p := z
        exact ⟨kv, by rw [upd_ne zz]; exact w1, w2⟩⟩
theorem Mo.write {KK : PySem.W.Frag} {G H : Hp} {p : Addr} {vs : List V} {u : HO} (hp : H p = some (.lst vs)) : Mo KK G H G (upd H p u) := by
  refine ⟨Same.refl G, fun a cells n q => ⟨n, ?_⟩⟩
  obtain ⟨kvs, q1, q2⟩ := q
  have z : a ≠ p := by
    intro z
    subst z
    rw [hp] at q1
    cases q1
  exact ⟨kvs, by rw [upd_ne z]; exact q1, q2⟩
/-! ### loops -/
theorem atGet {α : Type} {xs : List α} {i : Nat} {x : α} (h : xs[i]? = some x) : i < xs.length := (List.getElem?_eq_some_iff.mp h).1
/-- what a loop's turn keeps -/
def Turns (S : Scp) (Γ : Cg) (tg : Expr) (body : List Stmt) (K : Kp) (I : Nat → List Sl → Prop) (i : Nat) (x : D) : Prop :=
  ∀ δ', I i δ' → JG S Γ tg x δ' fun δ2 => JSs S Γ body δ2 { nx := I (i + 1), rt := K.rt, bk := K.nx, ct := I (i + 1) }
/-- a walk of n turns over the data f 0, f 1, .. -/
structure ItOk (Γ : Cg) (G1 H1 : Hp) (J : It) (n : Nat) (f : Nat → D) : Prop where
  go : ∀ i G' H', Same G' H' → Mo Γ.K G1 H1 G' H' → i < n → J.go i H'
  yld : ∀ i G' H' x H2, Same G' H' → Mo Γ.K G1 H1 G' H' → i < n → J.yld i H' x H2 → ∃ G2, Stp Γ.K G' H' G2 H2 ∧ Rep Γ.K G2 H2 (f i) x
  stop : ∀ G' H', Same G' H' → Mo Γ.K G1 H1 G' H' → J.stop n H'
structure JI (S : Scp) (Γ : Cg) (tg e : Expr) (δ : List Sl) (P : Nat → (Nat → D) → Prop) : Prop where
  run : ∀ X, COk S Γ X → ∀ σ G H, Stp Γ.K Γ.G0 Γ.H0 G H → EnvOk Γ.K G H Γ.H0 σ δ → ∀ R : It → Hp → Prop, (∀ J G1 H1 n f, Stp Γ.K G H G1 H1 → ItOk Γ G1 H1 J n f → P n f → R J H1) → wI X tg e σ H R
def atD (ds : List D) (i : Nat) : D := (ds[i]?).getD .non
theorem atD_get {ds : List D} {i : Nat} (h : i < ds.length) : ds[i]? = some (atD ds i) := by
  unfold atD
  rw [List.getElem?_eq_getElem h]
  rfl
variable {tg : Expr} {PI' : Nat → (Nat → D) → Prop}
theorem ji_list (h : JE S Γ e δ fun d => ∃ ds, d = .lst ds ∧ PI' ds.length (atD ds)) : JI S Γ tg e δ PI' := by
  refine ⟨fun X hX σ G H s ev R k => ?_⟩
  refine PIwB (pi_list wE_pe) (Zh.pi_listH wE_pe) ?_
  refine h.run X hX σ G H s ev _ fun v G1 H1 d s1 r q => ?_
  obtain ⟨ds, rfl, q⟩ := q
  unfold Rep at r
  obtain ⟨p, vs, rfl, h1, h2⟩ := r
  refine ⟨p, rfl, ⟨vs, .inl (.inl (s1.sub _ _ h1))⟩, k _ G1 H1 _ _ s1 ⟨?_, ?_, ?_⟩ q⟩
  · intro i G' H' e m hi
    have hlt : i < vs.length := by rw [h2.length]; exact hi
    have hv := List.getElem?_eq_getElem hlt
    exact ⟨vs, _, .inl (.inl (e _ _ (m.exG _ _ h1))), hv⟩
  · rintro i G' H' x H2 e m hi ⟨rfl, y⟩
    have hx := y vs (.inl (.inl (e _ _ (m.exG _ _ h1))))
    obtain ⟨d, hd, rd⟩ := h2.back hx
    rw [atD_get hi] at hd
    cases hd
    exact ⟨G', .refl e, rd.mo m⟩
  · intro G' H' e m
    exact ⟨vs, .inl (.inl (e _ _ (m.exG _ _ h1))), by rw [h2.length]; exact Nat.le_refl _⟩
theorem itok_rng {G1 H1 : Hp} {lo : Int} {n : Nat} : ItOk Γ G1 H1 (Itr lo n) n (fun i => .int (lo + i)) := by
  refine ⟨fun i _ _ _ _ hi => hi, ?_, fun _ _ _ _ => Nat.le_refl _⟩
  rintro i G' H' x H2 e m hi ⟨rfl, rfl⟩
  exact ⟨G', .refl e, rep_int⟩
theorem ji_rng1 {p1 p2 : Pos} (hg : ("range" : Str) ∈ S.gl) (hm : Γ.mg "range" = none) (hs : ∀ env, starEach [a] env = [(false, eval a env)])
    (h : JE S Γ a δ fun d => ∃ n, d = .int n ∧ -(2 ^ 62) ≤ n ∧ n < 2 ^ 62 ∧ PI' n.toNat (fun i => .int (0 + i))) : JI S Γ tg (.Call (.Name "range" p1) [a] [] p2) δ PI' := by
  refine ⟨fun X hX σ G H s ev R k => ?_⟩
  have hk : Gl X "range" := by show X.env.scope.names.lookup _ = _; rw [hX.sc]; exact hX.so.gl _ hg
  refine PIwB (pi_range1 hk (by rw [hX.mg]; exact hm) (pa_cons wE_pe pa_nil (hs _)) (hs _)) (L2H.pi_range1H hk (by rw [hX.mg]; exact hm) (pa_cons wE_pe pa_nil (hs _)) (hs _)) ?_
  refine h.run X hX σ G H s ev _ fun v G1 H1 d s1 r q => ?_
  obtain ⟨n, rfl, b1, b2, q⟩ := q
  unfold Rep at r
  subst r
  exact ⟨n, rfl, b1, b2, k _ G1 H1 _ _ s1 itok_rng q⟩
theorem ji_rng2 [Calm Γ] {p1 p2 : Pos} (hg : ("range" : Str) ∈ S.gl) (hm : Γ.mg "range" = none) (hs : ∀ env, starEach [a, b] env = [(false, eval a env), (false, eval b env)]) (hs2 : ∀ env, starEach [b] env = [(false, eval b env)])
    (h : JE S Γ a δ fun d => JE S Γ b δ fun d' => ∃ m n, d = .int m ∧ d' = .int n ∧ (-(2 ^ 62) ≤ m ∧ m < 2 ^ 62 ∧ -(2 ^ 62) ≤ n ∧ n < 2 ^ 62) ∧ PI' (n - m).toNat (fun i => .int (m + i))) : JI S Γ tg (.Call (.Name "range" p1) [a, b] [] p2) δ PI' := by
  refine ⟨fun X hX σ G H s ev R k => ?_⟩
  have hk : Gl X "range" := by show X.env.scope.names.lookup _ = _; rw [hX.sc]; exact hX.so.gl _ hg
  refine PIw (hX.calm Calm.hx) (pi_range2 hk (by rw [hX.mg]; exact hm) (pa_cons wE_pe (pa_cons wE_pe pa_nil (hs2 _)) (by rw [hs, hs2])) (hs _) (hs2 _)) ?_
  refine h.run X hX σ G H s ev _ fun v G1 H1 d s1 r q => ?_
  refine q.run X hX σ G1 H1 (s.trans s1) (ev.mono s1) _ fun v2 G2 H2 d2 s2 r2 q => ?_
  obtain ⟨m, n, rfl, rfl, b, q⟩ := q
  unfold Rep at r r2
  subst r r2
  exact ⟨m, n, rfl, b, k _ G2 H2 _ _ (s1.trans s2) itok_rng q⟩
/-- for tg in e -/
theorem js_for [Calm Γ] {body : List Stmt} (hb : Γ.blk = false) (h : JI S Γ tg e δ fun n f => ∃ I : Nat → List Sl → Prop, I 0 δ ∧ (∀ i, i < n → Turns S Γ tg body K I i (f i)) ∧ ∀ δ', I n δ' → K.nx δ')
    (hs : ∀ env x, foldedSetIterable e env x = pure x := by intros; rfl) : JS S Γ (.For tg e body [] pos) δ K := by
  refine ⟨fun X hX σ G H De s ev en => ?_⟩
  refine PSw (ps_for (hX.def_ hb).2.2.2 (hX.calm Calm.hx) (wI_pi (hX.calm Calm.hx)) wG_pg wSs_pss (hs _)) ?_
  refine h.run X hX σ G H s ev _ fun J G1 H1 n f s1 it q => ?_
  obtain ⟨I, i0, turn, fin⟩ := q
  refine ⟨fun i m σ' H' => m = n - i ∧ i ≤ n ∧ ∃ G' δ', Stp Γ.K Γ.G0 Γ.H0 G' H' ∧ Mo Γ.K G1 H1 G' H' ∧ EnvOk Γ.K G' H' Γ.H0 σ' δ' ∧ I i δ', ⟨n, by simp, Nat.zero_le _, G1, δ, s.trans s1, .refl, ev.mono s1, i0⟩, ?_⟩
  rintro i m σ' H' ⟨rfl, hi, G', δ', s', m', ev', ii⟩
  by_cases hlt : i < n
  · refine .inr ⟨it.go i G' H' s'.sub m' hlt, fun σ2 H2 => ∃ G2 δ2, Stp Γ.K Γ.G0 Γ.H0 G2 H2 ∧ Mo Γ.K G1 H1 G2 H2 ∧ EnvOk Γ.K G2 H2 Γ.H0 σ2 δ2 ∧ I (i + 1) δ2, fun σ2 H2 h2 => ⟨n - (i + 1), by omega, rfl, hlt, h2⟩, fun x H2 y => ?_⟩
    obtain ⟨G2, s2, rx⟩ := it.yld i G' H' x H2 s'.sub m' hlt y
    refine (turn i hlt δ' ii).run X hX x σ' G2 H2 (s'.trans s2) (ev'.mono s2) rx _ fun σ3 G3 H3 δ3 s3 ev3 q3 => ?_
    refine q3.run X hX σ3 G3 H3 _ ((s'.trans s2).trans s3) ev3 ⟨?_, ?_, ?_, ?_, en.rf⟩
    · exact fun σ4 G4 H4 δ4 s4 m4 ev4 q4 => ⟨G4, δ4, s4, ((m'.trans s2.mo).trans s3.mo).trans m4, ev4, q4⟩
    · exact fun σ4 G4 H4 δ4 s4 m4 ev4 q4 => en.nx σ4 G4 H4 δ4 s4 ((((s1.mo.trans m').trans s2.mo).trans s3.mo).trans m4) ev4 q4
    · exact fun σ4 G4 H4 δ4 s4 m4 ev4 q4 => ⟨G4, δ4, s4, ((m'.trans s2.mo).trans s3.mo).trans m4, ev4, q4⟩
    · exact en.rt
  · have e : i = n := by omega
    subst e
    exact .inl ⟨it.stop G' H' s'.sub m', en.nx σ' G' H' δ' s' (s1.mo.trans m') ev' (fin δ' ii)⟩

/-! ### list comprehensions -/
def wipeD (δ : List Sl) : List Nat → List Sl
  | [] => δ
  | v :: vs => (wipeD δ vs).set v .no
theorem EnvOk.wipe {KK : PySem.W.Frag} {G H H0 : Hp} {σ : L2.St} {δ : List Sl} (h : EnvOk KK G H H0 σ δ) : ∀ vs : List Nat, EnvOk KK G H H0 (L2.wipe σ vs) (wipeD δ vs)
  | [] => h
  | v :: vs => (h.wipe vs).forget v none
theorem wipe_set {σ : L2.St} {i : Nat} {o : Option V} : ∀ {vs : List Nat}, i ∈ vs → L2.wipe (σ.set i o) vs = L2.wipe σ vs
  | v :: vs, h => by
    unfold L2.wipe
    by_cases z : i ∈ vs
    · rw [wipe_set z]
    · have e : i = v := by
        rcases List.mem_cons.mp h with e | e
        · exact e
        · exact absurd e z
      subst e
      have : ∀ vs : List Nat, i ∉ vs → L2.wipe (σ.set i o) vs = (L2.wipe σ vs).set i o := by
        intro vs
        induction vs with
        | nil => intro _; rfl
        | cons w ws ih =>
          intro hz
          simp only [List.mem_cons, not_or] at hz
          unfold L2.wipe
          rw [ih hz.2, List.set_comm _ _ hz.1]
      rw [this vs z, List.set_set]
theorem wipe_wipe {σ : L2.St} : ∀ {vs us : List Nat}, (∀ v ∈ us, v ∈ vs) → L2.wipe (L2.wipe σ us) vs = L2.wipe σ vs
  | vs, [], _ => rfl
  | vs, u :: us, h => by
    show L2.wipe ((L2.wipe σ us).set u none) vs = _
    rw [wipe_set (h u (.head _)), wipe_wipe fun v hv => h v (.tail _ hv)]
/-- a target within a comprehension: only its own slots vs change -/
structure JGW (S : Scp) (Γ : Cg) (vs : List Nat) (tg : Expr) (d : D) (δ : List Sl) (P : List Sl → Prop) : Prop where
  run : ∀ X, COk S Γ X → ∀ v σ G H, Stp Γ.K Γ.G0 Γ.H0 G H → EnvOk Γ.K G H Γ.H0 σ δ → Rep Γ.K G H d v → ∀ Q : L2.St → Hp → Prop, (∀ σ' G' H' δ', L2.wipe σ' vs = L2.wipe σ vs → Stp Γ.K G H G' H' → EnvOk Γ.K G' H' Γ.H0 σ' δ' → P δ' → Q σ' H') → wG X tg v σ H Q
structure JGWs (S : Scp) (Γ : Cg) (vs : List Nat) (tgs : List Expr) (ds : List D) (δ : List Sl) (P : List Sl → Prop) : Prop where
  run : ∀ X, COk S Γ X → ∀ us σ G H, Stp Γ.K Γ.G0 Γ.H0 G H → EnvOk Γ.K G H Γ.H0 σ δ → RepL Γ.K G H ds us → ∀ Q : L2.St → Hp → Prop, (∀ σ' G' H' δ', L2.wipe σ' vs = L2.wipe σ vs → Stp Γ.K G H G' H' → EnvOk Γ.K G' H' Γ.H0 σ' δ' → P δ' → Q σ' H') → wGs X tgs us σ H Q
theorem jgw_name {vs : List Nat} {x : Str} {i : Nat} {d : D} {Q : List Sl → Prop} (hv : (x, i) ∈ S.ss) (hi : i ∈ vs) (h : Q (δ.set i (.fz d))) : JGW S Γ vs (.Name x pos) d δ Q := by
  refine ⟨fun X hX v σ G H s ev r Q' k => ?_⟩
  obtain ⟨h1, h2, h3⟩ := hX.loc hv
  exact PGw (pg_name (by rw [hX.N]; exact hX.so.nd) h1 h2 h3) (k _ G H _ (wipe_set hi) (.refl s.sub) (ev.set r) h)
theorem jgws_nil {vs : List Nat} {Q : List Sl → Prop} (h : Q δ) : JGWs S Γ vs [] [] δ Q := by
  refine ⟨fun X hX us σ G H s ev r Q' k => ?_⟩
  unfold RepL at r
  exact PGsw pgs_nil ⟨r, k _ G H _ rfl (.refl s.sub) ev h⟩
theorem jgws_cons {vs : List Nat} {d : D} {ds : List D} {Q : List Sl → Prop} (h : JGW S Γ vs e d δ fun δ' => JGWs S Γ vs es ds δ' Q) (hs : ∀ env, (assignEach (e :: es) env).map (·.2) = assign e env :: (assignEach es env).map (·.2) := by intro _; rfl) : JGWs S Γ vs (e :: es) (d :: ds) δ Q := by
  refine ⟨fun X hX us σ G H s ev r Q' k => ?_⟩
  unfold RepL at r
  obtain ⟨v, vr, rfl, r1, r2⟩ := r
  refine PGsw (pgs_cons wG_pg wGs_pgs (hs _)) ⟨v, vr, rfl, ?_⟩
  refine h.run X hX v σ G H s ev r1 _ fun σ1 G1 H1 δ1 w1 s1 ev1 q => ?_
  exact q.run X hX vr σ1 G1 H1 (s.trans s1) ev1 (r2.mono s1) Q' fun σ2 G2 H2 δ2 w2 s2 ev2 q2 => k σ2 G2 H2 δ2 (w2.trans w1) (s1.trans s2) ev2 q2
theorem jgw_tup [Calm Γ] {vs : List Nat} {kk : Nat} {ds : List D} {Q : List Sl → Prop} {n : Nat} (hl : ds.length = n) (h : JGWs S Γ vs es ds δ Q) (hn : ∀ env, (assignEach es env).length = n := by intro _; rfl) (hst : ∀ env, (assignEach es env).findIdx? (·.1) = none := by intro _; rfl) : JGW S Γ vs (.Tuple es kk pos) (.tup ds) δ Q := by
  refine ⟨fun X hX v σ G H s ev r Q' k => ?_⟩
  unfold Rep at r
  obtain ⟨p, us, rfl, h1, h2⟩ := r
  refine PGw (pg_tup (hX.calm Calm.hx) wGs_pgs (hn _) (hst _)) ⟨p, us, rfl, by rw [hX.K]; exact Same.tup s.sub h1, by rw [h2.length]; exact hl, ?_⟩
  exact h.run X hX us σ G H s ev h2 Q' k
/-- the tests of a comprehension -/
structure JTs (S : Scp) (Γ : Cg) (ifs : List Expr) (δ : List Sl) (P : Bool → Prop) : Prop where
  run : ∀ X, COk S Γ X → ∀ σ G H, Stp Γ.K Γ.G0 Γ.H0 G H → EnvOk Γ.K G H Γ.H0 σ δ → ∀ pins s, Inv X pins σ H s → ∀ Q : Bool → Hp → Prop, (∀ b G' H', Stp Γ.K G H G' H' → P b → Q b H') →
    wpAny (model X.prog X.w) X.A (forIn ifs true fun c r => if r = true then do let ok ← isTrue c X.env (eval c X.env); pure (ForInStep.yield ok) else pure (ForInStep.yield r)) (TP X pins σ Q) X.xe s
theorem jts_nil (h : PB true) : JTs S Γ [] δ PB := ⟨fun X hX σ G H s ev pins s0 I Q k => pts_nil.run pins s0 σ H Q I (k true G H (.refl s.sub) h)⟩
theorem jts_one (h : JT S Γ c δ PB) : JTs S Γ [c] δ PB := ⟨fun X hX σ G H s ev pins s0 I Q k => (pts_one wT_pt).run pins s0 σ H Q I (h.run X hX σ G H s ev Q k)⟩
def wTs (X : Cx) (ifs : List Expr) : TT := fun σ H Q => ∀ pins s, Inv X pins σ H s → wpAny (model X.prog X.w) X.A (forIn ifs true fun c r => if r = true then do let ok ← isTrue c X.env (eval c X.env); pure (ForInStep.yield ok) else pure (ForInStep.yield r)) (TP X pins σ Q) X.xe s
def Md.inB : Md → Md
  | .calm => .calm
  | _ => .blind
theorem Md.inB_hot {m : Md} {h : Addr × Addr × Option Addr} : m.inB ≠ .hot h := by cases m <;> intro z <;> cases z
theorem Md.inB_calm {m : Md} (e : m.inB = .calm) : m = .calm := by cases m <;> first | rfl | cases e
abbrev Cg.inBlk (Γ : Cg) : Cg := { Γ with ex := fun _ _ _ _ => False, blk := true, md := Γ.md.inB, cd := none }
/-- what stands of a comprehension's block -/
structure BlkS (S S' : Scp) (scope : Scope) (own : List (Str × Nat)) : Prop where
  ok : BlkOk S.N S.sc scope own
  so : S'.Ok
  N : S'.N = S.N
  sc : S'.sc = relS scope S.sc
  lv : S'.lv = S.lv
  st : ∀ x ∈ S'.ss, S'.sc.names.lookup x.1 = some .local ∨ scope.names.lookup x.1 = some .cell
theorem COk.blk {S' : Scp} {scope : Scope} {own : List (Str × Nat)} (B : BlkS S S' scope own) {X : Cx} (hX : COk S Γ X) (s : Shared) (H : Hp) (C : Addr) (cl : List (Str × Addr)) (fp : List Addr) : COk S' Γ.inBlk (X.blk s H scope (compEnvC scope cl C X.env) fp) := by
  have e : (compEnvC scope cl C X.env).scope = S'.sc := by rw [B.sc, ← hX.sc]; rfl
  refine ⟨B.so, hX.prog, hX.w, hX.K, hX.mg, hX.base, by rw [B.N]; exact hX.N, e, fun m => hX.calm (Md.inB_calm m), by rw [B.lv]; exact fun m => hX.room (Md.inB_calm m), by rw [B.lv]; exact hX.roomH, fun _ m => absurd m Md.inB_hot, fun x hx => ?_, (fun z => Bool.noConfusion z), ?_, hX.tb, (fun _ _ _ z => by cases z)⟩
  · rcases B.st x hx with q | q
    · refine .inr ?_
      show (compEnvC scope cl C X.env).scope.names.lookup x.1 = _
      rw [e]
      exact q
    · exact .inl (beq_iff_eq.mpr q)
  · rintro u s' ⟨a, B, sI, pins, σ, H, cls, d, e, I, nb, up, sky, na, os, ag, G, δ, ns, ds, _, _, _, z⟩
    exact z.elim
theorem lc_t {S' : Scp} {elt iter : Expr} {ifs : List Expr} {scope : Scope} {own : List (Str × Nat)} (B : BlkS S S' scope own)
    (h : JI S Γ tg iter δ fun n f => ∃ A : Nat → List D → Prop, A 0 [] ∧ (∀ i acc, i < n → A i acc → JGW S' Γ.inBlk (own.map (·.2)) tg (f i) (wipeD δ (own.map (·.2))) fun δ2 => JTs S' Γ.inBlk ifs δ2 fun t => if t = true then JE S' Γ.inBlk elt δ2 fun d => acc.length < sizeLine ∧ A (i + 1) (acc ++ [d]) else A (i + 1) acc) ∧ ∀ acc, A n acc → PL acc)
    {X : Cx} (hX : COk S Γ X) {σ : L2.St} {G H : Hp} (s : Stp Γ.K Γ.G0 Γ.H0 G H) (ev : EnvOk Γ.K G H Γ.H0 σ δ) {Q : VK} (k : ∀ p vs G' H' ds, Stp Γ.K G H G' H' → H p = none → G' p = none → H' p = some (.lst vs) → RepL Γ.K G' H' ds vs → PL ds → Q (.ref p) H') :
    tLc (wI X tg iter) (fun v σ H Q => ∀ s H0 C cl fp, wG (X.blk s H0 scope (compEnvC scope cl C X.env) fp) tg v σ H Q) (fun σ H Q => ∀ s H0 C cl fp, wTs (X.blk s H0 scope (compEnvC scope cl C X.env) fp) ifs σ H Q) (fun σ H Q => ∀ s H0 C cl fp, wE (X.blk s H0 scope (compEnvC scope cl C X.env) fp) elt σ H Q) (own.map (·.2)) σ H Q := by
  refine h.run X hX σ G H s ev _ fun J G1 H1 n f s1 it q => ?_
  obtain ⟨A, a0, turn, fin⟩ := q
  intro p hp
  have g1 : G1 p = none := s1.sub.free hp
  have h0 : H p = none := s1.free hp
  refine ⟨fun i m H' => m = n - i ∧ i ≤ n ∧ ∃ G' acc ds, Stp Γ.K G1 H1 G' H' ∧ G' p = none ∧ H' p = some (.lst acc) ∧ RepL Γ.K G' H' ds acc ∧ A i ds, ⟨n, by simp, Nat.zero_le _, G1, [], [], .newM s1.sub hp, g1, upd_same, .nil, a0⟩, ?_⟩
  rintro i m H' ⟨rfl, hi, G', acc, ds, s', g', hp', r', ai⟩
  have st' := (s.trans s1).trans s'
  by_cases hlt : i < n
  · refine .inr ⟨it.go i G' H' s'.sub s'.mo hlt, fun H2 => ∃ G2 acc2 ds2, Stp Γ.K G1 H1 G2 H2 ∧ G2 p = none ∧ H2 p = some (.lst acc2) ∧ RepL Γ.K G2 H2 ds2 acc2 ∧ A (i + 1) ds2, fun H2 h2 => ⟨n - (i + 1), by omega, rfl, hlt, h2⟩, fun x H2 y => ?_⟩
    obtain ⟨G2, s2, rx⟩ := it.yld i G' H' x H2 s'.sub s'.mo hlt y
    have own2 := s2.own p _ hp' g'
    intro s0 H0 C cl fp
    refine (turn i ds hlt ai).run _ (COk.blk B hX s0 H0 C cl fp) x _ G2 H2 (st'.trans s2) ((((ev.mono s1).mono s').mono s2).wipe _) rx _ fun σ3 G3 H3 δ3 w3 s3 ev3 q3 => ?_
    refine ⟨?_, ?_⟩
    · rw [w3]
      exact wipe_wipe fun _ z => z
    intro s0 H0 C cl fp pins s00 I
    refine q3.run _ (COk.blk B hX s0 H0 C cl fp) σ3 G3 H3 ((st'.trans s2).trans s3) ev3 pins s00 I _ fun t G4 H4 s4 q4 => ?_
    have s24 := (s2.trans s3).trans s4
    have own4 := s24.own p _ hp' g'
    have hp4 : H4 p = some (.lst acc) := own4.2.elim id fun z => z.1.elim
    cases t with
    | false =>
      refine L2.iteF ⟨G4, acc, ds, s'.trans s24, own4.1, hp4, r'.mono s24, ?_⟩
      exact q4
    | true =>
      refine L2.iteT ?_
      intro s0 H0 C cl fp
      refine (show JE _ _ _ _ _ from q4).run _ (COk.blk B hX s0 H0 C cl fp) σ3 G4 H4 (st'.trans s24) (ev3.mono s4) _ fun y5 G5 H5 d5 s5 r5 q5 => ?_
      have own5 := s5.own p _ hp4 own4.1
      have hp5 : H5 p = some (.lst acc) := own5.2.elim id fun z => z.1.elim
      have rr := (r'.mono s24).mono s5
      refine ⟨acc, hp5, by rw [r'.length]; exact q5.1, G5, acc ++ [y5], ds ++ [d5], ((s'.trans s24).trans s5).write (o := .lst acc) own5.1 hp, own5.1, upd_same, ?_, q5.2⟩
      exact (rr.append (.one r5)).mo (.write hp5)
  · have e : i = n := by omega
    subst e
    exact .inl ⟨it.stop G' H' s'.sub s'.mo, k p acc G' H' ds (s1.trans s') h0 g' hp' r' (fin ds ai)⟩
theorem jf_lc [Calm Γ] {S' : Scp} {elt iter : Expr} {ifs : List Expr} {scope : Scope} {own : List (Str × Nat)} (B : BlkS S S' scope own)
    (h : JI S Γ tg iter δ fun n f => ∃ A : Nat → List D → Prop, A 0 [] ∧ (∀ i acc, i < n → A i acc → JGW S' Γ.inBlk (own.map (·.2)) tg (f i) (wipeD δ (own.map (·.2))) fun δ2 => JTs S' Γ.inBlk ifs δ2 fun t => if t = true then JE S' Γ.inBlk elt δ2 fun d => acc.length < sizeLine ∧ A (i + 1) (acc ++ [d]) else A (i + 1) acc) ∧ ∀ acc, A n acc → PL acc)
    (hs : ∀ env x, foldedSetIterable iter env x = pure x := by intros; rfl) : JF S Γ (.ListComp elt [⟨tg, iter, ifs, 0⟩] scope pos) δ PL := by
  refine ⟨fun X hX σ G H s ev Q k => ?_⟩
  refine PEw (pe_lc (hX.calm Calm.hx) (by rw [hX.N]; exact hX.so.nd) (wI_pi (hX.calm Calm.hx)) (by rw [hX.N, hX.sc]; exact B.ok) ?_ ?_ ?_ (hs _)) (lc_t B h hX s ev k)
  · exact fun s H C cl fp => ⟨fun pins s0 σ H0 v u Q I r q => q s H C cl fp pins s0 u I r⟩
  · exact fun s H C cl fp => ⟨fun pins s0 σ H0 Q I q => q s H C cl fp pins s0 I⟩
  · exact fun s H C cl fp => ⟨fun pins s0 σ H0 Q I q => q s H C cl fp pins s0 I⟩
theorem js_setLcZ [Calm Γ] {S' : Scp} {elt iter : Expr} {ifs : List Expr} {scope : Scope} {own : List (Str × Nat)} {x : Str} {i : Nat} {py sp : Pos} (B : BlkS S S' scope own) (hv : (x, i) ∈ S.ss) (hx : S.sc.names.lookup x = some .local) (hk : S.sc.kind = .function) (hl : (py.line == pos.line) = true)
    (ha : (scope.names.any fun (n, k) => n == x && (k == .local || k == .cell)) = false)
    (h : JI S Γ tg iter δ fun n f => ∃ A : Nat → List D → Prop, A 0 [] ∧ (∀ i acc, i < n → A i acc → JGW S' Γ.inBlk (own.map (·.2)) tg (f i) (wipeD δ (own.map (·.2))) fun δ2 => JTs S' Γ.inBlk ifs δ2 fun t => if t = true then JE S' Γ.inBlk elt δ2 fun d => acc.length < sizeLine ∧ A (i + 1) (acc ++ [d]) else A (i + 1) acc) ∧ ∀ acc, A n acc → K.nx (δ.set i (.fz (.lst acc))))
    (hs : ∀ env x, foldedSetIterable iter env x = pure x := by intros; rfl) : JS S Γ (.Assign [.Name x py] (.ListComp elt [⟨tg, iter, ifs, 0⟩] scope pos) sp) δ K := by
  refine ⟨fun X hX σ G H De s ev en => ?_⟩
  obtain ⟨h1, h2, h3⟩ := hX.loc hv
  refine PSw (ps_setLc (g := fun v σ H Q => ∀ s H0 C cl fp, wG (X.blk s H0 scope (compEnvC scope cl C X.env) fp) tg v σ H Q) (tt := fun σ H Q => ∀ s H0 C cl fp, wTs (X.blk s H0 scope (compEnvC scope cl C X.env) fp) ifs σ H Q) (te := fun σ H Q => ∀ s H0 C cl fp, wE (X.blk s H0 scope (compEnvC scope cl C X.env) fp) elt σ H Q) (hX.calm Calm.hx) (by rw [hX.N]; exact hX.so.nd) h1 (by rw [hX.sc]; exact hx) (sw_true (by rw [hX.sc]; exact hk) (by rw [hX.sc]; exact hx) hl ha) (wI_pi (hX.calm Calm.hx)) (by rw [hX.N, hX.sc]; exact B.ok) ?_ ?_ ?_ (hs _)) ?_
  · exact fun s H C cl fp => ⟨fun pins s0 σ H0 v u Q I r q => q s H C cl fp pins s0 u I r⟩
  · exact fun s H C cl fp => ⟨fun pins s0 σ H0 Q I q => q s H C cl fp pins s0 I⟩
  · exact fun s H C cl fp => ⟨fun pins s0 σ H0 Q I q => q s H C cl fp pins s0 I⟩
  refine lc_t (PL := fun acc => K.nx (δ.set i (.fz (.lst acc)))) B h hX s ev fun p vs G1 H1 ds s1 hp gp h1 r q => ?_
  have s2 := s1.freeze hp h1 gp
  exact en.nx _ _ H1 _ (s.trans s2) s2.mo ((ev.mono s2).set (by unfold Rep; exact ⟨p, vs, rfl, upd_same, r.mo (.freeze h1 gp)⟩)) q
/-! ### x.append(e) at a list of one's own -/
theorem EnvOk.write {KK : PySem.W.Frag} {G H H0 : Hp} {σ : St} {δ : List Sl} (h : EnvOk KK G H H0 σ δ) {i : Nat} {ds es : List D} {p : Addr} {us : List V} (e : δ[i]? = some (.ow ds)) (ep : σ[i]? = some (some (.ref p))) (g : G p = none) (h0 : H0 p = none) {vs : List V} (hp : H p = some (.lst vs))
    (r : RepL KK G H es us) : EnvOk KK G (upd H p (.lst us)) H0 σ (δ.set i (.ow es)) := by
  have mo : Mo KK G H G (upd H p (.lst us)) := .write hp
  obtain ⟨F, f, dj⟩ := h.fp
  obtain ⟨p', vs', ea, e1, _, _, _, _⟩ := EnvOk.at0 f e
  rw [ep] at e1
  cases e1
  refine EnvOk.anew (as' := [p]) h.len f dj mo (fun j n a ha => ⟨?_, ((f j).own a ha).1⟩) rfl (fun _ _ => rfl) (fun _ => ⟨p, us, rfl, ep, upd_same, g, h0, r.mo mo⟩) (fun j n a ha => ?_)
  · rw [upd_ne]
    intro w
    subst w
    exact dj j i n a ha (by rw [ea]; exact .head _)
  · rw [List.mem_singleton.mp ha]
    exact dj i j (fun w => n w.symm) p (by rw [ea]; exact .head _)
theorem js_append {x : Str} {i : Nat} {ds : List D} {p1 p2 p3 : Pos} (hv : (x, i) ∈ S.vs) (hδ : δ[i]? = some (.ow ds)) (h : JE S Γ e δ fun d => ds.length < sizeLine ∧ K.nx (δ.set i (.ow (ds ++ [d]))))
    (hd : (x == ("__debug__" : Str)) = false := by decide) (hcd : (x == ("__classdict__" : Str)) = false := by decide)
    (hs : ∀ env, starEach [e] env = (false, eval e env) :: starEach [] env := by intro _; rfl) (hline : (p2.endLine == p3.line) = true := by rfl)
    (hfew : ∀ env, ((backTo p3 (starEach [e] env)).all (fun x => !x.1) && (backToKw p3 (keywordEach [] env)).all (fun x => x.1.isSome) && decide (([e] : List Expr).length + ([] : List Keyword).length + (if ([] : List Keyword).isEmpty then 0 else 1) < 30)) = true := by intro _; rfl)
    (hsw : ∀ env, swapsWith (.Call (.Attribute (.Name x p1) "append" p2) [e] [] p3) none pos.line env = pure false := by intro _; rfl) :
    JS S Γ (.Expr (.Call (.Attribute (.Name x p1) "append" p2) [e] [] p3) pos) δ K := by
  refine ⟨fun X hX σ G H De s ev en => ?_⟩
  obtain ⟨h1, h2⟩ := hX.so.vs _ hv
  refine PSw (ps_expr (pe_bm PySem.F.plainAttrs_list PySem.F.slot_list_append PySem.F.type_list_append mt_append (pe_var (by rw [hX.N]; exact h1) (by rw [hX.sc]; exact h2) hd hcd) (pa_cons wE_pe pa_nil (hs _)) (by rfl) (hfew _) hline (hs _) (by rfl)) (hsw _)) ?_
  obtain ⟨p, vs, ep, hp, g, h0, r⟩ := ev.at_ i _ hδ
  refine ⟨_, ep, .inl ⟨rfl, vs, .inl (.inl hp)⟩, ?_⟩
  refine h.run X hX σ G H s ev _ fun v G1 H1 d s1 r1 q => ?_
  have ev1 := ev.mono s1
  obtain ⟨p', vs', ep', hp', g', h0', r'⟩ := ev1.at_ i _ hδ
  rw [ep] at ep'
  cases ep'
  have hlen := r'.length
  refine ⟨p, vs', v, rfl, rfl, hp', by rw [hlen]; exact q.1, ?_⟩
  exact en.nx σ G1 _ _ ((s.trans s1).write (o := .lst vs') g' h0) (s1.mo.trans (.write hp')) (ev1.write hδ ep g' h0 hp' (r'.append (.one r1))) q.2
end

/-! ### a def keeps its contract -/
theorem EnvOk.start {KK : PySem.W.Frag} {G H H0 : Hp} {ds : List D} {vs : List V} (r : RepL KK G H ds vs) (N : List Str) (hN : ds.length ≤ N.length) : EnvOk KK G H H0 (L2.start N vs) (ds.map Sl.fz ++ List.replicate (N.length - ds.length) Sl.no) := by
  have hl := r.length
  refine ⟨by simp [L2.start, hl], fun _ => [], fun i => ?_, fun _ _ _ a ha => by cases ha⟩
  by_cases hi : i < ds.length
  · rw [List.getElem?_append_left (by simpa using hi), List.getElem?_map]
    obtain ⟨v, hv, rv⟩ := r.get (List.getElem?_eq_getElem hi)
    rw [List.getElem?_eq_getElem hi]
    refine ⟨rfl, v, ?_, rv⟩
    unfold L2.start
    rw [List.getElem?_append_left (by simp [hl, hi]), List.getElem?_map, hv]
    rfl
  · rw [List.getElem?_append_right (by simpa using Nat.le_of_not_lt hi)]
    cases q : (List.replicate (N.length - ds.length) Sl.no)[i - (List.map Sl.fz ds).length]? with
    | none => rfl
    | some s =>
      rw [List.eq_of_mem_replicate (List.mem_of_getElem? q)]
      rfl
def startD (N : List Str) (ds : List D) : List Sl := ds.map Sl.fz ++ List.replicate (N.length - ds.length) Sl.no
/-- the surroundings that a def's body finds -/
def cgOf (P : Program) (w : World) (K : PySem.W.Frag) (mg : Str → Option Value) (base : Heap) (G H : Hp) (ex : List Sl → Value → List Str → List D → Prop) : Cg := ⟨P, w, K, mg, base, G, H, ex, fun _ => False, false, .calm, none⟩
/-- .. of a def that hands back a new list -/
def cgOfF (P : Program) (w : World) (K : PySem.W.Frag) (mg : Str → Option Value) (base : Heap) (G H : Hp) (ex : List Sl → Value → List Str → List D → Prop) (rf : MT → Prop) : Cg := ⟨P, w, K, mg, base, G, H, ex, rf, false, .calm, none⟩
/-- .. of a def that is called while an exception is handled -/
def cgOfH (P : Program) (w : World) (K : PySem.W.Frag) (mg : Str → Option Value) (base : Heap) (G H : Hp) (ex : List Sl → Value → List Str → List D → Prop) (hx : Addr × Addr × Option Addr) : Cg := ⟨P, w, K, mg, base, G, H, ex, fun _ => False, false, .hot hx, none⟩
instance calm_of {P : Program} {w : World} {K : PySem.W.Frag} {mg : Str → Option Value} {base : Heap} {G H : Hp} {ex : List Sl → Value → List Str → List D → Prop} : Calm (cgOf P w K mg base G H ex) := ⟨rfl⟩
instance calm_ofF {P : Program} {w : World} {K : PySem.W.Frag} {mg : Str → Option Value} {base : Heap} {G H : Hp} {ex : List Sl → Value → List Str → List D → Prop} {rf : MT → Prop} : Calm (cgOfF P w K mg base G H ex rf) := ⟨rfl⟩
instance calm_blk {Γ : Cg} [c : Calm Γ] : Calm Γ.inBlk := ⟨by show Γ.md.inB = _; rw [c.hx]; rfl⟩
/-- what all defs of a module lean on -/
structure Env1 where
  P : Program
  w : World
  K : PySem.W.Frag
  mg : Str → Option Value
  base : Heap
abbrev Env1.cg (U : Env1) (G H : Hp) (ex : List Sl → Value → List Str → List D → Prop) : Cg := cgOf U.P U.w U.K U.mg U.base G H ex
abbrev Env1.cgF (U : Env1) (G H : Hp) (ex : List Sl → Value → List Str → List D → Prop) (rf : MT → Prop) : Cg := cgOfF U.P U.w U.K U.mg U.base G H ex rf
abbrev Env1.Def (U : Env1) (x : Str) (lv : Nat) (df : List D) (c : Ct) : Prop := DefOk U.P U.w U.K U.mg U.base x lv df c
structure FunAt (U : Env1) (x : Str) (st : Stmt) (dvs : List V) : Prop where
  ex : ∃ f fd, FunD U.K x x (defArgs st) (defBody st) (defScope st) dvs [] f fd ∧ U.mg x = some (.ref f)
theorem def_ok {U : Env1} {x : Str} {st : Stmt} {S : Scp} {ps : List Str} {c : Ct} {n : Nat} {dvs : List V} {df : List D} {j : Nat} (F : FunAt U x st dvs) (so : S.Ok) (sc : S.sc = defScope st) (fs : FnScope S.N ps (defScope st)) (hn : ps.length = n) (hN : n ≤ S.N.length)
    (hb : ∀ f fd, FunD U.K x x (defArgs st) (defBody st) (defScope st) dvs [] f fd → ∃ ds, Vals (dvs.drop j) ds ∧ Binds U.K fd ps ds) (hdf : ∀ G H, RepL U.K G H df (dvs.drop j))
    (len : ∀ ds P E, c ds P E → ds.length = n)
    (mono : ∀ ds (P P' : D → Prop) (E E' : Value → List Str → List D → Prop), (∀ d, P d → P' d) → (∀ v ns es, E v ns es → E' v ns es) → c ds P E → c ds P' E')
    (body : ∀ (G H : Hp) ds P E, c ds P E → JSs S (U.cg G H fun _ => E) (defBody st) (startD S.N ds) { nx := fun _ => P .non, rt := P }) : U.Def x (S.lv + 1) df c := by
  refine ⟨mono, ?_⟩
  obtain ⟨f, fd, Fu, hm⟩ := F.ex
  obtain ⟨ds, hv, hbi⟩ := hb f fd Fu
  refine ⟨f, fd, ps, ds, dvs.drop j, ?_, hm, Fu.kp, hbi, hv, hdf⟩
  refine Fu.ok fs (fun vs H Q E h => ?_) (fun cdv A outer s H vs Q E hr h => ?_)
  · obtain ⟨G, ds, _, _, r, h⟩ := h
    rw [r.length, len _ _ _ h, hn]
  · obtain ⟨G, ds, e, tb, r, h⟩ := h
    have hl := len _ _ _ h
    refine ⟨_, wSs_pss, ?_⟩
    refine (body G H ds _ _ h).run _ ⟨so, rfl, rfl, rfl, rfl, rfl, rfl, sc.symm, fun _ => rfl, fun _ => hr, L2H.roomH_of hr, (fun _ z => by cases z), fun _ _ => .inl rfl, fun _ => ⟨rfl, rfl, rfl, passes_of rfl⟩, ?_, tb, (fun _ _ _ z => by cases z)⟩ _ G H _ (.refl e) (EnvOk.start r _ (by omega)) ⟨?_, ?_, ?_, ?_, fun _ _ _ _ _ _ _ _ _ q => q.elim⟩
    · refine L2N.Takes.imp (L2N.takes_of rfl rfl rfl rfl) ?_
      rintro cls d σ' H' ⟨G', δ', ns, es, s', ev', x', q⟩
      exact q d G' H' s' x'
    · exact fun σ' G' H' δ' s' _ _ q => q .non G' H' s' rep_non
    · exact fun _ _ _ _ _ _ _ q => q.elim
    · exact fun _ _ _ _ _ _ _ q => q.elim
    · exact fun v G' H' d s' r' q => q v G' H' s' r'
end Z
set_option Elab.async false
set_option linter.all false
set_option maxRecDepth 100000
set_option maxHeartbeats 4000000
/-! Z4: the rules in the form that the walk takes. -/
namespace Z
open PySem L2
variable [tabsI : TabsT]

inductive Has : List (Str × Nat) → Str → Nat → Prop
  | head {x : Str} {i : Nat} {l : List (Str × Nat)} : Has ((x, i) :: l) x i
  | tail {x : Str} {i : Nat} {p : Str × Nat} {l : List (Str × Nat)} : Has l x i → Has (p :: l) x i
theorem Has.mem {l : List (Str × Nat)} {x : Str} {i : Nat} (h : Has l x i) : (x, i) ∈ l := by
  induction h with
  | head => exact .head _
  | tail _ ih => exact .tail _ ih
inductive HasG : List Str → Str → Prop
  | head {x : Str} {l : List Str} : HasG (x :: l) x
  | tail {x y : Str} {l : List Str} : HasG l x → HasG (y :: l) x
theorem HasG.mem {l : List Str} {x : Str} (h : HasG l x) : x ∈ l := by
  induction h with
  | head => exact .head _
  | tail _ ih => exact .tail _ ih

section
variable {S : Scp} {Γ : Cg} {δ : List Sl} {P : D → Prop} {PB : Bool → Prop} {PL : List D → Prop} {N B C : List Sl → Prop} {R : D → Prop} {a b c e : Expr} {es rest : List Expr} {pos : Pos} {st : Stmt} {sts : List Stmt}
theorem zs_nil (h : N δ) : JSs S Γ [] δ ⟨N, R, B, C⟩ := jss_nil h
theorem zs_cons {st2 : Stmt} (h : JS S Γ st δ ⟨fun δ' => JSs S Γ (st2 :: sts) δ' ⟨N, R, B, C⟩, R, B, C⟩) : JSs S Γ (st :: st2 :: sts) δ ⟨N, R, B, C⟩ := jss_cons h
theorem zs_one (h : JS S Γ st δ ⟨N, R, B, C⟩) : JSs S Γ [st] δ ⟨N, R, B, C⟩ := jss_one h
theorem zs_ret (h : JE S Γ e δ R) : JS S Γ (.Return (some e) pos) δ ⟨N, R, B, C⟩ := js_ret h
theorem zs_if {x y : List Stmt} (h : JT S Γ c δ fun t => if t = true then JSs S Γ x δ ⟨N, R, B, C⟩ else JSs S Γ y δ ⟨N, R, B, C⟩) : JS S Γ (.If c x y pos) δ ⟨N, R, B, C⟩ := js_if h
theorem zs_expr (h : JE S Γ e δ fun _ => N δ) (hs : ∀ env, swapsWith e none pos.line env = pure false := by intro _; rfl) : JS S Γ (.Expr e pos) δ ⟨N, R, B, C⟩ := js_expr h hs
theorem zs_set {x : Str} {i : Nat} {p : Pos} (hv : Has S.ss x i) (h : JE S Γ e δ fun d => N (δ.set i (.fz d))) (hs : ∀ env, swapsWith e (some (.Name x p)) pos.line env = pure false := by intro _; rfl) : JS S Γ (.Assign [.Name x p] e pos) δ ⟨N, R, B, C⟩ := js_set hv.mem h hs
theorem zs_setF {x : Str} {i : Nat} {p : Pos} (hv : Has S.ss x i) (h : JF S Γ e δ fun ds => N (δ.set i (.ow ds))) (hs : ∀ env, swapsWith e (some (.Name x p)) pos.line env = pure false := by intro _; rfl) : JS S Γ (.Assign [.Name x p] e pos) δ ⟨N, R, B, C⟩ := js_setF hv.mem h hs
theorem zs_asg {tg : Expr} (h : JE S Γ e δ fun d => JG S Γ tg d δ N) (hs : ∀ env, swapsWithSole [tg] e pos.line env = pure false := by intro _; rfl) (hw : ∀ env : Env, env.scope = S.sc → swappedStores [tg] e env = pure none := by intro env h; first | rfl | (cases env; cases h; rfl))
    (h1 : ∀ env, (assignEach [tg] env).map (·.2) = [assign tg env] := by intro _; rfl) : JS S Γ (.Assign [tg] e pos) δ ⟨N, R, B, C⟩ := js_asg h hs hw h1
theorem zg_name {x : Str} {i : Nat} {d : D} {Q : List Sl → Prop} (hv : Has S.ss x i) (h : Q (δ.set i (.fz d))) : JG S Γ (.Name x pos) d δ Q := jg_name hv.mem h
theorem zs_append {x : Str} {i : Nat} {ds : List D} {p1 p2 p3 : Pos} (hv : Has S.vs x i) (hδ : δ[i]? = some (.ow ds)) (h : JE S Γ e δ fun d => ds.length < sizeLine ∧ N (δ.set i (.ow (ds ++ [d]))))
    (hd : (x == ("__debug__" : Str)) = false := by decide) (hcd : (x == ("__classdict__" : Str)) = false := by decide)
    (hs : ∀ env, starEach [e] env = (false, eval e env) :: starEach [] env := by intro _; rfl) (hline : (p2.endLine == p3.line) = true := by rfl)
    (hfew : ∀ env, ((backTo p3 (starEach [e] env)).all (fun x => !x.1) && (backToKw p3 (keywordEach [] env)).all (fun x => x.1.isSome) && decide (([e] : List Expr).length + ([] : List Keyword).length + (if ([] : List Keyword).isEmpty then 0 else 1) < 30)) = true := by intro _; rfl)
    (hsw : ∀ env, swapsWith (.Call (.Attribute (.Name x p1) "append" p2) [e] [] p3) none pos.line env = pure false := by intro _; rfl) :
    JS S Γ (.Expr (.Call (.Attribute (.Name x p1) "append" p2) [e] [] p3) pos) δ ⟨N, R, B, C⟩ := js_append hv.mem hδ h hd hcd hs hline hfew hsw
theorem ze_name {x : Str} {i : Nat} {d : D} (hv : Has S.vs x i) (hδ : δ[i]? = some (.fz d)) (h : P d) (hd : (x == ("__debug__" : Str)) = false := by decide) (hcd : (x == ("__classdict__" : Str)) = false := by decide) : JE S Γ (.Name x pos) δ P := je_name hv.mem hδ h hd hcd
theorem ze_call [Calm Γ] {x : Str} {lv : Nat} {df : List D} {ct : Ct} {p : Pos} (F : DefOk Γ.P Γ.w Γ.K Γ.mg Γ.base x lv df ct) (hl : lv ≤ S.lv) (hg : HasG S.gl x)
    (h : JA S Γ (e :: es) δ fun ds => ct (ds ++ df) P (Γ.ex δ))
    (hdb : (x == ("__debug__" : Str)) = false := by decide) (he : ∀ env, starEach (e :: es) env = (false, eval e env) :: starEach es env := by intro _; rfl) (hpl : ∀ env, (backTo pos (starEach es env)).any (·.1) = false := by intro _; rfl) :
    JE S Γ (.Call (.Name x p) (e :: es) [] pos) δ P := je_call F hl hg.mem h hdb he hpl
theorem isBl_mk {b : Bool} (h : PB b) : isBl PB (.bl b) := h
/-! tests whose answer is asked -/
theorem ite_d {c : Prop} [Decidable c] {A B : Prop} (h1 : c → A) (h2 : ¬ c → B) : if decide c = true then A else B := by
  by_cases h : c
  · rw [decide_eq_true h]; exact L2.iteT (h1 h)
  · rw [decide_eq_false h]; exact L2.iteF (h2 h)
theorem ite_nd {c : Prop} [Decidable c] {A B : Prop} (h1 : ¬ c → A) (h2 : c → B) : if (!decide c) = true then A else B := by
  by_cases h : c
  · rw [decide_eq_true h]; exact L2.iteF (h2 h)
  · rw [decide_eq_false h]; exact L2.iteT (h1 h)
theorem ite_F {b : Bool} {A B : Prop} (hb : b = false) (h : B) : if b = true then A else B := by rw [hb]; exact L2.iteF h
theorem ite_dF {c : Prop} [Decidable c] {A B : Prop} (hc : ¬ c) (h : B) : if decide c = true then A else B := ite_F (decide_eq_false hc) h
theorem ite_ndF {c : Prop} [Decidable c] {A B : Prop} (hc : c) (h : B) : if (!decide c) = true then A else B := ite_F (by rw [decide_eq_true hc]; rfl) h
end
end Z
namespace Z
open PySem L2
variable [tabsI : TabsT]
section
variable {S : Scp} {Γ : Cg} {δ : List Sl} {N B C : List Sl → Prop} {R : D → Prop} {a b : Expr} {pos : Pos}
end
end Z
set_option Elab.async false
set_option linter.all false
set_option maxRecDepth 100000
set_option maxHeartbeats 4000000
/-! Z5: the law's store (a dict of six keys) and the script. -/
namespace Z
open PySem L2
variable [tabsI : TabsT]
section
variable {S : Scp} {Γ : Cg} {δ : List Sl} {P : D → Prop} {PB : Bool → Prop} {PL : List D → Prop} {N B C : List Sl → Prop} {R : D → Prop} {a b c e o : Expr} {es rest : List Expr} {pos : Pos} {st : Stmt} {sts : List Stmt}
theorem ks12 : ¬ kS "cells" = kS "at" := by decide +kernel
theorem ks13 : ¬ kS "cells" = kS "rest" := by decide +kernel
theorem ks14 : ¬ kS "cells" = kS "left" := by decide +kernel
theorem ks15 : ¬ kS "cells" = kS "turn" := by decide +kernel
theorem ks16 : ¬ kS "cells" = kS "seed" := by decide +kernel
theorem ks23 : ¬ kS "at" = kS "rest" := by decide +kernel
theorem ks24 : ¬ kS "at" = kS "left" := by decide +kernel
theorem ks25 : ¬ kS "at" = kS "turn" := by decide +kernel
theorem ks26 : ¬ kS "at" = kS "seed" := by decide +kernel
theorem ks34 : ¬ kS "rest" = kS "left" := by decide +kernel
theorem ks35 : ¬ kS "rest" = kS "turn" := by decide +kernel
theorem ks36 : ¬ kS "rest" = kS "seed" := by decide +kernel
theorem ks45 : ¬ kS "left" = kS "turn" := by decide +kernel
theorem ks46 : ¬ kS "left" = kS "seed" := by decide +kernel
theorem ks56 : ¬ kS "turn" = kS "seed" := by decide +kernel
theorem st_ne {x y : Str} (h : ¬ kS x = kS y) : ¬ x = y := fun z => h (congrArg Sum.inr z)
theorem pos2560 : (0 : Int) < 2 ^ 2560 := by decide +kernel
section
variable {k : Addr} {x r l t s : Int}
theorem sv_cells : valV (stoKvs k x r l t s) (kS "cells") = some (.ref k) := valV_pos rfl
theorem sv_at : valV (stoKvs k x r l t s) (kS "at") = some (.int x) := by
  unfold stoKvs
  rw [valV_neg ks12, valV_pos rfl]
theorem sv_rest : valV (stoKvs k x r l t s) (kS "rest") = some (.int r) := by
  unfold stoKvs
  rw [valV_neg ks13, valV_neg ks23, valV_pos rfl]
theorem sv_left : valV (stoKvs k x r l t s) (kS "left") = some (.int l) := by
  unfold stoKvs
  rw [valV_neg ks14, valV_neg ks24, valV_neg ks34, valV_pos rfl]
theorem sv_turn : valV (stoKvs k x r l t s) (kS "turn") = some (.int t) := by
  unfold stoKvs
  rw [valV_neg ks15, valV_neg ks25, valV_neg ks35, valV_neg ks45, valV_pos rfl]
theorem sv_seed : valV (stoKvs k x r l t s) (kS "seed") = some (.int s) := by
  unfold stoKvs
  rw [valV_neg ks16, valV_neg ks26, valV_neg ks36, valV_neg ks46, valV_neg ks56, valV_pos rfl]
theorem sp_at {x' : Int} : putK (stoKvs k x r l t s) (kS "at") (.int x') = stoKvs k x' r l t s := by
  simp [putK, stoKvs, st_ne ks12, Ne.symm (st_ne ks12), st_ne ks23, Ne.symm (st_ne ks23), st_ne ks24, Ne.symm (st_ne ks24), st_ne ks25, Ne.symm (st_ne ks25), st_ne ks26, Ne.symm (st_ne ks26)]
theorem sp_rest {x' : Int} : putK (stoKvs k x r l t s) (kS "rest") (.int x') = stoKvs k x x' l t s := by
  simp [putK, stoKvs, st_ne ks13, Ne.symm (st_ne ks13), st_ne ks23, Ne.symm (st_ne ks23), st_ne ks34, Ne.symm (st_ne ks34), st_ne ks35, Ne.symm (st_ne ks35), st_ne ks36, Ne.symm (st_ne ks36)]
theorem sp_left {x' : Int} : putK (stoKvs k x r l t s) (kS "left") (.int x') = stoKvs k x r x' t s := by
  simp [putK, stoKvs, st_ne ks14, Ne.symm (st_ne ks14), st_ne ks24, Ne.symm (st_ne ks24), st_ne ks34, Ne.symm (st_ne ks34), st_ne ks45, Ne.symm (st_ne ks45), st_ne ks46, Ne.symm (st_ne ks46)]
theorem sp_turn {x' : Int} : putK (stoKvs k x r l t s) (kS "turn") (.int x') = stoKvs k x r l x' s := by
  simp [putK, stoKvs, st_ne ks15, Ne.symm (st_ne ks15), st_ne ks25, Ne.symm (st_ne ks25), st_ne ks35, Ne.symm (st_ne ks35), st_ne ks45, Ne.symm (st_ne ks45), st_ne ks56, Ne.symm (st_ne ks56)]
end
/-- what a key of the store tells -/
def StoGet (cells : List Int) (key : Str) (P : D → Prop) : Prop :=
  ∀ (K : PySem.W.Frag) (G : Hp) (k : Addr) (x r l t s : Int), G k = some (.lst (cells.map V.int)) → 0 ≤ x → x ≤ cells.length → 0 ≤ r → r < 2 ^ 2560 → (0 < l → cells ≠ []) → ∃ v d, valV (stoKvs k x r l t s) (kS key) = some v ∧ (∀ H, Rep K G H d v) ∧ P d
theorem je_stoGet {key : Str} {j : Nat} {p2 : Pos} (h : JE S Γ o δ fun d => ∃ cells, d = .sto cells ∧ StoGet cells key P) (hs : NoSl (.Constant (.str key) j p2) := by intro _ _; rfl) : JE S Γ (.Subscript o (.Constant (.str key) j p2) pos) δ P := by
  refine ⟨fun X hX σ G H st ev Q k => ?_⟩
  refine PEw (pe_dget (unH1 hX.roomH) wE_pe pe_str hs) ?_
  refine h.run X hX σ G H st ev _ fun v G1 H1 d s1 r1 h1 => ?_
  obtain ⟨cells, rfl, g⟩ := h1
  unfold Rep at r1
  obtain ⟨p, rfl, gp, kvs, hp, sa⟩ := r1
  obtain ⟨c, x, r, l, t, s, rfl, q1, q2, q3, q4, q5, q6, q7⟩ := sa.ex
  obtain ⟨v, d, e1, e2, e3⟩ := g Γ.K G1 c x r l t s q1 q3 q4 q5 q6 q7
  refine ⟨p, v, rfl, ?_, k v G1 H1 d s1 (e2 _) e3⟩
  have := DGet.k (k := kS key) hp
  rw [e1] at this
  exact this
theorem sg_rest {cells : List Int} (h : ∀ r : Int, 0 ≤ r → r < 2 ^ 2560 → P (.int r)) : StoGet cells "rest" P := fun K G k x r l t s _ _ _ h1 h2 _ => ⟨_, .int r, sv_rest, fun _ => rep_int, h r h1 h2⟩
theorem sg_left {cells : List Int} (h : ∀ r : Int, (0 < r → cells ≠ []) → P (.int r)) : StoGet cells "left" P := fun K G k x r l t s _ _ _ _ _ h1 => ⟨_, .int l, sv_left, fun _ => rep_int, h l h1⟩
theorem sg_at {cells : List Int} (h : ∀ r : Int, 0 ≤ r → r ≤ cells.length → P (.int r)) : StoGet cells "at" P := fun K G k x r l t s _ h1 h2 _ _ _ => ⟨_, .int x, sv_at, fun _ => rep_int, h x h1 h2⟩
theorem sg_turn {cells : List Int} (h : ∀ r : Int, P (.int r)) : StoGet cells "turn" P := fun K G k x r l t s _ _ _ _ _ _ => ⟨_, .int t, sv_turn, fun _ => rep_int, h t⟩
theorem sg_seed {cells : List Int} (h : ∀ r : Int, P (.int r)) : StoGet cells "seed" P := fun K G k x r l t s _ _ _ _ _ _ => ⟨_, .int s, sv_seed, fun _ => rep_int, h s⟩
theorem sg_cells {cells : List Int} (h : P (.lst (cells.map D.int))) : StoGet cells "cells" P := fun K G k x r l t s h0 _ _ _ _ _ => ⟨_, .lst (cells.map D.int), sv_cells, fun H => by unfold Rep; exact ⟨k, _, rfl, h0, .ofInts⟩, h⟩
/-- what may be put there -/
def StoPut (cells : List Int) (key : Str) (d : D) : Prop :=
  ∃ y : Int, d = .int y ∧ ∀ (k : Addr) (x r l t s : Int), 0 ≤ x → x ≤ cells.length → 0 ≤ r → r < 2 ^ 2560 → (0 < l → cells ≠ []) →
    ∃ x' r' l' t' s', putK (stoKvs k x r l t s) (kS key) (.int y) = stoKvs k x' r' l' t' s' ∧ 0 ≤ x' ∧ x' ≤ cells.length ∧ 0 ≤ r' ∧ r' < 2 ^ 2560 ∧ (0 < l' → cells ≠ [])
theorem spp_rest {cells : List Int} {y : Int} (h1 : 0 ≤ y) (h2 : y < 2 ^ 2560) : StoPut cells "rest" (.int y) := ⟨y, rfl, fun k x r l t s a1 a2 _ _ a5 => ⟨x, y, l, t, s, sp_rest, a1, a2, h1, h2, a5⟩⟩
theorem spp_left {cells : List Int} {y : Int} (h1 : 0 < y → cells ≠ []) : StoPut cells "left" (.int y) := ⟨y, rfl, fun k x r l t s a1 a2 a3 a4 _ => ⟨x, r, y, t, s, sp_left, a1, a2, a3, a4, h1⟩⟩
theorem spp_at {cells : List Int} {y : Int} (h1 : 0 ≤ y) (h2 : y ≤ cells.length) : StoPut cells "at" (.int y) := ⟨y, rfl, fun k x r l t s _ _ a3 a4 a5 => ⟨y, r, l, t, s, sp_at, h1, h2, a3, a4, a5⟩⟩
theorem spp_turn {cells : List Int} {y : Int} : StoPut cells "turn" (.int y) := ⟨y, rfl, fun k x r l t s a1 a2 a3 a4 a5 => ⟨x, r, l, y, s, sp_turn, a1, a2, a3, a4, a5⟩⟩
theorem ints_inj : ∀ {xs ys : List Int}, xs.map V.int = ys.map V.int → xs = ys
  | [], [], _ => rfl
  | [], _ :: _, h => by simp at h
  | _ :: _, [], h => by simp at h
  | x :: xs, y :: ys, h => by
    simp only [List.map_cons, List.cons.injEq, V.int.injEq] at h
    rw [h.1, ints_inj h.2]
theorem zs_stoPut {value : Expr} {key : Str} {j : Nat} {p2 pos' : Pos} (h : JE S Γ value δ fun d => JE S Γ o δ fun d' => ∃ cells, d' = .sto cells ∧ StoPut cells key d ∧ N δ)
    (hs : ∀ env, swapsWith value (some (.Subscript o (.Constant (.str key) j p2) pos')) pos.line env = pure false := by intro _; rfl) :
    JS S Γ (.Assign [.Subscript o (.Constant (.str key) j p2) pos'] value pos) δ ⟨N, R, B, C⟩ := by
  refine ⟨fun X hX σ G H De s ev en => ?_⟩
  refine PSw (ps_dput (unH1 hX.roomH) wE_pe pe_str wE_pe (hs _)) ?_
  refine h.run X hX σ G H s ev _ fun v G1 H1 d s1 r1 h1 => ?_
  refine h1.run X hX σ G1 H1 (s.trans s1) (ev.mono s1) _ fun v2 G2 H2 d2 s2 r2 h2 => ?_
  obtain ⟨cells, rfl, ⟨y, rfl, put⟩, hn⟩ := h2
  unfold Rep at r1 r2
  subst r1
  obtain ⟨p, rfl, gp, kvs, hp, sa⟩ := r2
  obtain ⟨c, x, r, l, t, sd, rfl, q1, q2, q3, q4, q5, q6, q7⟩ := sa.ex
  obtain ⟨x', r', l', t', s', e, w1, w2, w3, w4, w5⟩ := put c x r l t sd q3 q4 q5 q6 q7
  refine ⟨p, _, rfl, DPut.k (k := kS key) hp (by show 6 < sizeLine; decide), ?_⟩
  rw [e]
  have okAt : ∀ cells', StoreOk Γ.K G2 H2 cells' p → StoreOk Γ.K G2 (upd H2 p (.dK (stoKvs c x' r' l' t' s'))) cells' p := by
    rintro cells' ⟨kv, z1, z2⟩
    rw [hp] at z1
    cases z1
    obtain ⟨c2, x2, r2, l2, t2, s2, e2, y1, y2, y3⟩ := z2.ex
    have ec : c2 = c := by
      have := congrArg (fun l => valV l (kS "cells")) e2
      simp only [sv_cells] at this
      cases this
      rfl
    subst ec
    rw [q1] at y1
    have := ints_inj (HO.lst.inj (Option.some.inj y1))
    subst this
    exact ⟨_, upd_same, ⟨c2, x', r', l', t', s', rfl, q1, q2, w1, w2, w3, w4, w5⟩⟩
  have s3 : Stp Γ.K G2 H2 G2 (upd H2 p (.dK (stoKvs c x' r' l' t' s'))) := by
    refine ⟨Same.refl _, fun b u z => ?_, fun b u z n => ⟨n, ?_⟩, fun t => TOk.upd_o hp True.intro (fun _ z => by cases z) t⟩
    · rw [upd_ne (ne_of_none z gp)]
      exact ((s.trans s1).trans s2).sub b u z
    · by_cases zb : b = p
      · subst zb
        rw [hp] at z
        cases z
        exact .inr ⟨rfl, _, upd_same, ⟨rfl, rfl⟩, okAt⟩
      · exact .inl (by rw [upd_ne zb]; exact z)
  exact en.nx σ G2 _ δ (((s.trans s1).trans s2).trans s3) ((s1.trans s2).trans s3).mo ((ev.mono s1).mono (s2.trans s3)) hn
theorem ks_new {c : Addr} {s : Int} : mergeK [] (stoKvs c 0 0 0 0 s) = stoKvs c 0 0 0 0 s := by
  have e : ∀ (kvs : List (Key × V)) (k : Key) (v : V), valV kvs k = none → putK kvs k v = kvs ++ [(k, v)] := fun kvs k v h => putK_new v h
  show putK (putK (putK (putK (putK (putK [] (kS "cells") (.ref c)) (kS "at") (.int 0)) (kS "rest") (.int 0)) (kS "left") (.int 0)) (kS "turn") (.int 0)) (kS "seed") (.int s) = _
  rw [e [] _ _ valV_nil, e _ (kS "at") _ (by rw [List.nil_append, valV_neg ks12, valV_nil])]
  rw [e _ (kS "rest") _ (by simp only [List.nil_append, List.cons_append]; rw [valV_neg ks13, valV_neg ks23, valV_nil])]
  rw [e _ (kS "left") _ (by simp only [List.nil_append, List.cons_append]; rw [valV_neg ks14, valV_neg ks24, valV_neg ks34, valV_nil])]
  rw [e _ (kS "turn") _ (by simp only [List.nil_append, List.cons_append]; rw [valV_neg ks15, valV_neg ks25, valV_neg ks35, valV_neg ks45, valV_nil])]
  rw [e _ (kS "seed") _ (by simp only [List.nil_append, List.cons_append]; rw [valV_neg ks16, valV_neg ks26, valV_neg ks36, valV_neg ks46, valV_neg ks56, valV_nil])]
  rfl
/-- {'cells': .., 'at': 0, 'rest': 0, 'left': 0, 'turn': 0, 'seed': ..} -/
theorem je_stoNew {v1 v6 : Expr} {j1 j2 j3 j4 j5 j6 i2 i3 i4 i5 : Nat} {p1 p2 p3 p4 p5 p6 q2 q3 q4 q5 : Pos}
    (h : JE S Γ v1 δ fun d1 => ∃ cells : List Int, d1 = .lst (cells.map D.int) ∧ cells.length ≤ 63 ∧ JE S Γ v6 δ fun d6 => ∃ s : Int, d6 = .int s ∧ P (.sto cells)) :
    JE S Γ (.Dict [some (.Constant (.str "cells") j1 p1), some (.Constant (.str "at") j2 p2), some (.Constant (.str "rest") j3 p3), some (.Constant (.str "left") j4 p4), some (.Constant (.str "turn") j5 p5), some (.Constant (.str "seed") j6 p6)]
      [v1, .Constant (.int 0) i2 q2, .Constant (.int 0) i3 q3, .Constant (.int 0) i4 q4, .Constant (.int 0) i5 q5, v6] pos) δ P := by
  refine ⟨fun X hX σ G H st ev Q k => ?_⟩
  refine PEw (pe_disp (pps_cons pe_str wE_pe (pps_cons pe_str pe_int (pps_cons pe_str pe_int (pps_cons pe_str pe_int (pps_cons pe_str pe_int (pps_cons pe_str wE_pe pps_nil)))))) rfl rfl (by intro z; cases z) (by show 6 ≤ 15; decide)) ?_
  intro p hp
  have s0 : Stp Γ.K G H G (upd H p (.dK [])) := .newM st.sub hp
  have gp := st.sub.free hp
  refine h.run X hX σ G _ (st.trans s0) (ev.mono s0) _ fun u1 G1 H1 d1 s1 r1 h1 => ?_
  obtain ⟨cells, rfl, hl, h1⟩ := h1
  have o1 := s1.own p _ upd_same gp
  have hp1 : H1 p = some (.dK []) := o1.2.elim id fun z => by cases z.1
  refine h1.run X hX σ G1 H1 ((st.trans s0).trans s1) ((ev.mono s0).mono s1) _ fun u6 G2 H2 d6 s2 r6 h2 => ?_
  obtain ⟨s, rfl, h2⟩ := h2
  have o2 := s2.own p _ hp1 o1.1
  have hp2 : H2 p = some (.dK []) := o2.2.elim id fun z => by cases z.1
  have r1' := r1.mono s2
  unfold Rep at r1' r6
  obtain ⟨c, vs, rfl, hc, rl⟩ := r1'
  have := rl.ints
  subst this
  subst r6
  refine ⟨hp2, stoKvs c 0 0 0 0 s, rfl, by show 6 ≤ 15; decide, ?_⟩
  rw [ks_new]
  have s3 : Stp Γ.K G H G2 (upd H2 p (.dK (stoKvs c 0 0 0 0 s))) := ((s0.trans s1).trans s2).write (o := .dK []) o2.1 hp
  refine k _ G2 _ (.sto cells) s3 ?_ h2
  unfold Rep
  exact ⟨p, rfl, o2.1, _, upd_same, ⟨c, 0, 0, 0, 0, s, rfl, hc, hl, by decide, by omega, by decide, pos2560, fun z => absurd z (by decide)⟩⟩

/-! ### the script -/
theorem cd_lenScr {ns : List Int} (h : P (.int ns.length)) : CallD S Γ (.builtin "len") [.scr ns] P := by
  refine ⟨fun X hX vs G H st r Q k => ?_⟩
  obtain ⟨v, rfl, r1⟩ := repL1 r
  unfold Rep at r1
  obtain ⟨p, rfl, h1⟩ := r1
  refine CallRw call_len_seq ⟨p, ns.map V.int, rfl, .inl (by rw [hX.K]; exact Same.seq st.sub h1), ?_⟩
  rw [List.length_map]
  exact k _ G H _ (.refl st.sub) rep_int h
theorem cf_listScr {ns : List Int} (h : PL (ns.map D.int)) : CallF S Γ (.type "list") [.scr ns] PL := by
  refine ⟨fun X hX vs G H st r Q k => ?_⟩
  obtain ⟨v, rfl, r1⟩ := repL1 r
  unfold Rep at r1
  obtain ⟨p, rfl, h1⟩ := r1
  refine CallRw call_list_of ⟨p, ns.map V.int, rfl, .inl (by rw [hX.K]; exact Same.seq st.sub h1), fun l hl => ?_⟩
  have s2 : Stp Γ.K G H G (upd H l (.lst (ns.map V.int))) := .newM st.sub hl
  exact k l _ G _ _ s2 hl (st.sub.free hl) upd_same .ofInts h
end
end Z
set_option Elab.async false
set_option linter.all false
set_option maxRecDepth 100000
set_option maxHeartbeats 4000000
/-! Z6: built-ins by name; sizes; loops in the walk's form. -/
namespace Z
open PySem L2
variable [tabsI : TabsT]
structure Blt (U : Env1) (bs : List Str) : Prop where
  h : ∀ x, HasG bs x → U.mg x = none
section
variable {S : Scp} {Γ : Cg} {δ : List Sl} {P : D → Prop} {PB : Bool → Prop} {PL : List D → Prop} {N B C : List Sl → Prop} {R : D → Prop} {a b c e o : Expr} {es rest : List Expr} {pos p : Pos} {st : Stmt} {sts : List Stmt}
theorem cb_len : bootBuiltins "len" = some (.builtin "len") := by decide +kernel
theorem cb_isinstance : bootBuiltins "isinstance" = some (.builtin "isinstance") := by decide +kernel
theorem cb_max : bootBuiltins "max" = some (.builtin "max") := by decide +kernel
theorem cb_min : bootBuiltins "min" = some (.builtin "min") := by decide +kernel
theorem cb_sum : bootBuiltins "sum" = some (.builtin "sum") := by decide +kernel
theorem cb_sorted : bootBuiltins "sorted" = some (.builtin "sorted") := by decide +kernel
theorem cb_int : bootBuiltins "int" = some (.type "int") := by decide +kernel
theorem cb_bool : bootBuiltins "bool" = some (.type "bool") := by decide +kernel
theorem cb_str : bootBuiltins "str" = some (.type "str") := by decide +kernel
theorem cb_tuple : bootBuiltins "tuple" = some (.type "tuple") := by decide +kernel
theorem cb_list : bootBuiltins "list" = some (.type "list") := by decide +kernel
theorem cb_dict : bootBuiltins "dict" = some (.type "dict") := by decide +kernel
theorem zb_len (hg : HasG S.gl "len") (hm : Γ.mg "len" = none) (h : JA S Γ (e :: es) δ fun ds => CallD S Γ (.builtin "len") ds P) (he : ∀ env, starEach (e :: es) env = (false, eval e env) :: starEach es env := by intro _; rfl) (hpl : ∀ env, (backTo pos (starEach es env)).any (·.1) = false := by intro _; rfl) :
    JE S Γ (.Call (.Name "len" p) (e :: es) [] pos) δ P := je_callB hg.mem hm cb_len h (by decide) (by decide) he hpl
theorem zb_max (hg : HasG S.gl "max") (hm : Γ.mg "max" = none) (h : JA S Γ (e :: es) δ fun ds => CallD S Γ (.builtin "max") ds P) (he : ∀ env, starEach (e :: es) env = (false, eval e env) :: starEach es env := by intro _; rfl) (hpl : ∀ env, (backTo pos (starEach es env)).any (·.1) = false := by intro _; rfl) :
    JE S Γ (.Call (.Name "max" p) (e :: es) [] pos) δ P := je_callB hg.mem hm cb_max h (by decide) (by decide) he hpl
theorem zb_min (hg : HasG S.gl "min") (hm : Γ.mg "min" = none) (h : JA S Γ (e :: es) δ fun ds => CallD S Γ (.builtin "min") ds P) (he : ∀ env, starEach (e :: es) env = (false, eval e env) :: starEach es env := by intro _; rfl) (hpl : ∀ env, (backTo pos (starEach es env)).any (·.1) = false := by intro _; rfl) :
    JE S Γ (.Call (.Name "min" p) (e :: es) [] pos) δ P := je_callB hg.mem hm cb_min h (by decide) (by decide) he hpl
theorem zb_isi (hg : HasG S.gl "isinstance") (hm : Γ.mg "isinstance" = none) (h : JA S Γ (e :: es) δ fun ds => CallD S Γ (.builtin "isinstance") ds P) (he : ∀ env, starEach (e :: es) env = (false, eval e env) :: starEach es env := by intro _; rfl) (hpl : ∀ env, (backTo pos (starEach es env)).any (·.1) = false := by intro _; rfl) :
    JE S Γ (.Call (.Name "isinstance" p) (e :: es) [] pos) δ P := je_callB hg.mem hm cb_isinstance h (by decide) (by decide) he hpl
theorem zb_int (hg : HasG S.gl "int") (hm : Γ.mg "int" = none) (h : JA S Γ (e :: es) δ fun ds => CallD S Γ (.type "int") ds P) (he : ∀ env, starEach (e :: es) env = (false, eval e env) :: starEach es env := by intro _; rfl) (hpl : ∀ env, (backTo pos (starEach es env)).any (·.1) = false := by intro _; rfl) :
    JE S Γ (.Call (.Name "int" p) (e :: es) [] pos) δ P := je_callTy hg.mem hm cb_int h (by decide) (by decide) he hpl
theorem zf_list (hg : HasG S.gl "list") (hm : Γ.mg "list" = none) (h : JA S Γ (e :: es) δ fun ds => CallF S Γ (.type "list") ds PL) (he : ∀ env, starEach (e :: es) env = (false, eval e env) :: starEach es env := by intro _; rfl) (hpl : ∀ env, (backTo pos (starEach es env)).any (·.1) = false := by intro _; rfl) :
    JF S Γ (.Call (.Name "list" p) (e :: es) [] pos) δ PL := jf_callTy hg.mem hm cb_list h (by decide) (by decide) he hpl
theorem zb_list (hg : HasG S.gl "list") (hm : Γ.mg "list" = none) (h : JA S Γ (e :: es) δ fun ds => CallF S Γ (.type "list") ds fun ds => P (.lst ds)) (he : ∀ env, starEach (e :: es) env = (false, eval e env) :: starEach es env := by intro _; rfl) (hpl : ∀ env, (backTo pos (starEach es env)).any (·.1) = false := by intro _; rfl) :
    JE S Γ (.Call (.Name "list" p) (e :: es) [] pos) δ P := jf_je (zf_list hg hm h he hpl)
theorem zt_int (hg : HasG S.gl "int") (hm : Γ.mg "int" = none) (h : P (.ty "int")) : JE S Γ (.Name "int" pos) δ P := je_globT hg.mem hm cb_int h (by decide) (by decide)
theorem zt_bool (hg : HasG S.gl "bool") (hm : Γ.mg "bool" = none) (h : P (.ty "bool")) : JE S Γ (.Name "bool" pos) δ P := je_globT hg.mem hm cb_bool h (by decide) (by decide)
theorem zt_str (hg : HasG S.gl "str") (hm : Γ.mg "str" = none) (h : P (.ty "str")) : JE S Γ (.Name "str" pos) δ P := je_globT hg.mem hm cb_str h (by decide) (by decide)
theorem zt_tuple (hg : HasG S.gl "tuple") (hm : Γ.mg "tuple" = none) (h : P (.ty "tuple")) : JE S Γ (.Name "tuple" pos) δ P := je_globT hg.mem hm cb_tuple h (by decide) (by decide)
theorem zt_list (hg : HasG S.gl "list") (hm : Γ.mg "list" = none) (h : P (.ty "list")) : JE S Γ (.Name "list" pos) δ P := je_globT hg.mem hm cb_list h (by decide) (by decide)
theorem zt_dict (hg : HasG S.gl "dict") (hm : Γ.mg "dict" = none) (h : P (.ty "dict")) : JE S Γ (.Name "dict" pos) δ P := je_globT hg.mem hm cb_dict h (by decide) (by decide)
def isBool : D → Bool | .bl _ => true | _ => false
def isInt : D → Bool | .bl _ => true | .int _ => true | _ => false
def isStr : D → Bool | .str _ => true | _ => false
def isTup : D → Bool | .tup _ => true | _ => false
def isLst : D → Bool | .lst _ => true | _ => false
def isDict : D → Bool | .sto _ => true | _ => false
theorem ci_bool {d : D} (hp : plainD d = true) (h : P (.bl (isBool d))) : CallD S Γ (.builtin "isinstance") [d, .ty "bool"] P := by
  refine cd_isi hp (by simp) ?_
  have e : isTy d "bool" = isBool d := by cases d <;> first | rfl | cases hp | decide +kernel
  rw [e]; exact h
theorem ci_int {d : D} (hp : plainD d = true) (h : P (.bl (isInt d))) : CallD S Γ (.builtin "isinstance") [d, .ty "int"] P := by
  refine cd_isi hp (by simp) ?_
  have e : isTy d "int" = isInt d := by cases d <;> first | rfl | cases hp | decide +kernel
  rw [e]; exact h
theorem ci_str {d : D} (hp : plainD d = true) (h : P (.bl (isStr d))) : CallD S Γ (.builtin "isinstance") [d, .ty "str"] P := by
  refine cd_isi hp (by simp) ?_
  have e : isTy d "str" = isStr d := by cases d <;> first | rfl | cases hp | decide +kernel
  rw [e]; exact h
theorem ci_tup {d : D} (hp : plainD d = true) (h : P (.bl (isTup d))) : CallD S Γ (.builtin "isinstance") [d, .ty "tuple"] P := by
  refine cd_isi hp (by simp) ?_
  have e : isTy d "tuple" = isTup d := by cases d <;> first | rfl | cases hp | decide +kernel
  rw [e]; exact h
theorem ci_lst {d : D} (hp : plainD d = true) (h : P (.bl (isLst d))) : CallD S Γ (.builtin "isinstance") [d, .ty "list"] P := by
  refine cd_isi hp (by simp) ?_
  have e : isTy d "list" = isLst d := by cases d <;> first | rfl | cases hp | decide +kernel
  rw [e]; exact h
theorem ci_dict {d : D} (hp : plainD d = true) (h : P (.bl (isDict d))) : CallD S Γ (.builtin "isinstance") [d, .ty "dict"] P := by
  refine cd_isi hp (by simp) ?_
  have e : isTy d "dict" = isDict d := by cases d <;> first | rfl | cases hp | decide +kernel
  rw [e]; exact h

/-! ### loops in the walk's form -/
theorem zs_for [Calm Γ] {tg : Expr} {body : List Stmt} (hb : Γ.blk = false) (h : JI S Γ tg e δ fun n f => ∃ I : Nat → List Sl → Prop, I 0 δ ∧ (∀ i, i < n → Turns S Γ tg body ⟨N, R, B, C⟩ I i (f i)) ∧ ∀ δ', I n δ' → N δ')
    (hs : ∀ env x, foldedSetIterable e env x = pure x := by intros; rfl) : JS S Γ (.For tg e body [] pos) δ ⟨N, R, B, C⟩ := js_for hb h hs
/-- one turn -/
theorem turns_of {tg : Expr} {body : List Stmt} {I : Nat → List Sl → Prop} {i : Nat} {x : D} (h : ∀ δ', I i δ' → JG S Γ tg x δ' fun δ2 => JSs S Γ body δ2 ⟨I (i + 1), R, N, I (i + 1)⟩) : Turns S Γ tg body ⟨N, R, B, C⟩ I i x := h
theorem zi_rng1 {tg : Expr} {PI' : Nat → (Nat → D) → Prop} {p1 p2 : Pos} (hg : HasG S.gl "range") (hm : Γ.mg "range" = none) (hs : ∀ env, starEach [a] env = [(false, eval a env)])
    (h : JE S Γ a δ fun d => ∃ n, d = .int n ∧ -(2 ^ 62) ≤ n ∧ n < 2 ^ 62 ∧ PI' n.toNat (fun i => .int (0 + i))) : JI S Γ tg (.Call (.Name "range" p1) [a] [] p2) δ PI' := ji_rng1 hg.mem hm hs h
theorem zi_rng2 [Calm Γ] {tg : Expr} {PI' : Nat → (Nat → D) → Prop} {p1 p2 : Pos} (hg : HasG S.gl "range") (hm : Γ.mg "range" = none) (hs : ∀ env, starEach [a, b] env = [(false, eval a env), (false, eval b env)]) (hs2 : ∀ env, starEach [b] env = [(false, eval b env)])
    (h : JE S Γ a δ fun d => JE S Γ b δ fun d' => ∃ m n, d = .int m ∧ d' = .int n ∧ (-(2 ^ 62) ≤ m ∧ m < 2 ^ 62 ∧ -(2 ^ 62) ≤ n ∧ n < 2 ^ 62) ∧ PI' (n - m).toNat (fun i => .int (m + i))) : JI S Γ tg (.Call (.Name "range" p1) [a, b] [] p2) δ PI' := ji_rng2 hg.mem hm hs hs2 h
/-- a list that is read while it is one's own: the value of e has no list in it -/
def noL : D → Bool
  | .lst _ => false | .obj _ _ _ => false | .tup _ => false | .scr _ => true | _ => true
/-! ### sizes of ints -/
def Bd (n : Nat) (i : Int) : Prop := i.natAbs < 2 ^ n
theorem Bd.mono {n m : Nat} {i : Int} (h : Bd n i) (e : n ≤ m) : Bd m i := Nat.lt_of_lt_of_le h (Nat.pow_le_pow_right (by decide) e)
theorem Bd.ok {n m : Nat} {i j : Int} (h : Bd n i) (h' : Bd m j) (e : n + m ≤ 1000000) : IntMulOk i j := by
  have h1 := h.mono (Nat.le_succ n)
  have h2 := h'.mono (Nat.le_succ m)
  by_cases z : n + 1 + (m + 1) ≤ 1000000
  · exact (wide_mul h1 h2 (by omega) (by omega) z).ok
  · have x : ∀ {k : Nat} {i : Int}, Bd k i → 0 < k → i.natAbs.log2 < k := fun hh h0 => PySem.Flt.log2_lt_of h0 hh
    by_cases n0 : n = 0
    · subst n0
      have : i = 0 := by unfold Bd at h; simp at h; exact h
      subst this
      exact CMul.ok (.inl (by decide))
    · by_cases m0 : m = 0
      · subst m0
        have : j = 0 := by unfold Bd at h'; simp at h'; exact h'
        subst this
        exact CMul.ok (.inr (by decide))
      · exact (wide_mul h h' (by omega) (by omega) e).ok
theorem mulok_r {i j : Int} (h : -(2 ^ 64) < j ∧ j < 2 ^ 64) : IntMulOk i j := CMul.ok (.inr h)
/-- no division by Python's own slow road -/
theorem nopy_i {i j : Int} {n : Nat} (h : Bd n i) (e : n ≤ 13500) : Builtin.divisionGoesByPylong i j = false := by
  have h1 : i.natAbs.log2 < 13500 := PySem.Flt.log2_lt_of (by decide) (h.mono e)
  by_cases hj : (if j == 0 then 0 else j.natAbs.log2 / 30 + 1) ≤ 300
  · show (decide ((if j == 0 then 0 else j.natAbs.log2 / 30 + 1) > 300) && _) = false
    rw [decide_eq_false (Nat.not_lt.mpr hj)]
    rfl
  · show (decide ((if j == 0 then 0 else j.natAbs.log2 / 30 + 1) > 300) && decide ((if i == 0 then 0 else i.natAbs.log2 / 30 + 1) > (if j == 0 then 0 else j.natAbs.log2 / 30 + 1) + 150)) = false
    rw [Bool.and_eq_false_iff]
    right
    apply decide_eq_false
    have : (if i == 0 then 0 else i.natAbs.log2 / 30 + 1) ≤ 450 := by
      split <;> omega
    omega
theorem od_p10_18 (h : P (.int 1000000000000000000)) : OpD S Γ (binaryOp .Pow) (.int 10) (.int 18) P := od_pow (by unfold CPow; decide) (by rw [show ((10 : Int) ^ (18 : Int).toNat) = 1000000000000000000 by decide +kernel]; exact h)
theorem od_p10_40 (h : P (.int 10000000000000000000000000000000000000000)) : OpD S Γ (binaryOp .Pow) (.int 10) (.int 40) P := od_pow (by unfold CPow; decide) (by rw [show ((10 : Int) ^ (40 : Int).toNat) = 10000000000000000000000000000000000000000 by decide +kernel]; exact h)
theorem od_p10_64 (h : P (.int 10000000000000000000000000000000000000000000000000000000000000000)) : OpD S Γ (binaryOp .Pow) (.int 10) (.int 64) P := od_pow (by unfold CPow; decide) (by rw [show ((10 : Int) ^ (64 : Int).toNat) = 10000000000000000000000000000000000000000000000000000000000000000 by decide +kernel]; exact h)
end
theorem bd_lt {n : Nat} {i : Int} (h0 : 0 ≤ i) (h : i < 2 ^ n) : Bd n i := by
  unfold Bd
  have e : ((i.natAbs : Nat) : Int) < ((2 ^ n : Nat) : Int) := by
    rw [Int.natAbs_of_nonneg h0, Int.natCast_pow]
    exact h
  exact Int.ofNat_lt.mp e
theorem lt_bd {n : Nat} {i : Int} (h : Bd n i) : i < 2 ^ n := by
  unfold Bd at h
  have e : ((i.natAbs : Nat) : Int) < ((2 ^ n : Nat) : Int) := Int.ofNat_lt.mpr h
  rw [Int.natCast_pow] at e
  exact Int.lt_of_le_of_lt Int.le_natAbs e
theorem sg_restB {cells : List Int} {P : D → Prop} (h : ∀ r : Int, 0 ≤ r → Bd 2560 r → P (.int r)) : StoGet cells "rest" P := sg_rest fun r h1 h2 => h r h1 (bd_lt h1 h2)
theorem spp_restB {cells : List Int} {y : Int} (h1 : 0 ≤ y) (h2 : Bd 2560 y) : StoPut cells "rest" (.int y) := spp_rest h1 (lt_bd h2)
theorem Bd.le {n : Nat} {i j : Int} (h : Bd n j) (e : i.natAbs ≤ j.natAbs) : Bd n i := Nat.lt_of_le_of_lt e h
theorem zs_cut {S : Scp} {Γ : Cg} {st st2 : Stmt} {sts : List Stmt} {δ : List Sl} {N : List Sl → Prop} {R : D → Prop} {B C : List Sl → Prop} (h : ∀ Q : List Sl → Prop, (∀ δ', JSs S Γ (st2 :: sts) δ' ⟨N, R, B, C⟩ → Q δ') → JS S Γ st δ ⟨Q, R, B, C⟩) : JSs S Γ (st :: st2 :: sts) δ ⟨N, R, B, C⟩ := jss_cons (h _ fun _ h => h)
end Z
set_option Elab.async false
set_option linter.all false
set_option maxRecDepth 100000
set_option maxHeartbeats 4000000
/-! Z7: a list of one's own passed for a while (je_own). -/
namespace Z
open PySem L2
variable [tabsI : TabsT]
def ers (G : Hp) (p : Addr) : Hp := fun b => if b = p then none else G b
theorem ers_ne {G : Hp} {p b : Addr} (h : b ≠ p) : ers G p b = G b := if_neg h
theorem ers_same {G : Hp} {p : Addr} : ers G p p = none := if_pos rfl
section
variable {K : PySem.W.Frag} {G H G' H' : Hp} {p : Addr} {vs : List V}
theorem Stp.thaw (h : H p = some (.lst vs)) (g : G p = none) (s : Stp K (upd G p (.lst vs)) H G' H') : Stp K G H (ers G' p) H' := by
  have hp' : G' p = some (.lst vs) := s.exG _ _ upd_same
  have tk : TOk G H → TOk (ers G' p) H' := fun t => by
    have t1 : TOk (upd G p (.lst vs)) H := ⟨t.tb, fun x hx => by rw [upd_ne (t.ne hx fun ps w => by rw [h] at w; cases w)]; exact t.gn x hx⟩
    refine ⟨(s.tab t1).tb, fun x hx => ?_⟩
    unfold ers
    split
    · rfl
    · exact (s.tab t1).gn x hx
  refine ⟨fun b u q => ?_, fun b u q => ?_, fun a o hH gG => ?_, tk⟩
  · have z : b ≠ p := ne_of_none q g
    rw [ers_ne z]
    exact s.exG _ _ (by rw [upd_ne z]; exact q)
  · by_cases z : b = p
    · subst z; rw [ers_same] at q; cases q
    · rw [ers_ne z] at q; exact s.sub _ _ q
  · by_cases z : a = p
    · subst z
      rw [h] at hH
      cases hH
      exact ⟨ers_same, .inl (s.sub _ _ hp')⟩
    · obtain ⟨n', q⟩ := s.own a o hH (by rw [upd_ne z]; exact gG)
      refine ⟨by rw [ers_ne z]; exact n', ?_⟩
      rcases q with q | ⟨q1, o', q2, q3, q4⟩
      · exact .inl q
      · refine .inr ⟨q1, o', q2, q3, fun cells w => ?_⟩
        have e1 : Same G (upd G p (.lst vs)) := fun b u q => by rw [upd_ne (ne_of_none q g)]; exact q
        obtain ⟨kvs', w1, w2⟩ := q4 cells (w.at_ e1 hH hH)
        obtain ⟨kvs, v1, v2⟩ := w
        rw [hH] at v1
        cases v1
        rw [q2] at w1
        cases w1
        obtain ⟨c, a1, r1, l1, t1, s1, e, u1, u2⟩ := v2.ex
        obtain ⟨c', a2, r2, l2, t2, s2, e', u1', u2'⟩ := w2.ex
        have ec : c' = c := by
          have := q3.2
          rw [e, e'] at this
          simp [stoC, stoKvs] at this
          exact this
        subst ec
        refine ⟨_, q2, ⟨c', a2, r2, l2, t2, s2, e', ?_, u2'⟩⟩
        rw [ers_ne (ne_of_none u1 g)]
        exact u1'
end
mutual
def flatD : D → Prop
  | .tup ds => flatL ds
  | .obj _ _ ds => flatL ds
  | .lst _ => False
  | .sto _ => False
  | .scr _ => False
  | .exc _ _ _ _ => False
  | _ => True
def flatL : List D → Prop
  | [] => True
  | d :: ds => flatD d ∧ flatL ds
end
section
variable {K : PySem.W.Frag} {G H : Hp} {p : Addr} {vs : List V}
theorem SqT.ers {a : Addr} {xs : List V} (h : SqT K G a xs) (g : G p = some (.lst vs)) : SqT K (ers G p) a xs := by
  have key : ∀ o, G a = some o → (∀ ys, o ≠ .lst ys) → Z.ers G p a = some o := fun o h n => by
    rw [ers_ne (fun z => by subst z; rw [g] at h; cases h; exact n _ rfl)]
    exact h
  rcases h with (h | ⟨o, h⟩) | h
  · exact .inl (.inl (key _ h (fun _ z => by cases z)))
  · exact .inl (.inr ⟨o, key _ h (fun _ z => by cases z)⟩)
  · exact .inr h
mutual
theorem Rep.ers (g : G p = some (.lst vs)) : ∀ {d : D} {v : V}, flatD d → Rep K G H d v → Rep K (ers G p) H d v
  | .non, v, _, h => by unfold Rep at h ⊢; exact h
  | .bl b, v, _, h => by unfold Rep at h ⊢; exact h
  | .int i, v, _, h => by unfold Rep at h ⊢; exact h
  | .str x, v, _, h => by unfold Rep at h ⊢; exact h
  | .tup ds, v, f, h => by
    unfold Rep at h ⊢
    unfold flatD at f
    obtain ⟨a, vs, e, h1, h2⟩ := h
    exact ⟨a, vs, e, SqT.ers h1 g, RepL.ers g f h2⟩
  | .lst ds, v, f, h => by unfold flatD at f; exact f.elim
  | .obj C ns ds, v, f, h => by
    unfold Rep at h ⊢
    unfold flatD at f
    obtain ⟨a, dx, fs, e, h1, h2, h3⟩ := h
    refine ⟨a, dx, fs, e, ?_, h2, RepL.ers g f h3⟩
    rw [ers_ne (fun z => by subst z; rw [g] at h1; cases h1)]
    exact h1
  | .cls a, v, _, h => by unfold Rep at h ⊢; exact h
  | .ty n, v, _, h => by unfold Rep at h ⊢; exact h
  | .sto cells, v, f, h => by unfold flatD at f; exact f.elim
  | .scr ns, v, f, h => by unfold flatD at f; exact f.elim
  | .exc a d ns ds, v, f, h => by unfold flatD at f; exact f.elim
theorem RepL.ers (g : G p = some (.lst vs)) : ∀ {ds : List D} {vs : List V}, flatL ds → RepL K G H ds vs → RepL K (ers G p) H ds vs
  | [], vs, _, h => by unfold RepL at h ⊢; exact h
  | d :: ds, vs, f, h => by
    unfold RepL at h ⊢
    unfold flatL at f
    obtain ⟨v, r, e, h1, h2⟩ := h
    exact ⟨v, r, e, Rep.ers g f.1 h1, RepL.ers g f.2 h2⟩
end
end
theorem je_own {S : Scp} {Γ : Cg} {δ : List Sl} {P : D → Prop} {e : Expr} (i : Nat) {ds : List D} (hδ : δ[i]? = some (.ow ds)) (h : JE S Γ e (δ.set i (.fz (.lst ds))) fun d => flatD d ∧ P d) : JE S Γ e δ P := by
  refine ⟨fun X hX σ G H st ev Q k => ?_⟩
  obtain ⟨p, vs, h1, g, h0, ev'⟩ := ev.freeze hδ
  exact h.run X hX σ _ H (st.freeze h0 h1 g) ev' Q fun v G' H' d s r q => k v (ers G' p) H' d (Stp.thaw h1 g s) (Rep.ers (s.exG _ _ upd_same) q.1 r) q.2
instance {sc : Scope} {x : Str} : Decidable (Vis sc x) := inferInstanceAs (Decidable (_ ∨ _ ∨ _))
instance {sc : Scope} {x : Str} : Decidable (Loc sc x) := inferInstanceAs (Decidable (_ ∨ _))
def okS (S : Scp) : Bool := decide S.N.Nodup && decide (∀ p ∈ S.vs, S.N[p.2]? = some p.1 ∧ Vis S.sc p.1) && decide (∀ p ∈ S.ss, S.N[p.2]? = some p.1 ∧ Loc S.sc p.1) && decide (∀ x ∈ S.gl, S.sc.names.lookup x = some .globalImplicit)
theorem ok_S {S : Scp} (h : okS S = true) : S.Ok := by
  unfold okS at h
  simp only [Bool.and_eq_true, decide_eq_true_eq] at h
  exact ⟨h.1.1.1, h.1.1.2, h.1.2, h.2⟩
def okF (N P : List Str) (sc : Scope) : Bool := sc.kind == .function && sc.isCoroutine == false && sc.isGenerator == false && decide N.Nodup && decide (N.take P.length = P) && decide (∀ x ∈ P, sc.names.lookup x = some .local ∨ sc.names.lookup x = some .cell) && decide (∀ y ∈ sc.names, y.2 ≠ .free)
theorem ok_F {N P : List Str} {sc : Scope} (h : okF N P sc = true) : FnScope N P sc := by
  unfold okF at h
  simp only [Bool.and_eq_true, decide_eq_true_eq, beq_iff_eq] at h
  obtain ⟨⟨⟨⟨⟨⟨a, b⟩, c⟩, d⟩, e⟩, f⟩, g⟩ := h
  exact ⟨a, b, c, d, e, f, g⟩
def okB (N : List Str) (sc scope : Scope) (own : List (Str × Nat)) : Bool := scope.kind == .function && decide (∀ y ∈ scope.names, scope.names.lookup y.1 = some y.2) && decide (∀ p ∈ own, N[p.2]? = some p.1) && decide (∀ y ∈ scope.names, y.2 = .free → sc.names.lookup y.1 = some .cell ∨ sc.names.lookup y.1 = some .free) && decide (∀ y ∈ scope.names, y.2 = .local ∨ y.2 = .cell → y.1 ∈ own.map (·.1) ∨ y.1 ∉ N)
theorem ok_B {S S' : Scp} {scope : Scope} {own : List (Str × Nat)} (h : okB S.N S.sc scope own = true) (h1 : okS S' = true) (N : S'.N = S.N) (sc : S'.sc = relS scope S.sc) (lv : S'.lv = S.lv) (st : decide (∀ x ∈ S'.ss, S'.sc.names.lookup x.1 = some .local ∨ scope.names.lookup x.1 = some .cell) = true) : BlkS S S' scope own := by
  unfold okB at h
  simp only [Bool.and_eq_true, decide_eq_true_eq, beq_iff_eq] at h st
  obtain ⟨⟨⟨⟨a, b⟩, c⟩, d⟩, e⟩ := h
  exact ⟨⟨a, b, c, d, e⟩, ok_S h1, N, sc, lv, st⟩
theorem zs_setLc {S S' : Scp} {Γ : Cg} [Calm Γ] {δ : List Sl} {N B C : List Sl → Prop} {R : D → Prop} {elt tg iter : Expr} {ifs : List Expr} {scope : Scope} {own : List (Str × Nat)} {x : Str} {i : Nat} {py sp pos : Pos} (hv : Has S.ss x i) (hB : BlkS S S' scope own) (hx : (S.sc.names.lookup x == some .local && S.sc.kind == .function && py.line == pos.line && !(scope.names.any fun (n, k) => n == x && (k == .local || k == .cell))) = true)
    (h : JI S Γ tg iter δ fun n f => ∃ A : Nat → List D → Prop, A 0 [] ∧ (∀ i acc, i < n → A i acc → JGW S' Γ.inBlk (own.map (·.2)) tg (f i) (wipeD δ (own.map (·.2))) fun δ2 => JTs S' Γ.inBlk ifs δ2 fun t => if t = true then JE S' Γ.inBlk elt δ2 fun d => acc.length < sizeLine ∧ A (i + 1) (acc ++ [d]) else A (i + 1) acc) ∧ ∀ acc, A n acc → N (δ.set i (.fz (.lst acc))))
    (hs : ∀ env x, foldedSetIterable iter env x = pure x := by intros; rfl) : JS S Γ (.Assign [.Name x py] (.ListComp elt [⟨tg, iter, ifs, 0⟩] scope pos) sp) δ ⟨N, R, B, C⟩ := by
  simp only [Bool.and_eq_true, beq_iff_eq, Bool.not_eq_true'] at hx
  exact js_setLcZ hB hv.mem hx.1.1.1 hx.1.1.2 (by simpa using hx.1.2) hx.2 h hs
theorem ze_own {S : Scp} {Γ : Cg} {δ : List Sl} {P : D → Prop} {f : Expr} {x : Str} {p q : Pos} {as : List Expr} {ks : List Keyword} {i : Nat} {ds : List D} (hv : Has S.vs x i) (hδ : δ[i]? = some (.ow ds)) (h : JE S Γ (.Call f (.Name x p :: as) ks q) (δ.set i (.fz (.lst ds))) fun d => flatD d ∧ P d) : JE S Γ (.Call f (.Name x p :: as) ks q) δ P := je_own i hδ h
theorem zs_setFL {S : Scp} {Γ : Cg} {δ : List Sl} {N B C : List Sl → Prop} {R : D → Prop} {x : Str} {i : Nat} {p : Pos} {e : Expr} {pos : Pos} (hv : Has S.ss x i) (h : JF S Γ e δ fun ds => N (δ.set i (.ow ds))) (hs : ∀ env, swapsWith e (some (.Name x p)) pos.line env = pure false := by intro _; rfl) : JS S Γ (.Assign [.Name x p] e pos) δ ⟨N, R, B, C⟩ := zs_setF hv h hs
end Z
set_option Elab.async false
set_option linter.all false
set_option maxRecDepth 100000
set_option maxHeartbeats 4000000
/-! Z8: the ends: what the top's facts give, the law's own call. -/
namespace Z
open PySem L2
variable [tabsI : TabsT]
theorem funAt {U : Env1} {h : Heap} {x : Str} {st : Stmt} {f : Addr} {oc kV dc pm cd ct : Value} {od an : Option Addr} {sl : Array (Option Value)} (X : U.K.In h) (G : h.Ns mainGlobals U.mg) (a : PySem.W.nsIn U.K mainGlobals x = some (some (.ref f)))
    (l : U.K.lookup f = some ⟨oc, od, .func (PySem.W.fnOf x x (defArgs st) (defBody st) (defScope st) .none kV dc pm an cd ct), sl⟩) (c : PySem.W.codeIn U.K cd x = true) (k : PySem.W.keepIn U.K (.ref f) = true) : FunAt U x st [] :=
  ⟨f, _, ⟨⟨oc, od, .none, kV, dc, pm, an, cd, ct, sl, rfl, l, c, .inl ⟨rfl, rfl⟩, .inl rfl⟩, k⟩, PySem.W.mg_of X G a⟩
theorem blt_nil {U : Env1} : Blt U [] := ⟨fun x h => by cases h⟩
theorem blt_cons {U : Env1} {x : Str} {bs : List Str} (h : U.mg x = none) (t : Blt U bs) : Blt U (x :: bs) := ⟨fun y hy => by
  cases hy with
  | head => exact h
  | tail q => exact t.h y q⟩
theorem fn_okC {U : Env1} {x : Str} {st : Stmt} {S : Scp} {ps : List Str} {c : Ct} {n : Nat} {dvs : List V} {f : Addr} {fd : FuncData} (Fu : FunD U.K x x (defArgs st) (defBody st) (defScope st) dvs [] f fd) (so : S.Ok) (sc : S.sc = defScope st) (fs : FnScope S.N ps (defScope st)) (hn : ps.length = n) (hN : n ≤ S.N.length)
    (len : ∀ ds P E, c ds P E → ds.length = n)
    (body : ∀ (G H : Hp) ds P E, c ds P E → JSs S (U.cg G H fun _ => E) (defBody st) (startD S.N ds) { nx := fun _ => P .non, rt := P }) : FnOk U.P U.w U.K U.mg U.base (L2N.CX U.P U.w) (S.lv + 1) f fd ps (spC U.K c) := by
  refine Fu.ok fs (fun vs H Q E h => ?_) (fun cdv A outer s H vs Q E hr h => ?_)
  · obtain ⟨G, ds, _, _, r, h⟩ := h
    rw [r.length, len _ _ _ h, hn]
  · obtain ⟨G, ds, e, tb, r, h⟩ := h
    have hl := len _ _ _ h
    refine ⟨_, wSs_pss, ?_⟩
    refine (body G H ds _ _ h).run _ ⟨so, rfl, rfl, rfl, rfl, rfl, rfl, sc.symm, fun _ => rfl, fun _ => hr, L2H.roomH_of hr, (fun _ z => by cases z), fun _ _ => .inl rfl, fun _ => ⟨rfl, rfl, rfl, passes_of rfl⟩, ?_, tb, (fun _ _ _ z => by cases z)⟩ _ G H _ (.refl e) (EnvOk.start r _ (by omega)) ⟨?_, ?_, ?_, ?_, fun _ _ _ _ _ _ _ _ _ q => q.elim⟩
    · refine L2N.Takes.imp (L2N.takes_of rfl rfl rfl rfl) ?_
      rintro cls d σ' H' ⟨G', δ', ns, es, s', ev', x', q⟩
      exact q d G' H' s' x'
    · exact fun σ' G' H' δ' s' _ _ q => q .non G' H' s' rep_non
    · exact fun _ _ _ _ _ _ _ q => q.elim
    · exact fun _ _ _ _ _ _ _ q => q.elim
    · exact fun v G' H' d s' r' q => q v G' H' s' r'
/-- the law's contract -/
inductive cLaw : List D → (D → Prop) → (Value → List Str → List D → Prop) → Prop
  | mk {P : D → Prop} {E : Value → List Str → List D → Prop} (ns : List Int) (hl : ns.length ≤ 63) (hbits : ∀ z ∈ ns, Builtin.Int.intBits z ≤ 1048576) (k : P (.bl true)) : cLaw [.scr ns] P E
end Z
set_option Elab.async false
set_option linter.all false
set_option maxRecDepth 100000
set_option maxHeartbeats 4000000
/-! Z9: lists and tuples: in, min, max, sum, sorted, slices, items stored, pop, deep ==, list(range(..)), tuple(..), all, any, *. -/
namespace Z
open PySem L2
variable [tabsI : TabsT]
section
variable {S : Scp} {Γ : Cg} {δ : List Sl} {P : D → Prop} {PB : Bool → Prop} {PL : List D → Prop} {K : Kp} {N B C : List Sl → Prop} {R : D → Prop} {a b c e o : Expr} {es rest : List Expr} {pos : Pos}
/-! in -/
theorem inV_int {i : Int} : ∀ {is : List Int}, L2.inV (.int i) (is.map V.int) = decide (i ∈ is)
  | [] => by simp [L2.inV]
  | j :: is => by
    have ih := inV_int (i := i) (is := is)
    unfold L2.inV at ih ⊢
    rw [List.map_cons, List.any_cons, ih]
    show (decide _ || _) = _
    by_cases h : i = j
    · subst h; simp
    · simp [h, Ne.symm h]
theorem flat_ints {is : List Int} : (is.map V.int).all L2.flatV = true := by
  rw [List.all_eq_true]
  intro x hx
  obtain ⟨i, _, rfl⟩ := List.mem_map.mp hx
  rfl
theorem od_ninL {i : Int} {is : List Int} (h : P (.bl (!decide (i ∈ is)))) : OpD S Γ (compareOp .NotIn) (.int i) (.lst (is.map D.int)) P := by
  refine ⟨fun X hX v u G H st r1 r2 Q k => ?_⟩
  unfold Rep at r1 r2
  subst r1
  obtain ⟨p, vs, rfl, h1, h2⟩ := r2
  obtain rfl := h2.ints
  refine OpRw op_notIn_seq ⟨p, _, rfl, .inl (.inl (.inl (st.sub _ _ h1))), rfl, flat_ints, ?_⟩
  rw [if_pos rfl, inV_int]
  exact k _ G H _ (.refl st.sub) rep_bl h
theorem od_inT {i : Int} {is : List Int} (h : P (.bl (decide (i ∈ is)))) : OpD S Γ (compareOp .In) (.int i) (.tup (is.map D.int)) P := by
  refine ⟨fun X hX v u G H st r1 r2 Q k => ?_⟩
  unfold Rep at r1 r2
  subst r1
  obtain ⟨p, vs, rfl, h1, h2⟩ := r2
  obtain rfl := h2.ints
  refine OpRw op_in_seq ⟨p, _, rfl, .inr (by rw [hX.K]; exact Same.tup st.sub h1), rfl, flat_ints, ?_⟩
  rw [if_neg (by decide), inV_int]
  exact k _ G H _ (.refl st.sub) rep_bl h
theorem od_ninT {i : Int} {is : List Int} (h : P (.bl (!decide (i ∈ is)))) : OpD S Γ (compareOp .NotIn) (.int i) (.tup (is.map D.int)) P := by
  refine ⟨fun X hX v u G H st r1 r2 Q k => ?_⟩
  unfold Rep at r1 r2
  subst r1
  obtain ⟨p, vs, rfl, h1, h2⟩ := r2
  obtain rfl := h2.ints
  refine OpRw op_notIn_seq ⟨p, _, rfl, .inr (by rw [hX.K]; exact Same.tup st.sub h1), rfl, flat_ints, ?_⟩
  rw [if_pos rfl, inV_int]
  exact k _ G H _ (.refl st.sub) rep_bl h
end
end Z
set_option Elab.async false
set_option linter.all false
set_option maxRecDepth 100000
set_option maxHeartbeats 4000000
/-! Z10: instances of own classes: read, made (the object that __init__ fills is a slot of its own), methods, properties. Nothing is raised here. -/
namespace Z
open PySem L2
variable [tabsI : TabsT]
theorem passN {X : Cx} : Passes (L2N.CX X.prog X.w) X E0 := fun _ _ _ _ _ _ _ h => by
  obtain ⟨_, _, _, _, _, _, _, _, _, _, _, _, z⟩ := h
  exact z.elim
/-- what is known of a class of the program -/
structure ClsAt (K : PySem.W.Frag) (mg : Str → Option Value) (x : Str) (C : Addr) : Prop where
  mg : mg x = some (.ref C)
  cl : Cls K C
section
variable {K : PySem.W.Frag} {G H G' H' H0 G0 : Hp} {p : Addr} {C dx : Addr} {fs : List (Str × V)} {o u : HO}
theorem Mo.writeI {u : HO} (hp : H p = some (.ins C dx fs)) : Mo K G H G (upd H p u) := by
  refine ⟨Same.refl G, fun a cells n q => ⟨n, ?_⟩⟩
  obtain ⟨kvs, q1, q2⟩ := q
  have z : a ≠ p := by
    intro z
    subst z
    rw [hp] at q1
    cases q1
  exact ⟨kvs, by rw [upd_ne z]; exact q1, q2⟩
theorem Mo.freezeI (h : H p = some (.ins C dx fs)) (g : G p = none) : Mo K G H (upd G p (.ins C dx fs)) H := by
  have e : Same G (upd G p (.ins C dx fs)) := fun b u q => by rw [upd_ne (ne_of_none q g)]; exact q
  refine ⟨e, fun a cells n q => ?_⟩
  obtain ⟨kvs, h1, h2⟩ := q
  have z : a ≠ p := by
    intro z
    subst z
    rw [h] at h1
    cases h1
  exact ⟨by rw [upd_ne z]; exact n, kvs, h1, h2.mono e⟩
theorem Stp.freezeI (s : Stp K G H G' H') (hp : H p = none) (h : H' p = some o) (g : G' p = none) (nt : ∀ ps, o ≠ .tbl ps := by intro _ z; cases z) : Stp K G H (upd G' p o) H' := by
  have e : Same G' (upd G' p o) := fun b u q => by rw [upd_ne (ne_of_none q g)]; exact q
  refine ⟨s.exG.trans e, fun b u q => ?_, fun b u q n => ?_, fun t => ⟨(s.tab t).tb, fun x hx => by rw [upd_ne ((s.tab t).ne hx fun ps z => by rw [h] at z; exact nt ps (Option.some.inj z))]; exact (s.tab t).gn x hx⟩⟩
  · by_cases z : b = p
    · subst z; rw [upd_same] at q; cases q; exact h
    · rw [upd_ne z] at q; exact s.sub b u q
  · have z : b ≠ p := ne_of_none q hp
    obtain ⟨n', q'⟩ := s.own b u q n
    refine ⟨by rw [upd_ne z]; exact n', ?_⟩
    rcases q' with q' | ⟨q1, o', q2, q3, q4⟩
    · exact .inl q'
    · exact .inr ⟨q1, o', q2, q3, fun cells w => by
        obtain ⟨kvs, w1, w2⟩ := q4 cells w
        exact ⟨kvs, w1, w2.mono e⟩⟩
theorem lookup_rep : ∀ {ns : List Str} {ds : List D} {fs : List (Str × V)} {f : Str} {d : D}, fs.map (·.1) = ns → RepL K G H ds (fs.map (·.2)) → (ns.zip ds).lookup f = some d → ∃ v, fs.lookup f = some v ∧ Rep K G H d v
  | _, _, [], f, d, hn, r, e => by
    subst hn
    simp at e
  | _, [], (g, x) :: fs, f, d, hn, r, e => by
    subst hn
    simp at e
  | _, d0 :: ds, (g, x) :: fs, f, d, hn, r, e => by
    subst hn
    rw [List.map_cons] at r
    unfold RepL at r
    obtain ⟨v, rr, e1, r1, r2⟩ := r
    cases e1
    rw [List.map_cons, List.zip_cons_cons] at e
    rw [List.lookup_cons] at e ⊢
    by_cases h : f == g
    · rw [h] at e ⊢
      cases e
      exact ⟨_, rfl, r1⟩
    · have h : (f == g) = false := by simpa using h
      rw [h] at e ⊢
      exact lookup_rep rfl r2 e
theorem putF_new {f : Str} {v : V} : ∀ {fs : List (Str × V)}, f ∉ fs.map (·.1) → putF f v fs = fs ++ [(f, v)]
  | [], _ => rfl
  | (g, x) :: fs, h => by
    rw [List.map_cons, List.mem_cons, not_or] at h
    unfold putF
    rw [if_neg (fun z => h.1 z.symm), putF_new h.2]
    rfl
end
section
variable {S : Scp} {Γ : Cg} {δ : List Sl} {P : D → Prop} {PB : Bool → Prop} {PL : List D → Prop} {N B C' : List Sl → Prop} {R : D → Prop} {a b c e o : Expr} {es rest : List Expr} {pos : Pos}
/-- e.f -/
theorem je_fld {C : Addr} {f : Str} (cl : Cls Γ.K C) (hn : NoAttr Γ.K C f) (h : JE S Γ e δ fun d => ∃ ns ds v, d = .obj C ns ds ∧ (ns.zip ds).lookup f = some v ∧ P v) (hb : ∀ env, attributeBase e f env (eval e env) = eval e env := by intro _; rfl) : JE S Γ (.Attribute e f pos) δ P := by
  refine ⟨fun X hX σ G H st ev Q k => ?_⟩
  refine PEw (pe_fld wE_pe (hb _)) ?_
  refine h.run X hX σ G H st ev _ fun v G1 H1 d s1 r1 h1 => ?_
  obtain ⟨ns, ds, u, rfl, e1, p1⟩ := h1
  unfold Rep at r1
  obtain ⟨a, dx, fs, rfl, g1, g2, g3⟩ := r1
  obtain ⟨w, e2, r2⟩ := lookup_rep g2 g3 e1
  exact ⟨a, C, dx, fs, w, rfl, s1.sub _ _ g1, by rw [hX.K]; exact cl, by rw [hX.K]; exact hn, e2, k w G1 H1 u s1 r2 p1⟩
def isOb : Sl → Bool
  | .ob _ _ _ _ => true
  | _ => false
/-- one object alone is made in a frame -/
def OneOb (δ : List Sl) (i : Nat) : Prop := ∀ j C p ns ds, δ[j]? = some (.ob C p ns ds) → j = i
theorem oneOb {s : Sl} {δ : List Sl} (h : δ.all (fun s => !isOb s) = true) : OneOb (s :: δ) 0 := by
  intro j C p ns ds e
  cases j with
  | zero => rfl
  | succ j =>
    rw [List.getElem?_cons_succ] at e
    have := List.all_eq_true.mp h _ (List.mem_of_getElem? e)
    cases this
theorem EnvOk.writeOb {KK : PySem.W.Frag} {G H H0 : Hp} {σ : St} {δ : List Sl} (h : EnvOk KK G H H0 σ δ) {i : Nat} {C dx dx' : Addr} {ns ns' : List Str} {ds ds' : List D} {p : Addr} {fs fs' : List (Str × V)} (o1 : OneOb δ i) (e : δ[i]? = some (.ob C p ns ds)) (ep : σ[i]? = some (some (.ref p)))
    (hp : H p = some (.ins C dx fs)) (g : G p = none) (h0 : H0 p = none) (hn : fs'.map (·.1) = ns') (r : RepL KK G H ds' (fs'.map (·.2))) : EnvOk KK G (upd H p (.ins C dx' fs')) H0 σ (δ.set i (.ob C p ns' ds')) := by
  have mo : Mo KK G H G (upd H p (.ins C dx' fs')) := .writeI hp
  obtain ⟨F, f, dj⟩ := h.fp
  obtain ⟨_, _, ea, _⟩ := EnvOk.at0 f e
  refine EnvOk.anew (as' := [p]) h.len f dj mo (fun j n a ha => ⟨?_, ((f j).own a ha).1⟩) rfl (fun _ _ => rfl) (fun _ => ⟨dx', fs', rfl, ep, upd_same, g, h0, hn, r.mo mo⟩) (fun j n a ha => ?_)
  · rw [upd_ne]
    intro w
    subst w
    exact dj j i n a ha (by rw [ea]; exact .head _)
  · rw [List.mem_singleton.mp ha]
    exact dj i j (fun w => n w.symm) p (by rw [ea]; exact .head _)
/-- x.f = e, a new field of the object that is made -/
theorem zs_fld {C p : Addr} {f x : Str} {i : Nat} {ns : List Str} {ds : List D} {p1 p2 p3 : Pos} (hv : Has S.vs x i) (hδ : δ[i]? = some (.ob C p ns ds)) (o1 : OneOb δ i) (cl : Cls Γ.K C) (hn : NoAttr Γ.K C f) (hf : f ∉ ns) (hl : ns.length < 900)
    (h : JE S Γ e δ fun d => N (δ.set i (.ob C p (ns ++ [f]) (ds ++ [d])))) (hd : (x == ("__debug__" : Str)) = false := by decide) (hcd : (x == ("__classdict__" : Str)) = false := by decide)
    (hs : ∀ env, swapsWith e (some (.Attribute (.Name x p1) f p2)) p3.line env = pure false := by intro _; rfl) : JS S Γ (.Assign [.Attribute (.Name x p1) f p2] e p3) δ ⟨N, R, B, C'⟩ := by
  refine ⟨fun X hX σ G H De s ev en => ?_⟩
  obtain ⟨h1, h2⟩ := hX.so.vs _ hv.mem
  refine PSw (ps_fld (pe_var (by rw [hX.N]; exact h1) (by rw [hX.sc]; exact h2) hd hcd) wE_pe (hs _)) ?_
  refine h.run X hX σ G H s ev _ fun v G1 H1 d s1 r1 q => ?_
  have ev1 := ev.mono s1
  obtain ⟨dx, fs, ep, hp, g, h0, en2, r'⟩ := ev1.at_ i _ hδ
  refine ⟨.ref p, ep, p, C, dx, fs, rfl, hp, by rw [hX.K]; exact cl, by rw [hX.K]; exact hn, ?_, ?_⟩
  · have := congrArg List.length en2
    rw [List.length_map] at this
    omega
  · rw [putF_new (by rw [en2]; exact hf)]
    refine en.nx σ G1 _ _ ((s.trans s1).write (o := .ins C dx fs) g h0) (s1.mo.trans (.writeI hp)) (ev1.writeOb o1 hδ ep hp g h0 (by rw [List.map_append, en2]; rfl) ?_) q
    rw [List.map_append]
    exact r'.append (.one r1)
/-! a class called -/
abbrev CtI := List D → (List Str → List D → Prop) → (Value → List Str → List D → Prop) → Prop
def spI (K : PySem.W.Frag) (C : Addr) (c : CtI) : Sp := fun vs H Q E => ∃ G H0 ds x dx us, vs = .ref x :: us ∧ H = upd H0 x (.ins C dx []) ∧ H0 x = none ∧ Same G H0 ∧ TOk G H0 ∧ RepL K G H0 ds us ∧
  c ds (fun ns es => ∀ G' H' dx' fs, Stp K G H0 G' H' → G' x = none → H' x = some (.ins C dx' fs) → fs.map (·.1) = ns → RepL K G' H' es (fs.map (·.2)) → Q .non H') fun cls ns es => ∀ d G' H', Stp K G H0 G' H' → XdOk K G' H' d ns es → E cls d H'
section
variable {X : Cx} {CX : CXT} {k : Nat} {f C : Addr} {fd : FuncData} {ps : List Str} {sp : Sp} {E : St → XK} {x : Str} {p pos : Pos} {e : Expr} {es : List Expr} {t : TA}
def tMakeSD (C : Addr) (sp : Sp) (E : St → XK) (t : TA) : TE := fun σ H Q => t σ H fun vs H1 => ∀ x dx, H1 x = none → H1 dx = none → dx ≠ x → sp (.ref x :: vs) (upd (upd H1 dx (.own x)) x (.ins C dx [])) (fun v H2 => v = .non ∧ Q (.ref x) H2) (E σ)
/-- a class called; what __init__ raises is wished for at the caller's slots -/
theorem run_makeSD {pins : List (Addr × Obj)} {σ : St} {H : Hp} {s : Shared} {Q : VK} {us : List Value} {vs : List V} (M : Mk X.K C f) (F : FnOk X.prog X.w X.K X.mg X.base CX k f fd ps sp) (hr : Room (k + 1) X.A) (hb : Binds X.K fd ps [])
    (hx : PassesAt CX X σ (E σ)) (I : Inv X pins σ H s) (r : Vals vs us)
    (h : ∀ x dx, H x = none → H dx = none → dx ≠ x → sp (.ref x :: vs) (upd (upd H dx (.own x)) x (.ins C dx [])) (fun v H2 => v = .non ∧ Q (.ref x) H2) (E σ)) : wpAny (model X.prog X.w) X.A (call (.ref C) us) (EP X pins σ Q) X.xe s := by
  have hs := I.hok.fresh (Nat.le_succ s.heap.objs.size)
  have hs0 := I.hok.fresh (Nat.le_refl s.heap.objs.size)
  have q0 := h _ _ hs hs0 (Nat.ne_of_lt (Nat.lt_succ_self _))
  have J := Inv.made (C := C) I
  have rr : Vals (V.ref (s.heap.objs.size + 1) :: vs) (Value.ref (s.heap.objs.size + 1) :: us) := .cons rfl r
  have ln := rr.length
  rw [F.len _ _ _ _ q0] at ln
  have hbb := hb _ (Value.ref (s.heap.objs.size + 1) :: us) J.kIn (by rw [List.append_nil]; exact ln.symm)
  rw [List.append_nil] at hbb
  refine wpAny_call (make_map (f := f) I.kIn M.makes M.init (beq_iff_eq.mp M.fn) (codeAny_mono (F.run _ X.stack _ _ ⟨_, []⟩ _ _ _ (E σ) (hr.make C us []) (J.env0.make C us []) hbb rr q0) fun z s' hz => ?_))
  match z, hz with
  | .error e, hz => exact hx pins _ _ e s' J hz
  | .ok (.ret u), hz =>
    obtain ⟨v, H', J3, rv, ev, q3⟩ := J.after hz
    cases ev
    exact ⟨rv, ⟨V.ref (s.heap.objs.size + 1), H', J3, rfl, q3⟩⟩
  | .ok .next, hz => exact hz.elim
  | .ok .brk, hz => exact hz.elim
  | .ok .cont, hz => exact hz.elim
theorem pe_makeSD (M : Mk X.K C f) (F : FnOk X.prog X.w X.K X.mg X.base CX k f fd ps sp) (hr : Room (k + 1) X.A) (hg : Gl X x) (hm : X.mg x = some (.ref C)) (hb : Binds X.K fd ps []) (hx : ∀ σ, PassesAt CX X σ (E σ))
    (ha : PA X (e :: es) t) (hdb : (x == ("__debug__" : Str)) = false := by decide) (he : starEach (e :: es) X.env = (false, eval e X.env) :: starEach es X.env := by rfl) (hpl : (backTo pos (starEach es X.env)).any (·.1) = false := by rfl) :
    PE X (.Call (.Name x p) (e :: es) [] pos) (tMakeSD C sp E t) :=
  ⟨fun pins s σ H Q I h => wpAny_Call_Name_kw (ld_glob I hg hm (PySem.W.callWith_K (h₀ := X.base) I.ok.mod.kin M.kp (thn (ha.run pos pins s σ H _ I h) fun us s1 ⟨vs, H1, I1, r, q⟩ => ⟨I1.kIn, run_makeSD M F hr hb (hx σ) I1 r q⟩) he hpl) hdb)⟩
end
/-- a class of the module whose instances are made by its __init__ -/
structure MakeOk (P : Program) (w : World) (K : PySem.W.Frag) (mg : Str → Option Value) (base : Heap) (x : Str) (C : Addr) (lv : Nat) (c : CtI) : Prop where
  mono : ∀ ds (P P' : List Str → List D → Prop) (E E' : Value → List Str → List D → Prop), (∀ ns es, P ns es → P' ns es) → (∀ v ns es, E v ns es → E' v ns es) → c ds P E → c ds P' E'
  ex : ∃ f fd ps, FnOk P w K mg base (L2N.CX P w) lv f fd ps (spI K C c) ∧ Mk K C f ∧ mg x = some (.ref C) ∧ Binds K fd ps []
theorem je_make [Calm Γ] {x : Str} {C : Addr} {lv : Nat} {ct : CtI} {p : Pos} (F : MakeOk Γ.P Γ.w Γ.K Γ.mg Γ.base x C lv ct) (hl : lv + 1 ≤ S.lv) (hg : HasG S.gl x)
    (h : JA S Γ (e :: es) δ fun ds => ct ds (fun ns fs => P (.obj C ns fs)) (Γ.ex δ))
    (hdb : (x == ("__debug__" : Str)) = false := by decide) (he : ∀ env, starEach (e :: es) env = (false, eval e env) :: starEach es env := by intro _; rfl) (hpl : ∀ env, (backTo pos (starEach es env)).any (·.1) = false := by intro _; rfl) :
    JE S Γ (.Call (.Name x p) (e :: es) [] pos) δ P := by
  refine ⟨fun X hX σ G H st ev Q k => ?_⟩
  have hk : Gl X x := by show X.env.scope.names.lookup x = _; rw [hX.sc]; exact hX.so.gl x hg.mem
  obtain ⟨f, fd, ps, F1, F2, F3, F4⟩ := F.ex
  have F1' : FnOk X.prog X.w X.K X.mg X.base (L2N.CX X.prog X.w) lv f fd ps (spI Γ.K C ct) := by rw [hX.prog, hX.w, hX.K, hX.mg, hX.base]; exact F1
  refine PEw (pe_makeSD (E := WE (wx Γ)) (by rw [hX.K]; exact F2) F1' ((hX.room Calm.hx).mono hl) hk (by rw [hX.mg]; exact F3) (by rw [hX.K]; exact F4) (fun σ => L2N.passAt hX.tk σ) wA_pa hdb (he _) (hpl _)) ?_
  refine h.run X hX σ G H st ev _ fun vs G1 H1 ds s1 r1 h1 => ?_
  intro y dx hy hdx hne
  have gy : G1 y = none := s1.sub.free hy
  have s2 : Stp Γ.K G1 H1 G1 (upd H1 dx (.own y)) := .newM s1.sub hdx
  have hy0 : (upd H1 dx (.own y)) y = none := by rw [upd_ne hne.symm]; exact hy
  refine ⟨G1, upd H1 dx (.own y), ds, y, dx, vs, rfl, rfl, hy0, s2.sub, ((st.trans s1).trans s2).tab hX.tb, r1.mono s2, F.mono _ _ _ _ _ (fun ns es q G' H' dx' fs s' g' hp' hn r' => ?_) (fun cls ns es q d G' H' s x => ⟨G', δ, ns, es, ((st.trans s1).trans s2).trans s, ev.mono ((s1.trans s2).trans s), x, q⟩) h1⟩
  refine ⟨rfl, ?_⟩
  have s3 := (s2.trans s').freezeI hy hp' g'
  refine k _ _ _ _ (s1.trans s3) ?_ q
  unfold Rep
  exact ⟨y, dx', fs, rfl, upd_same, hn, r'.mo (.freezeI hp' g')⟩
/-! methods, properties -/
structure MethOk (P : Program) (w : World) (K : PySem.W.Frag) (mg : Str → Option Value) (base : Heap) (C : Addr) (m : Str) (lv : Nat) (c : Ct) : Prop where
  mono : ∀ ds (P P' : D → Prop) (E E' : Value → List Str → List D → Prop), (∀ d, P d → P' d) → (∀ v ns es, E v ns es → E' v ns es) → c ds P E → c ds P' E'
  ex : ∃ f fd ps, FnOk P w K mg base (L2N.CX P w) lv f fd ps (spC K c) ∧ Meth K C m f ∧ Binds K fd ps []
structure PropOk (P : Program) (w : World) (K : PySem.W.Frag) (mg : Str → Option Value) (base : Heap) (C : Addr) (m : Str) (lv : Nat) (c : Ct) : Prop where
  mono : ∀ ds (P P' : D → Prop) (E E' : Value → List Str → List D → Prop), (∀ d, P d → P' d) → (∀ v ns es, E v ns es → E' v ns es) → c ds P E → c ds P' E'
  ex : ∃ p f fd ps, FnOk P w K mg base (L2N.CX P w) lv f fd ps (spC K c) ∧ PropOf K C m p f ∧ Binds K fd ps []
theorem lookup_none {f : Str} : ∀ {fs : List (Str × V)}, f ∉ fs.map (·.1) → fs.lookup f = none
  | [], _ => rfl
  | (g, x) :: fs, h => by
    rw [List.map_cons, List.mem_cons, not_or] at h
    have hb : (f == g) = false := by simpa using h.1
    rw [List.lookup_cons, hb]
    exact lookup_none h.2
/-- what an object's call asks -/
def ObjC (C : Addr) (m : Str) (d : D) (P : Prop) : Prop := ∃ ns ds, d = .obj C ns ds ∧ m ∉ ns ∧ P
theorem je_meth [Calm Γ] {C : Addr} {m : Str} {lv : Nat} {ct : Ct} {apos : Pos} {pl : Env → Sem Bool} (cl : Cls Γ.K C) (F : MethOk Γ.P Γ.w Γ.K Γ.mg Γ.base C m lv ct) (hl : lv ≤ S.lv)
    (h : JE S Γ o δ fun d => ObjC C m d (JA S Γ (e :: es) δ fun ds => ct (d :: ds) P fun _ _ _ => False))
    (hst : ∀ env, starEach (e :: es) env = (false, eval e env) :: starEach es env := by intro _; rfl) (hpl : ∀ env, (backTo pos (starEach es env)).any (·.1) = false := by intro _; rfl)
    (ht : ∀ env, eval (.Call (.Attribute o m apos) (e :: es) [] pos) env = (do
      let ov ← eval o env
      standAt apos.atName
      let (f, first) ← holding [ov] (getMethod ov m (pl env))
      callWith pos f first (backTo pos (starEach (e :: es) env)) (backToKw pos (keywordEach [] env))) := by intro _; rfl) : JE S Γ (.Call (.Attribute o m apos) (e :: es) [] pos) δ P := by
  refine ⟨fun X hX σ G H st ev Q k => ?_⟩
  obtain ⟨f, fd, ps, F1, F2, F4⟩ := F.ex
  have F1' : FnOk X.prog X.w X.K X.mg X.base (L2N.CX X.prog X.w) lv f fd ps (spC Γ.K ct) := by rw [hX.prog, hX.w, hX.K, hX.mg, hX.base]; exact F1
  refine PEw (pe_meth (E := E0) wE_pe (by rw [hX.K]; exact cl) (by rw [hX.K]; exact F2) F1' ((hX.room Calm.hx).mono hl) (by rw [hX.K]; exact F4) .nil passN wA_pa (hst _) (hpl _) (ht _)) ?_
  refine h.run X hX σ G H st ev _ fun v G1 H1 d s1 r1 h1 => ?_
  obtain ⟨ns, ds, rfl, hm, hA⟩ := h1
  have r1' := r1
  unfold Rep at r1
  obtain ⟨a, dx, fs, rfl, g1, g2, g3⟩ := r1
  refine ⟨a, dx, fs, rfl, s1.sub _ _ g1, lookup_none (by rw [g2]; exact hm), ?_⟩
  refine hA.run X hX σ G1 H1 (st.trans s1) (ev.mono s1) _ fun us G2 H2 es' s2 r2 h2 => ?_
  refine ⟨G2, _, s2.sub, ((st.trans s1).trans s2).tab hX.tb, by rw [List.append_nil]; exact .cons (r1'.mono s2) r2, F.mono _ _ _ _ _ (fun d' p v' G' H' s' r' => k v' G' H' d' ((s1.trans s2).trans s') r' p) (fun cls ns es q d' G' H' s' x => q.elim) h2⟩
theorem je_meth0 [Calm Γ] {C : Addr} {m : Str} {lv : Nat} {ct : Ct} {apos : Pos} {pl : Env → Sem Bool} (cl : Cls Γ.K C) (F : MethOk Γ.P Γ.w Γ.K Γ.mg Γ.base C m lv ct) (hl : lv ≤ S.lv)
    (h : JE S Γ o δ fun d => ObjC C m d (ct [d] P fun _ _ _ => False))
    (ht : ∀ env, eval (.Call (.Attribute o m apos) [] [] pos) env = (do
      let ov ← eval o env
      standAt apos.atName
      let (f, first) ← holding [ov] (getMethod ov m (pl env))
      callWith pos f first (backTo pos (starEach [] env)) (backToKw pos (keywordEach [] env))) := by intro _; rfl) : JE S Γ (.Call (.Attribute o m apos) [] [] pos) δ P := by
  refine ⟨fun X hX σ G H st ev Q k => ?_⟩
  obtain ⟨f, fd, ps, F1, F2, F4⟩ := F.ex
  have F1' : FnOk X.prog X.w X.K X.mg X.base (L2N.CX X.prog X.w) lv f fd ps (spC Γ.K ct) := by rw [hX.prog, hX.w, hX.K, hX.mg, hX.base]; exact F1
  refine PEw (pe_meth0 (E := E0) wE_pe (by rw [hX.K]; exact cl) (by rw [hX.K]; exact F2) F1' ((hX.room Calm.hx).mono hl) (by rw [hX.K]; exact F4) .nil passN (ht _)) ?_
  refine h.run X hX σ G H st ev _ fun v G1 H1 d s1 r1 h1 => ?_
  obtain ⟨ns, ds, rfl, hm, hA⟩ := h1
  have r1' := r1
  unfold Rep at r1
  obtain ⟨a, dx, fs, rfl, g1, g2, g3⟩ := r1
  refine ⟨a, dx, fs, rfl, s1.sub _ _ g1, lookup_none (by rw [g2]; exact hm), ?_⟩
  exact ⟨G1, _, s1.sub, (st.trans s1).tab hX.tb, .cons r1' .nil, F.mono _ _ _ _ _ (fun d' p v' G' H' s' r' => k v' G' H' d' (s1.trans s') r' p) (fun cls ns es q d' G' H' s' x => q.elim) hA⟩
theorem je_prop [Calm Γ] {C : Addr} {m : Str} {lv : Nat} {ct : Ct} {apos : Pos} (cl : Cls Γ.K C) (F : PropOk Γ.P Γ.w Γ.K Γ.mg Γ.base C m lv ct) (hl : lv + 1 ≤ S.lv)
    (h : JE S Γ o δ fun d => (∃ ns ds, d = .obj C ns ds) ∧ ct [d] P fun _ _ _ => False)
    (hb : ∀ env, attributeBase o m env (eval o env) = eval o env := by intro _; rfl) : JE S Γ (.Attribute o m apos) δ P := by
  refine ⟨fun X hX σ G H st ev Q k => ?_⟩
  obtain ⟨p, f, fd, ps, F1, F2, F4⟩ := F.ex
  have F1' : FnOk X.prog X.w X.K X.mg X.base (L2N.CX X.prog X.w) lv f fd ps (spC Γ.K ct) := by rw [hX.prog, hX.w, hX.K, hX.mg, hX.base]; exact F1
  refine PEw (pe_prop (E := E0) wE_pe (by rw [hX.K]; exact cl) (by rw [hX.K]; exact F2) F1' ((hX.room Calm.hx).mono hl) (by rw [hX.K]; exact F4) .nil passN (hb _)) ?_
  refine h.run X hX σ G H st ev _ fun v G1 H1 d s1 r1 h1 => ?_
  obtain ⟨⟨ns, ds, rfl⟩, hA⟩ := h1
  have r1' := r1
  unfold Rep at r1
  obtain ⟨a, dx, fs, rfl, g1, g2, g3⟩ := r1
  refine ⟨a, dx, fs, rfl, s1.sub _ _ g1, ?_⟩
  exact ⟨G1, _, s1.sub, (st.trans s1).tab hX.tb, .cons r1' .nil, F.mono _ _ _ _ _ (fun d' p v' G' H' s' r' => k v' G' H' d' (s1.trans s') r' p) (fun cls ns es q d' G' H' s' x => q.elim) hA⟩
end
end Z
set_option Elab.async false
set_option linter.all false
set_option maxRecDepth 100000
set_option maxHeartbeats 4000000
/-! Z11: operators of own classes: ==, in, &, len. -/
namespace Z
open PySem L2 PyProof.Rows
variable [tabsI : TabsT]
/-- a def of the program called from an operator -/
theorem call_fn {X : Cx} {CX : CXT} {k : Nat} {f : Addr} {fd : FuncData} {ps : List Str} {sp : Sp} {E : XK} {pins : List (Addr × Obj)} {σ : L2.St} {H : Hp} {s : Shared} {Q : VK} {us : List Value} {vs : List V} {A : Around} (F : FnOk X.prog X.w X.K X.mg X.base CX k f fd ps sp) (hr : Room k A) (hA : A.frames = X.A.frames)
    (hb : Binds X.K fd ps []) (hx : ∀ e s', ¬ CX X.stack H s E e s') (I : Inv X pins σ H s) (r : Vals vs us) (h : sp vs H Q E) {E' : Value → Shared → Prop} : wpAny (model X.prog X.w) A (call (.ref f) us) (EP X pins σ Q) E' s := by
  have hl := F.len _ _ _ _ h
  have hl' : (us ++ []).length = ps.length := by rw [List.append_nil, ← r.length]; exact hl
  have e0 : Env0 X.prog X.w X.K X.mg X.base A X.stack s H := by
    have e := I.env0
    exact ⟨by rw [hA]; exact e.frames, e.mod, e.bs, e.bsz, e.funs, e.frf, e.hok, e.bare⟩
  refine wpAny_call (codeAny_mono (F.run A X.stack s H ⟨us, []⟩ us vs Q E hr e0 (by
    have := hb s us I.kIn hl'
    simpa using this) r h) fun r s' hq => ?_)
  cases r with
  | error e => exact absurd hq (hx e s')
  | ok fl =>
    cases fl with
    | ret w =>
      obtain ⟨z, H', I', rz, q⟩ := I.after hq
      exact ⟨z, H', I', rz, q⟩
    | next => exact False.elim hq
    | brk => exact False.elim hq
    | cont => exact False.elim hq
theorem noX {P : Program} {w : World} {l : List Env} {H : Hp} {s : Shared} {e : Value} {s' : Shared} : ¬ L2N.CX P w l H s E0 e s' := by
  rintro ⟨_, _, _, _, _, _, _, _, _, _, _, _, z⟩
  exact z.elim
/-- the contract's answer at values -/
theorem spC_of {K : PySem.W.Frag} {ct : Ct} {G H : Hp} {ds : List D} {vs : List V} {P : D → Prop} {Q : VK} (mono : ∀ ds (P P' : D → Prop) (E E' : Value → List Str → List D → Prop), (∀ d, P d → P' d) → (∀ v ns es, E v ns es → E' v ns es) → ct ds P E → ct ds P' E') (st : Same G H) (tb : TOk G H) (r : RepL K G H ds vs)
    (h : ct ds P fun _ _ _ => False) (k : ∀ d v G' H', Stp K G H G' H' → Rep K G' H' d v → P d → Q v H') : spC K ct vs H Q E0 :=
  ⟨G, ds, st, tb, r, mono _ _ _ _ _ (fun d p v G' H' s' r' => k d v G' H' s' r' p) (fun _ _ _ q _ _ _ _ _ => q.elim) h⟩
section
variable {S : Scp} {Γ : Cg} {P : D → Prop}
/-- the answer that a contract may give where a bool is wanted -/
def ansB (P : Bool → Prop) (d : D) : Prop := ∃ b, d = .bl b ∧ P b
theorem od_eqO [Calm Γ] {C : Addr} {ns ns' : List Str} {ds ds' : List D} {lv : Nat} {ct : Ct} (F : MethOk Γ.P Γ.w Γ.K Γ.mg Γ.base C "__eq__" lv ct) (hl : lv ≤ S.lv) (h : ct [.obj C ns ds, .obj C ns' ds'] (ansB fun b => P (.bl b)) fun _ _ _ => False) :
    OpD S Γ (compareOp .Eq) (.obj C ns ds) (.obj C ns' ds') P := by
  refine ⟨fun X hX v u G H st r1 r2 Q k => ?_⟩
  obtain ⟨f, fd, ps, F1, F2, F4⟩ := F.ex
  have F1' : FnOk X.prog X.w X.K X.mg X.base (L2N.CX X.prog X.w) lv f fd ps (spC Γ.K ct) := by rw [hX.prog, hX.w, hX.K, hX.mg, hX.base]; exact F1
  have r1' := r1
  have r2' := r2
  unfold Rep at r1 r2
  obtain ⟨a, dx, fs, rfl, g1, _⟩ := r1
  obtain ⟨b, dy, gs, rfl, g2, _⟩ := r2
  intro pins s σ v' u' I rv ru
  cases rv
  cases ru
  obtain ⟨mA, J, _⟩ := ins_get I.hok (st.sub _ _ g1)
  obtain ⟨mB, J', _⟩ := ins_get I.hok (st.sub _ _ g2)
  obtain ⟨od, J, _⟩ := J.look
  obtain ⟨od', J', _⟩ := J'.look
  obtain ⟨m, hF⟩ := I.fr
  have hr : Room lv X.A := (hX.room Calm.hx).mono hl
  refine PySem.W.cmp_K (op := .Eq) (tb := .ref C) hr.units0 hF I.ok.mod.kin J J'.type (by simp [PySem.W.notFirst]) (by rw [hX.K]; exact F2.at_) (by rw [hX.K]; exact F2.fn) ?_
  refine wpAny_mono (call_fn (E := E0) F1' hr rfl (by rw [hX.K]; exact F4) (fun _ _ => noX) I (show Vals [V.ref a, V.ref b] [Value.ref a, Value.ref b] from .cons rfl (.cons rfl .nil)) (spC_of (Q := fun v H' => ∃ b, v = .bl b ∧ Q (.bl b) H') F.mono st.sub (st.tab hX.tb) (.cons r1' (.cons r2' .nil)) h fun d w G' H' s' r' p => ?_)) (fun w s' hw => ?_) fun _ _ e => e
  · obtain ⟨bb, rfl, p⟩ := p
    unfold Rep at r'
    exact ⟨bb, r', k _ G' H' _ s' rep_bl p⟩
  · obtain ⟨z, H', I', rz, bb, rfl, q⟩ := hw
    cases rz
    exact ⟨.bl bb, H', I', rfl, q⟩
theorem od_inO [Calm Γ] {C : Addr} {ns : List Str} {ds : List D} {x : D} {lv : Nat} {ct : Ct} (F : MethOk Γ.P Γ.w Γ.K Γ.mg Γ.base C "__contains__" lv ct) (hl : lv ≤ S.lv) (h : ct [.obj C ns ds, x] (ansB fun b => P (.bl b)) fun _ _ _ => False) :
    OpD S Γ (compareOp .In) x (.obj C ns ds) P := by
  refine ⟨fun X hX u v G H st r2 r1 Q k => ?_⟩
  obtain ⟨f, fd, ps, F1, F2, F4⟩ := F.ex
  have F1' : FnOk X.prog X.w X.K X.mg X.base (L2N.CX X.prog X.w) lv f fd ps (spC Γ.K ct) := by rw [hX.prog, hX.w, hX.K, hX.mg, hX.base]; exact F1
  have r1' := r1
  unfold Rep at r1
  obtain ⟨a, dx, fs, rfl, g1, _⟩ := r1
  intro pins s σ u' v' I ru rv
  cases rv
  obtain ⟨mA, J, _⟩ := ins_get I.hok (st.sub _ _ g1)
  obtain ⟨od, J, _⟩ := J.look
  obtain ⟨m, hF⟩ := I.fr
  have hr : Room lv X.A := (hX.room Calm.hx).mono hl
  refine PySem.W.in_K hF I.ok.mod.kin J (by rw [hX.K]; exact F2.at_) (by rw [hX.K]; exact F2.fn) ?_
  refine wpAny_mono (call_fn (E := E0) F1' hr rfl (by rw [hX.K]; exact F4) (fun _ _ => noX) I (show Vals [V.ref a, u] [Value.ref a, u'] from .cons rfl (.cons ru .nil)) (spC_of (Q := fun v H' => ∃ b, v = .bl b ∧ Q (.bl b) H') F.mono st.sub (st.tab hX.tb) (.cons r1' (.cons r2 .nil)) h fun d w G' H' s' r' p => ?_)) (fun w s' hw => ?_) fun _ _ e => e
  · obtain ⟨bb, rfl, p⟩ := p
    unfold Rep at r'
    exact ⟨bb, r', k _ G' H' _ s' rep_bl p⟩
  · obtain ⟨z, H', I', rz, bb, rfl, q⟩ := hw
    cases rz
    exact wpAny_pure ⟨.bl bb, H', I', rfl, q⟩
theorem od_ninO [Calm Γ] {C : Addr} {ns : List Str} {ds : List D} {x : D} {lv : Nat} {ct : Ct} (F : MethOk Γ.P Γ.w Γ.K Γ.mg Γ.base C "__contains__" lv ct) (hl : lv ≤ S.lv) (h : ct [.obj C ns ds, x] (ansB fun b => P (.bl (!b))) fun _ _ _ => False) :
    OpD S Γ (compareOp .NotIn) x (.obj C ns ds) P := by
  refine ⟨fun X hX u v G H st r2 r1 Q k => ?_⟩
  obtain ⟨f, fd, ps, F1, F2, F4⟩ := F.ex
  have F1' : FnOk X.prog X.w X.K X.mg X.base (L2N.CX X.prog X.w) lv f fd ps (spC Γ.K ct) := by rw [hX.prog, hX.w, hX.K, hX.mg, hX.base]; exact F1
  have r1' := r1
  unfold Rep at r1
  obtain ⟨a, dx, fs, rfl, g1, _⟩ := r1
  intro pins s σ u' v' I ru rv
  cases rv
  obtain ⟨mA, J, _⟩ := ins_get I.hok (st.sub _ _ g1)
  obtain ⟨od, J, _⟩ := J.look
  obtain ⟨m, hF⟩ := I.fr
  have hr : Room lv X.A := (hX.room Calm.hx).mono hl
  refine PySem.W.notIn_K hF I.ok.mod.kin J (by rw [hX.K]; exact F2.at_) (by rw [hX.K]; exact F2.fn) ?_
  refine wpAny_mono (call_fn (E := E0) F1' hr rfl (by rw [hX.K]; exact F4) (fun _ _ => noX) I (show Vals [V.ref a, u] [Value.ref a, u'] from .cons rfl (.cons ru .nil)) (spC_of (Q := fun v H' => ∃ b, v = .bl b ∧ Q (.bl (!b)) H') F.mono st.sub (st.tab hX.tb) (.cons r1' (.cons r2 .nil)) h fun d w G' H' s' r' p => ?_)) (fun w s' hw => ?_) fun _ _ e => e
  · obtain ⟨bb, rfl, p⟩ := p
    unfold Rep at r'
    exact ⟨bb, r', k _ G' H' _ s' rep_bl p⟩
  · obtain ⟨z, H', I', rz, bb, rfl, q⟩ := hw
    cases rz
    exact wpAny_pure ⟨.bl (!bb), H', I', rfl, q⟩
end
section
open PySem.W Builtin
variable {prog : Program} {w : World} {A : Around} {E : Value → Shared → Prop} {s : Shared} {K : Frag} {x C L f : Addr} {h₀ : Heap} {m : Str → Option Value} {ox : Obj} {od : Option Obj} {b tb : Value}
end
section
variable {S : Scp} {Γ : Cg} {P : D → Prop}
end
end Z
set_option Elab.async false
set_option linter.all false
set_option maxRecDepth 100000
set_option maxHeartbeats 4000000
/-! Z12: truth of lists, slices, a list of one's own read, stored into, popped; list(range(..)). -/
namespace Z
open PySem L2
variable [tabsI : TabsT]
section
variable {S : Scp} {Γ : Cg} {δ : List Sl} {P : D → Prop} {PB : Bool → Prop} {PL : List D → Prop} {K : Kp} {N B C : List Sl → Prop} {R : D → Prop} {a b c e o : Expr} {es rest : List Expr} {pos : Pos}
/-- what a test of a value asks -/
def tru (PB : Bool → Prop) (d : D) : Prop := match d with
  | .bl b => PB b | .non => PB false | .int i => PB (!decide (i = 0)) | .lst ds => PB (!ds.isEmpty) | .tup ds => PB (!ds.isEmpty) | _ => False
theorem isEmpty_rep {KK : PySem.W.Frag} {G H : Hp} {ds : List D} {vs : List V} (h : RepL KK G H ds vs) : vs.isEmpty = ds.isEmpty := by
  have := h.length
  cases vs <;> cases ds <;> simp_all
theorem jt_tru (h : JE S Γ e δ (tru PB)) (he : ∀ env whole, isTrue e env whole = (do let v ← whole; standAt e.pos; holding [v] (truthy v))) : JT S Γ e δ PB := by
  refine ⟨fun X hX σ G H st ev Q k => ?_⟩
  refine PTw (pt_truth wE_pe (he _)) ?_
  refine h.run X hX σ G H st ev _ fun v G1 H1 d s1 r1 h1 => ?_
  cases d with
  | bl b => unfold Rep at r1; subst r1; exact ⟨b, rfl, k b G1 H1 s1 h1⟩
  | non => unfold Rep at r1; subst r1; exact ⟨false, rfl, k false G1 H1 s1 h1⟩
  | int i => unfold Rep at r1; subst r1; exact ⟨_, rfl, k _ G1 H1 s1 h1⟩
  | lst ds =>
    unfold Rep at r1
    obtain ⟨p, vs, rfl, g1, g2⟩ := r1
    exact ⟨!ds.isEmpty, .inl ⟨vs, .inl (.inl (s1.sub _ _ g1)), by rw [isEmpty_rep g2]⟩, k _ G1 H1 s1 h1⟩
  | tup ds =>
    unfold Rep at r1
    obtain ⟨p, vs, rfl, g1, g2⟩ := r1
    exact ⟨!ds.isEmpty, .inr (.inl ⟨vs, by rw [hX.K]; exact Same.tup s1.sub g1, by rw [isEmpty_rep g2]⟩), k _ G1 H1 s1 h1⟩
  | _ => exact h1.elim
/-- not xs at a list of one's own -/
theorem jt_truOw {x : Str} {i : Nat} {ds : List D} {p : Pos} (hv : Has S.vs x i) (hδ : δ[i]? = some (.ow ds)) (h : PB (!ds.isEmpty)) (hd : (x == ("__debug__" : Str)) = false := by decide) (hcd : (x == ("__classdict__" : Str)) = false := by decide) (he : ∀ env whole, isTrue (.Name x p) env whole = (do let v ← whole; standAt (Expr.Name x p).pos; holding [v] (truthy v)) := by intro _ _; rfl) : JT S Γ (.Name x p) δ PB := by
  refine ⟨fun X hX σ G H st ev Q k => ?_⟩
  obtain ⟨h1, h2⟩ := hX.so.vs _ hv.mem
  refine PTw (pt_truth (pe_var (by rw [hX.N]; exact h1) (by rw [hX.sc]; exact h2) hd hcd) (he _)) ?_
  obtain ⟨q, vs, e1, hq, g, h0, r⟩ := ev.at_ i _ hδ
  exact ⟨.ref q, e1, !ds.isEmpty, .inl ⟨vs, .inl (.inl hq), by rw [isEmpty_rep r]⟩, k _ G H (.refl st.sub) h⟩
/-- xs[k] of a list of one's own -/
theorem je_ixOw {x : Str} {i : Nat} {ds : List D} {p : Pos} (hv : Has S.vs x i) (hδ : δ[i]? = some (.ow ds)) (h : JE S Γ b δ fun d => ∃ k u, d = .int k ∧ L2.atI ds k = some u ∧ P u) (hs : PlainIx b) (hd : (x == ("__debug__" : Str)) = false := by decide) (hcd : (x == ("__classdict__" : Str)) = false := by decide) : JE S Γ (.Subscript (.Name x p) b pos) δ P := by
  refine ⟨fun X hX σ G H st ev Q k => ?_⟩
  obtain ⟨h1, h2⟩ := hX.so.vs _ hv.mem
  refine PEw (pe_ix ix_list (pe_var (by rw [hX.N]; exact h1) (by rw [hX.sc]; exact h2) hd hcd) wE_pe hs) ?_
  obtain ⟨q, vs, e1, hq, g, h0, r⟩ := ev.at_ i _ hδ
  refine ⟨.ref q, e1, ?_⟩
  refine h.run X hX σ G H st ev _ fun v G1 H1 d s1 r1 hh => ?_
  obtain ⟨kk, u, rfl, e2, pu⟩ := hh
  unfold Rep at r1
  subst r1
  have ev1 := ev.mono s1
  obtain ⟨q', vs', e1', hq', g', h0', r'⟩ := ev1.at_ i _ hδ
  rw [e1] at e1'
  cases e1'
  obtain ⟨z, e3, rz⟩ := r'.atI e2
  exact ⟨q, vs', kk, z, rfl, rfl, .inl (.inl hq'), e3, k z G1 H1 u s1 rz pu⟩
/-! slices -/
def wPO (X : Cx) (e : Option Expr) : TO := fun σ H Q => ∀ pins s, Inv X pins σ H s → wpAny (model X.prog X.w) X.A (evalPart e X.env) (fun u s' => ∃ o H', Inv X pins σ H' s' ∧ IsPart u o ∧ Q o H') X.xe s
theorem wPO_po {X : Cx} {e : Option Expr} : PO X e (wPO X e) := ⟨fun pins s σ H Q I h => h pins s I⟩
structure JO (S : Scp) (Γ : Cg) (e : Option Expr) (δ : List Sl) (P : Option Int → Prop) : Prop where
  run : ∀ X, COk S Γ X → ∀ σ G H, Stp Γ.K Γ.G0 Γ.H0 G H → EnvOk Γ.K G H Γ.H0 σ δ → ∀ Q : Option Int → Hp → Prop, (∀ v G' H', Stp Γ.K G H G' H' → P v → Q v H') → wPO X e σ H Q
theorem jo_none {PO' : Option Int → Prop} (h : PO' none) : JO S Γ none δ PO' := ⟨fun X hX σ G H st ev Q k pins s I => po_none.run pins s σ H Q I (k none G H (.refl st.sub) h)⟩
theorem jo_some {PO' : Option Int → Prop} (h : JE S Γ e δ fun d => ∃ i, d = .int i ∧ PO' (some i)) : JO S Γ (some e) δ PO' := by
  refine ⟨fun X hX σ G H st ev Q k pins s I => (po_some wE_pe).run pins s σ H Q I ?_⟩
  refine h.run X hX σ G H st ev _ fun v G1 H1 d s1 r1 hh => ?_
  obtain ⟨i, rfl, p⟩ := hh
  unfold Rep at r1
  exact ⟨i, r1, k _ G1 H1 s1 p⟩
def cutD (xs : List D) (lo hi : Option Int) : List D := (xs.drop (HT.sIx xs.length 0 lo)).take (HT.sIx xs.length xs.length hi - HT.sIx xs.length 0 lo)
theorem RepL.cut {KK : PySem.W.Frag} {G H : Hp} {ds : List D} {vs : List V} {lo hi : Option Int} (h : RepL KK G H ds vs) : RepL KK G H (cutD ds lo hi) (cutV vs lo hi) := by
  unfold cutD cutV
  rw [h.length]
  exact (h.drop _).take _
/-- list(range(..)) -/
def rgD (a b : Int) : List Int := (List.range (b - a).toNat).map fun i => a + (i : Nat)
theorem rgV_D {a b : Int} : rgV a b = (rgD a b).map V.int := by
  unfold rgV rgD
  rw [List.map_map]
  rfl
theorem jf_rg1 [Calm Γ] {p p1 p2 : Pos} (hg : HasG S.gl "list") (hm : Γ.mg "list" = none) (hg2 : HasG S.gl "range") (hm2 : Γ.mg "range" = none) (h : JE S Γ a δ fun d => ∃ n, d = .int n ∧ RgOk 0 n ∧ PL ((rgD 0 n).map D.int))
    (n1 : ∀ env, starEach [a] env = (false, eval a env) :: starEach [] env := by intro _; rfl) (n2 : ∀ env, starEach [.Call (.Name "range" p1) [a] [] p2] env = (false, eval (.Call (.Name "range" p1) [a] [] p2) env) :: starEach [] env := by intro _; rfl) :
    JF S Γ (.Call (.Name "list" p) [.Call (.Name "range" p1) [a] [] p2] [] pos) δ PL := by
  refine ⟨fun X hX σ G H st ev Q k => ?_⟩
  have hk : ∀ x, HasG S.gl x → Gl X x := fun x hx => by show X.env.scope.names.lookup x = _; rw [hX.sc]; exact hX.so.gl x hx.mem
  refine PEw (pe_listRg (hX.calm Calm.hx) (hk _ hg) (by rw [hX.mg]; exact hm) (prg_1 (hk _ hg2) (by rw [hX.mg]; exact hm2) wE_pe (n1 _)) (n2 _)) ?_
  refine h.run X hX σ G H st ev _ fun v G1 H1 d s1 r1 h1 => ?_
  obtain ⟨n, rfl, ok, p⟩ := h1
  unfold Rep at r1
  refine ⟨n, r1, ok, fun y hy => ?_⟩
  rw [rgV_D]
  exact k y _ G1 _ _ (s1.trans (.newM s1.sub hy)) (s1.free hy) (s1.sub.free hy) upd_same .ofInts p
theorem jf_rg2 [Calm Γ] {p p1 p2 : Pos} (hg : HasG S.gl "list") (hm : Γ.mg "list" = none) (hg2 : HasG S.gl "range") (hm2 : Γ.mg "range" = none) (h : JE S Γ a δ fun d => JE S Γ b δ fun d' => ∃ m n, d = .int m ∧ d' = .int n ∧ RgOk m n ∧ PL ((rgD m n).map D.int))
    (n1 : ∀ env, starEach [a, b] env = (false, eval a env) :: starEach [b] env := by intro _; rfl) (n3 : ∀ env, starEach [b] env = (false, eval b env) :: starEach [] env := by intro _; rfl) (n4 : ∀ env, (backTo p2 (starEach [b] env)).any (·.1) = false := by intro _; rfl)
    (n2 : ∀ env, starEach [.Call (.Name "range" p1) [a, b] [] p2] env = (false, eval (.Call (.Name "range" p1) [a, b] [] p2) env) :: starEach [] env := by intro _; rfl) :
    JF S Γ (.Call (.Name "list" p) [.Call (.Name "range" p1) [a, b] [] p2] [] pos) δ PL := by
  refine ⟨fun X hX σ G H st ev Q k => ?_⟩
  have hk : ∀ x, HasG S.gl x → Gl X x := fun x hx => by show X.env.scope.names.lookup x = _; rw [hX.sc]; exact hX.so.gl x hx.mem
  refine PEw (pe_listRg (hX.calm Calm.hx) (hk _ hg) (by rw [hX.mg]; exact hm) (prg_2 (hk _ hg2) (by rw [hX.mg]; exact hm2) wE_pe wE_pe (n1 _) (n3 _) (n4 _)) (n2 _)) ?_
  refine h.run X hX σ G H st ev _ fun v G1 H1 d s1 r1 h1 => ?_
  refine h1.run X hX σ G1 H1 (st.trans s1) (ev.mono s1) _ fun u G2 H2 d' s2 r2 h2 => ?_
  obtain ⟨m, n, rfl, rfl, ok, p⟩ := h2
  unfold Rep at r1 r2
  refine ⟨m, n, r1, r2, ok, fun y hy => ?_⟩
  rw [rgV_D]
  have s12 := s1.trans s2
  exact k y _ G2 _ _ (s12.trans (.newM s2.sub hy)) (s12.free hy) (s2.sub.free hy) upd_same .ofInts p
end
end Z
set_option Elab.async false
set_option linter.all false
set_option maxRecDepth 100000
set_option maxHeartbeats 4000000
/-! Z13: items stored into a list of one's own, pop, deep ==, isinstance of own classes, tuple(list). -/
namespace Z
open PySem L2
variable [tabsI : TabsT]
section
variable {S : Scp} {Γ : Cg} {δ : List Sl} {P : D → Prop} {PB : Bool → Prop} {PL : List D → Prop} {K : Kp} {N B C' : List Sl → Prop} {R : D → Prop} {a b c e o : Expr} {es rest : List Expr} {pos : Pos}
/-! deep == -/
mutual
def plnD : D → Bool
  | .non => true | .bl _ => true | .int _ => true | .str _ => true
  | .tup ds => plnL ds | .lst ds => plnL ds
  | _ => false
def plnL : List D → Bool
  | [] => true
  | d :: ds => plnD d && plnL ds
end
mutual
def pyD : D → PyData
  | .non => .none | .bl b => .bool b | .int i => .int i | .str x => .str x
  | .tup ds => .tuple (pyL ds) | .lst ds => .list (pyL ds)
  | _ => .none
def pyL : List D → List PyData
  | [] => []
  | d :: ds => pyD d :: pyL ds
end
mutual
theorem dp_rep {KK : PySem.W.Frag} {G H : Hp} (e : Same G H) : ∀ {d : D} {v : V}, plnD d = true → Rep KK G H d v → L2.Dp KK H v (pyD d)
  | .non, v, _, h => by unfold Rep at h; subst h; exact .non
  | .bl b, v, _, h => by unfold Rep at h; subst h; exact .bl b
  | .int b, v, _, h => by unfold Rep at h; subst h; exact .int b
  | .str b, v, _, h => by unfold Rep at h; subst h; exact .str b
  | .tup ds, v, f, h => by
    unfold Rep at h
    unfold plnD at f
    obtain ⟨p, vs, rfl, h1, h2⟩ := h
    exact .tup (Same.tup e h1) (dp_repL e f h2)
  | .lst ds, v, f, h => by
    unfold Rep at h
    unfold plnD at f
    obtain ⟨p, vs, rfl, h1, h2⟩ := h
    exact .lst (.inl (.inl (e _ _ h1))) (dp_repL e f h2)
  | .obj _ _ _, _, f, _ => by cases f
  | .cls _, _, f, _ => by cases f
  | .ty _, _, f, _ => by cases f
  | .sto _, _, f, _ => by cases f
  | .scr _, _, f, _ => by cases f
theorem dp_repL {KK : PySem.W.Frag} {G H : Hp} (e : Same G H) : ∀ {ds : List D} {vs : List V}, plnL ds = true → RepL KK G H ds vs → L2.DpAll KK H vs (pyL ds)
  | [], vs, _, h => by unfold RepL at h; subst h; exact .nil
  | d :: ds, vs, f, h => by
    unfold RepL at h
    unfold plnL at f
    rw [Bool.and_eq_true] at f
    obtain ⟨v, r, rfl, h1, h2⟩ := h
    exact .cons (dp_rep e f.1 h1) (dp_repL e f.2 h2)
end
theorem od_eqD {x y : D} (h1 : plnD x = true) (h2 : plnD y = true) (s1 : SeqAt.shaped (pyD x) = true) (s2 : SeqAt.shaped (pyD y) = true) (h : P (.bl (PyData.eqv (pyD x) (pyD y)))) : OpD S Γ (compareOp .Eq) x y P := by
  refine ⟨fun X hX v u G H st r1 r2 Q k => ?_⟩
  exact OpRw (op_eqD (unH hX.roomH)) ⟨_, _, by rw [hX.K]; exact dp_rep st.sub h1 r1, by rw [hX.K]; exact dp_rep st.sub h2 r2, s1, s2, k _ G H _ (.refl st.sub) rep_bl h⟩
theorem od_neD {x y : D} (h1 : plnD x = true) (h2 : plnD y = true) (s1 : SeqAt.shaped (pyD x) = true) (s2 : SeqAt.shaped (pyD y) = true) (h : P (.bl (!PyData.eqv (pyD x) (pyD y)))) : OpD S Γ (compareOp .NotEq) x y P := by
  refine ⟨fun X hX v u G H st r1 r2 Q k => ?_⟩
  exact OpRw (op_neD (unH hX.roomH)) ⟨_, _, by rw [hX.K]; exact dp_rep st.sub h1 r1, by rw [hX.K]; exact dp_rep st.sub h2 r2, s1, s2, k _ G H _ (.refl st.sub) rep_bl h⟩
/-! tuple(xs) -/
theorem cd_tupL {ds : List D} (h : P (.tup ds)) : CallD S Γ (.type "tuple") [.lst ds] P := by
  refine ⟨fun X hX vs G H st r Q k => ?_⟩
  obtain ⟨v, rfl, r1⟩ := repL1 r
  unfold Rep at r1
  obtain ⟨p, ys, rfl, h1, h2⟩ := r1
  refine CallRw call_tuple_of ⟨p, ys, rfl, .inl ⟨.inl (.inl (st.sub _ _ h1)), fun l hl => ?_⟩⟩
  have s2 : Stp Γ.K G H (upd G l (.tup ys)) (upd H l (.tup ys)) := .new st.sub hl
  refine k _ _ _ (.tup ds) s2 ?_ h
  unfold Rep
  exact ⟨l, ys, rfl, .inl (.inl upd_same), h2.mono s2⟩
/-- isinstance(x, C), an instance of C -/
theorem cd_isO {C : Addr} {ns : List Str} {ds : List D} (hi : C8.InsC Γ.K C) (h : P (.bl true)) : CallD S Γ (.builtin "isinstance") [.obj C ns ds, .cls C] P := by
  refine ⟨fun X hX vs G H st r Q k => ?_⟩
  obtain ⟨v, u, rfl, r1, r2⟩ := repL2 r
  unfold Rep at r1 r2
  subst r2
  obtain ⟨p, dx, fs, rfl, h1, _⟩ := r1
  exact CallRw (C8.call_isC (by rw [hX.K]; exact hi)) ⟨p, dx, fs, rfl, st.sub _ _ h1, k _ G H _ (.refl st.sub) rep_bl h⟩
end
end Z
set_option Elab.async false
set_option linter.all false
set_option maxRecDepth 100000
set_option maxHeartbeats 4000000
/-! Z14: a list of one's own appended to another, returned, popped; zip, enumerate. -/
namespace Z
open PySem L2
variable [tabsI : TabsT]
section
variable {S : Scp} {Γ : Cg} {δ : List Sl} {P : D → Prop} {PB : Bool → Prop} {PL : List D → Prop} {K : Kp} {N B C' : List Sl → Prop} {R : D → Prop} {a b c e o : Expr} {es rest : List Expr} {pos : Pos} {PI' : Nat → (Nat → D) → Prop}
/-- x.append(y), y a list of one's own that will never change from here on -/
theorem zs_appendF {x y : Str} {i j : Nat} {ds us : List D} {p1 p2 p3 p4 : Pos} (hv : Has S.vs x i) (hw : Has S.vs y j) (hij : j ≠ i) (hδ : δ[i]? = some (.ow ds)) (hε : δ[j]? = some (.ow us)) (h : ds.length < sizeLine ∧ N ((δ.set j (.fz (.lst us))).set i (.ow (ds ++ [.lst us]))))
    (hd : (x == ("__debug__" : Str)) = false := by decide) (hcd : (x == ("__classdict__" : Str)) = false := by decide) (hd2 : (y == ("__debug__" : Str)) = false := by decide) (hcd2 : (y == ("__classdict__" : Str)) = false := by decide) (hline : (p2.endLine == p3.line) = true := by rfl) :
    JS S Γ (.Expr (.Call (.Attribute (.Name x p1) "append" p2) [.Name y p4] [] p3) pos) δ ⟨N, R, B, C'⟩ := by
  have hj : j < δ.length := atGet hε
  refine js_freeze j hε ?_
  refine js_append (ds := ds) hv.mem (by rw [List.getElem?_set_ne hij]; exact hδ) (je_name (d := .lst us) hw.mem (by rw [List.getElem?_set_self hj]) h hd2 hcd2) hd hcd (by intro _; rfl) hline (by intro _; rfl) (by intro _; rfl)
/-- return x, a list of one's own -/
theorem zs_retOw {x : Str} {i : Nat} {ds : List D} {p1 : Pos} (hv : Has S.vs x i) (hδ : δ[i]? = some (.ow ds)) (h : R (.lst ds)) (hd : (x == ("__debug__" : Str)) = false := by decide) (hcd : (x == ("__classdict__" : Str)) = false := by decide) : JS S Γ (.Return (some (.Name x p1)) pos) δ ⟨N, R, B, C'⟩ := by
  refine js_freeze i hδ (js_ret (je_name (d := .lst ds) hv.mem (by rw [List.getElem?_set_self (atGet hδ)]) h hd hcd))
end
end Z
set_option Elab.async false
set_option linter.all false
set_option maxRecDepth 100000
set_option maxHeartbeats 4000000
/-! Z15: methods, properties and __init__ of a class keep their contracts: from the facts of the top. -/
namespace Z
open PySem L2
variable [tabsI : TabsT]
/-- a def of a class's body (no defaults): its facts -/
structure DefAt (K : PySem.W.Frag) (m qual : Str) (st : Stmt) (f : Addr) (fd : FuncData) : Prop where
  fn : FunD K m qual (defArgs st) (defBody st) (defScope st) [] [] f fd
theorem defAt {K : PySem.W.Frag} {m qual : Str} {st : Stmt} {f : Addr} {oc kV dc pm cd ct : Value} {od an : Option Addr} {sl : Array (Option Value)}
    (l : K.lookup f = some ⟨oc, od, .func (PySem.W.fnOf m qual (defArgs st) (defBody st) (defScope st) .none kV dc pm an cd ct), sl⟩) (c : PySem.W.codeIn K cd qual = true) (k : PySem.W.keepIn K (.ref f) = true) : ∃ fd, DefAt K m qual st f fd :=
  ⟨_, ⟨⟨oc, od, .none, kV, dc, pm, an, cd, ct, sl, rfl, l, c, .inl ⟨rfl, rfl⟩, .inl rfl⟩, k⟩⟩
section
variable {U : Env1} {m qual : Str} {st : Stmt} {S : Scp} {ps : List Str} {n : Nat} {f C : Addr} {fd : FuncData}
theorem fn_okM {c : Ct} (F : DefAt U.K m qual st f fd) (so : S.Ok) (sc : S.sc = defScope st) (fs : FnScope S.N ps (defScope st)) (hn : ps.length = n) (hN : n ≤ S.N.length) (len : ∀ ds P E, c ds P E → ds.length = n)
    (body : ∀ (G H : Hp) ds P E, c ds P E → JSs S (U.cg G H fun _ => E) (defBody st) (startD S.N ds) { nx := fun _ => P .non, rt := P }) : FnOk U.P U.w U.K U.mg U.base (L2N.CX U.P U.w) (S.lv + 1) f fd ps (spC U.K c) := by
  refine F.fn.ok fs (fun vs H Q E h => ?_) (fun cdv A outer s H vs Q E hr h => ?_)
  · obtain ⟨G, ds, _, _, r, h⟩ := h
    rw [r.length, len _ _ _ h, hn]
  · obtain ⟨G, ds, e, tb, r, h⟩ := h
    have hl := len _ _ _ h
    refine ⟨_, wSs_pss, (body G H ds _ _ h).run _ ⟨so, rfl, rfl, rfl, rfl, rfl, rfl, sc.symm, fun _ => rfl, fun _ => hr, L2H.roomH_of hr, (fun _ z => by cases z), fun _ _ => .inl rfl, fun _ => ⟨rfl, rfl, rfl, passes_of rfl⟩, ?_, tb, (fun _ _ _ z => by cases z)⟩ _ G H _ (.refl e) (EnvOk.start r _ (by omega)) ⟨?_, ?_, ?_, ?_, fun _ _ _ _ _ _ _ _ _ q => q.elim⟩⟩
    · refine L2N.Takes.imp (L2N.takes_of rfl rfl rfl rfl) ?_
      rintro cls d σ' H' ⟨G', δ', ns, es, s', ev', x', q⟩
      exact q d G' H' s' x'
    · exact fun σ' G' H' δ' s' _ _ q => q .non G' H' s' rep_non
    · exact fun _ _ _ _ _ _ _ q => q.elim
    · exact fun _ _ _ _ _ _ _ q => q.elim
    · exact fun v G' H' d s' r' q => q v G' H' s' r'
theorem meth_ok {c : Ct} (F : DefAt U.K m qual st f fd) (hM : Meth U.K C m f) (so : S.Ok) (sc : S.sc = defScope st) (fs : FnScope S.N ps (defScope st)) (hn : ps.length = n) (hN : n ≤ S.N.length) (hb : Binds U.K fd ps []) (len : ∀ ds P E, c ds P E → ds.length = n)
    (mono : ∀ ds (P P' : D → Prop) (E E' : Value → List Str → List D → Prop), (∀ d, P d → P' d) → (∀ v ns es, E v ns es → E' v ns es) → c ds P E → c ds P' E')
    (body : ∀ (G H : Hp) ds P E, c ds P E → JSs S (U.cg G H fun _ => E) (defBody st) (startD S.N ds) { nx := fun _ => P .non, rt := P }) : MethOk U.P U.w U.K U.mg U.base C m (S.lv + 1) c :=
  ⟨mono, f, fd, ps, fn_okM F so sc fs hn hN len body, hM, hb⟩
theorem prop_ok {c : Ct} {p : Addr} (F : DefAt U.K m qual st f fd) (hM : PropOf U.K C m p f) (so : S.Ok) (sc : S.sc = defScope st) (fs : FnScope S.N ps (defScope st)) (hn : ps.length = n) (hN : n ≤ S.N.length) (hb : Binds U.K fd ps []) (len : ∀ ds P E, c ds P E → ds.length = n)
    (mono : ∀ ds (P P' : D → Prop) (E E' : Value → List Str → List D → Prop), (∀ d, P d → P' d) → (∀ v ns es, E v ns es → E' v ns es) → c ds P E → c ds P' E')
    (body : ∀ (G H : Hp) ds P E, c ds P E → JSs S (U.cg G H fun _ => E) (defBody st) (startD S.N ds) { nx := fun _ => P .non, rt := P }) : PropOk U.P U.w U.K U.mg U.base C m (S.lv + 1) c :=
  ⟨mono, p, f, fd, ps, fn_okM F so sc fs hn hN len body, hM, hb⟩
/-- the frame of __init__ at its start -/
def startI (C p : Addr) (N : List Str) (ds : List D) : List Sl := .ob C p [] [] :: (ds.map Sl.fz ++ List.replicate (N.length - (ds.length + 1)) Sl.no)
theorem EnvOk.startI {KK : PySem.W.Frag} {G H0 : Hp} {C x dx : Addr} {ds : List D} {vs : List V} (e : Same G H0) (hx : H0 x = none) (r : RepL KK G H0 ds vs) (N : List Str) (hN : ds.length + 1 ≤ N.length) :
    EnvOk KK G (upd H0 x (.ins C dx [])) H0 (L2.start N (.ref x :: vs)) (Z.startI C x N ds) := by
  have gx : G x = none := e.free hx
  have mo : Mo KK G H0 G (upd H0 x (.ins C dx [])) := (Stp.newM (K := KK) e hx).mo
  have t : EnvOk KK G (upd H0 x (.ins C dx [])) H0 (L2.start (N.drop 1) vs) (startD (N.drop 1) ds) := EnvOk.start (r.mo mo) _ (by simp; omega)
  have e1 : L2.start N (.ref x :: vs) = some (.ref x) :: L2.start (N.drop 1) vs := by
    unfold L2.start
    rw [List.map_cons, List.cons_append, List.length_drop, List.length_cons, show N.length - (vs.length + 1) = N.length - 1 - vs.length by omega]
  have e2 : Z.startI C x N ds = .ob C x [] [] :: startD (N.drop 1) ds := by
    unfold Z.startI startD
    rw [List.length_drop, show N.length - (ds.length + 1) = N.length - 1 - ds.length by omega]
  rw [e1, e2]
  obtain ⟨F, f, dj⟩ := t.fp
  refine ⟨by rw [List.length_cons, List.length_cons, t.len], fun i => match i with | 0 => [x] | i + 1 => [], fun i => ?_, fun i j n a ha => ?_⟩
  · cases i with
    | zero => exact ⟨dx, [], rfl, rfl, upd_same, gx, hx, rfl, .nil⟩
    | succ i =>
      have q := f i
      show SlF KK G _ H0 (((startD (N.drop 1) ds)[i]?).getD .no) (L2.start (N.drop 1) vs)[i]? []
      have w : ∀ s, s ∈ startD (N.drop 1) ds → s = .no ∨ ∃ d, s = .fz d := by
        intro s hs
        rcases List.mem_append.mp hs with z | z
        · obtain ⟨d, _, z⟩ := List.mem_map.mp z
          exact .inr ⟨d, z.symm⟩
        · exact .inl (List.eq_of_mem_replicate z)
      cases e : (startD (N.drop 1) ds)[i]? with
      | none => rfl
      | some s =>
        rw [e] at q
        rcases w s (List.mem_of_getElem? e) with z | ⟨d, z⟩
        · subst z; rfl
        · subst z; exact ⟨rfl, q.2⟩
  · cases i with
    | zero =>
      cases j with
      | zero => exact absurd rfl n
      | succ j => exact fun z => by cases z
    | succ i => cases ha
theorem make_ok {x : Str} {c : CtI} (F : DefAt U.K m qual st f fd) (hM : Mk U.K C f) (hg : U.mg x = some (.ref C)) (so : S.Ok) (sc : S.sc = defScope st) (fs : FnScope S.N ps (defScope st)) (hn : ps.length = n + 1) (hN : n + 1 ≤ S.N.length) (hb : Binds U.K fd ps []) (len : ∀ ds P E, c ds P E → ds.length = n)
    (mono : ∀ ds (P P' : List Str → List D → Prop) (E E' : Value → List Str → List D → Prop), (∀ ns es, P ns es → P' ns es) → (∀ v ns es, E v ns es → E' v ns es) → c ds P E → c ds P' E')
    (body : ∀ (G H : Hp) p ds P E, c ds P E → JSs S (U.cg G H fun _ => E) (defBody st) (startI C p S.N ds) { nx := fun δ' => ∃ ns es r, δ' = .ob C p ns es :: r ∧ P ns es, rt := fun _ => False }) : MakeOk U.P U.w U.K U.mg U.base x C (S.lv + 1) c := by
  refine ⟨mono, f, fd, ps, ?_, hM, hg, hb⟩
  refine F.fn.ok fs (fun vs H Q E h => ?_) (fun cdv A outer s H vs Q E hr h => ?_)
  · obtain ⟨G, H0, ds, y, dx, us, rfl, _, _, _, _, r, h⟩ := h
    rw [List.length_cons, r.length, len _ _ _ h, hn]
  · obtain ⟨G, H0, ds, y, dx, us, rfl, rfl, hy, e, tb, r, h⟩ := h
    have hl := len _ _ _ h
    have st0 : Stp U.K G H0 G (upd H0 y (.ins C dx [])) := .newM e hy
    refine ⟨_, wSs_pss, (body G H0 y ds _ _ h).run _ ⟨so, rfl, rfl, rfl, rfl, rfl, rfl, sc.symm, fun _ => rfl, fun _ => hr, L2H.roomH_of hr, (fun _ z => by cases z), fun _ _ => .inl rfl, fun _ => ⟨rfl, rfl, rfl, passes_of rfl⟩, ?_, tb, (fun _ _ _ z => by cases z)⟩ _ G _ _ st0 (EnvOk.startI e hy r _ (by omega)) ⟨?_, ?_, ?_, ?_, fun _ _ _ _ _ _ _ _ _ q => q.elim⟩⟩
    · refine L2N.Takes.imp (L2N.takes_of rfl rfl rfl rfl) ?_
      rintro cls d σ' H' ⟨G', δ', ns, es, s', ev', x', q⟩
      exact q d G' H' s' x'
    · rintro σ' G' H' δ' s' _ ev ⟨ns, es, r', rfl, q⟩
      obtain ⟨dx', fs', ep, hp, g, h0, hn', rr⟩ := ev.at_ 0 _ rfl
      exact q G' H' dx' fs' s' g hp hn' rr
    · exact fun _ _ _ _ _ _ _ q => q.elim
    · exact fun _ _ _ _ _ _ _ q => q.elim
    · exact fun v G' H' d s' r' q => q.elim
end
end Z
set_option Elab.async false
set_option linter.all false
set_option maxRecDepth 100000
set_option maxHeartbeats 4000000
/-! Z16: slices of tuples. -/
namespace Z
open PySem L2
variable [tabsI : TabsT]
section
variable {S : Scp} {Γ : Cg} {δ : List Sl} {P : D → Prop} {e : Expr} {pos : Pos}
theorem zb_tuple {p : Pos} {es : List Expr} (hg : HasG S.gl "tuple") (hm : Γ.mg "tuple" = none) (h : JA S Γ (e :: es) δ fun ds => CallD S Γ (.type "tuple") ds P) (he : ∀ env, starEach (e :: es) env = (false, eval e env) :: starEach es env := by intro _; rfl) (hpl : ∀ env, (backTo pos (starEach es env)).any (·.1) = false := by intro _; rfl) :
    JE S Γ (.Call (.Name "tuple" p) (e :: es) [] pos) δ P := je_callTy hg.mem hm cb_tuple h (by decide) (by decide) he hpl
theorem flat_int {is : List Int} : flatL (is.map D.int) := by
  induction is with
  | nil => exact trivial
  | cons i is ih => exact ⟨trivial, ih⟩
theorem flat_tup {is : List Int} : flatD (.tup (is.map D.int)) := by unfold flatD; exact flat_int
end
end Z
set_option Elab.async false
set_option linter.all false
set_option maxRecDepth 100000
set_option maxHeartbeats 4000000
/-! Z17: enumerate over a tuple. -/
namespace Z
open PySem L2
variable [tabsI : TabsT]
theorem drawsT {prog : Program} {w : World} {A : Around} (hh : A.handled = none) {it t : Addr} {items : Array Value} (hne : t ≠ it) :
    Draws prog w A it [it, t] items.size (fun i v => items[i]? = some v) (fun i h => h.IsTupleIter it t i ∧ h.IsTuple t items) where
  live := fun i h q => by
    obtain ⟨⟨o, ho, _⟩, _⟩ := q
    exact ⟨o, ho⟩
  frame := fun i h h' q k => ⟨q.1.at fun o z => k it (by simp) o z, q.2.at fun o z => k t (by simp) o z⟩
  item := fun i s Q E hi q hQ => by
    have e : items[i]? = some items[i] := by simp [hi]
    exact RZ.nextOf_tuple_item q.1 q.2 e fun h' a' sb => hQ _ h' s.toks e ⟨a', q.2.at fun o z => (sb.2 t hne).trans z⟩ sb
  done := fun s Q E q hQ => RZ.nextOf_tuple_end hh q.1 q.2 (by simp) fun h' e eb x => hQ h' e eb x
set_option maxHeartbeats 8000000 in
theorem meets_enumT (l : Addr) (items : Array Value) (n : Nat) (dct : Option Addr) (sl : Array (Option Value)) :
    Meets (Builtin.«enumerate.__new__» ⟨[.type "enumerate", .ref l], []⟩) (fun _ R s => s.heap.get? l = some { cls := .type "tuple", dict := dct, data := .seq items n, slots := sl } ∧
      R (.ok (.ret (.ref (s.heap.push { cls := .type "tuple_iterator", data := .fields #[.ref l, .int 0 0] }).objs.size)))
        { s with heap := (s.heap.push { cls := .type "tuple_iterator", data := .fields #[.ref l, .int 0 0] }).push { cls := .type "enumerate", data := .fields #[.none, .bool false, .ref s.heap.objs.size, rawInt 0, .none, .none] } }) :=
  .of_wp fun prog w A R s h => by
    obtain ⟨hp, g, d, tk, os⟩ := s
    obtain ⟨hl, h⟩ := h
    have hsub := sub_enumerate
    have hT : Heap.IsTuple (Shared.heap ⟨hp, g, d, tk, os⟩) l items := ⟨_, hl, rfl, n, rfl⟩
    wp_walk using AutoSeq1.wpAny_loadPart' hl
    refine wpAny_stack_any fun st => wpAny_pure ?_
    split
    · rename_i c _ _ _ _ _
      cases (c == Value.type "enumerate")
      · wp_walk using AutoSeq1.wpAny_loadPart' hl, wpAny_pyIter_tuple hT
        exact ⟨_, rfl, h⟩
      · wp_walk using AutoSeq1.wpAny_loadPart' hl, wpAny_pyIter_tuple hT
        exact ⟨_, rfl, h⟩
    · wp_walk using AutoSeq1.wpAny_loadPart' hl, wpAny_pyIter_tuple hT
      exact ⟨_, rfl, h⟩
theorem call_enumT {prog : Program} {w : World} {A : Around} {E : Value → Shared → Prop} {s : Shared} {l : Addr} {items : Array Value} {Q : Value → Shared → Prop} (hL : s.heap.IsTuple l items)
    (h : ∀ h', IsEnum h' (s.heap.objs.size + 1) s.heap.objs.size 0 .none → h'.IsTupleIter s.heap.objs.size l 0 → (∀ b o, s.heap.get? b = some o → h'.get? b = some o) → Q (.ref (s.heap.objs.size + 1)) { s with heap := h' }) :
    wpAny (model prog w) A (call (.type "enumerate") [.ref l]) Q E s := by
  obtain ⟨⟨c, dct, dt, sl⟩, hl, hc, n, hd⟩ := hL
  replace hc : c = .type "tuple" := hc
  replace hd : dt = .seq items n := hd
  subst hc hd
  refine callType_new F.called_enumerate (by decide) (F.typeCall_enumerate_1 _) (F.newCall_enumerate_1 _) (fun obj => F.args_object_init_2 obj _) F.entry_enumerate_new
    (meets_enumT l items n dct sl) ⟨hl, ?_⟩
  have z1 : (s.heap.push { cls := .type "tuple_iterator", data := .fields #[.ref l, .int 0 0] }).objs.size = s.heap.objs.size + 1 := Heap.size_push ..
  show _ ∧ _
  rw [z1]
  have he : IsEnum ((s.heap.push { cls := .type "tuple_iterator", data := .fields #[.ref l, .int 0 0] }).push
      { cls := .type "enumerate", data := .fields #[.none, .bool false, .ref s.heap.objs.size, rawInt 0, .none, .none] }) (s.heap.objs.size + 1) s.heap.objs.size 0 .none := by
    have z2 := Heap.get?_push_size (s.heap.push { cls := .type "tuple_iterator", data := .fields #[.ref l, .int 0 0] })
      (o := { cls := .type "enumerate", data := .fields #[.none, .bool false, .ref s.heap.objs.size, rawInt 0, .none, .none] }) rfl
    rw [z1] at z2
    exact z2
  refine ⟨⟨_, he, rfl⟩, h _ he ⟨_, Heap.get?_push_of_some _ (Heap.get?_push_size _ rfl), rfl, rfl⟩ fun b o x => Heap.get?_push_of_some _ (Heap.get?_push_of_some _ x)⟩
/-- the tuple at a as it stands at each turn, each item in a new pair -/
def ItET (K : PySem.W.Frag) (a : Addr) : It :=
  ⟨fun i H => ∃ (xs : List V) (x : V), SqT K H a xs ∧ xs[i]? = some x, fun i H v H' => ∃ T x, v = .ref T ∧ H T = none ∧ H' = upd H T (.tup [.int (i : Nat), x]) ∧ ∀ xs, SqT K H a xs → xs[i]? = some x, fun i H => ∃ xs : List V, SqT K H a xs ∧ xs.length ≤ i⟩
theorem turn_enumT {P : Program} {w : World} {K : PySem.W.Frag} {elts : List Expr} {kk : Nat} {tpos : Pos} (a e it : Addr) (hae : a ≠ e) (hai : a ≠ it) (hne : e ≠ it) :
    Turn P w K (.Tuple elts kk tpos) (ItET K a) [e, it] e (fun i h => (∃ old, IsEnum h e it ((i : Nat) : Int) old) ∧ h.IsTupleIter it a i) where
  mem := by simp
  obj := fun i h st b hb => by
    obtain ⟨⟨old, he⟩, ⟨o, ho, hc, hd⟩⟩ := st
    rcases (show b = e ∨ b = it by simpa using hb) with z | z
    · rw [z]; exact ⟨_, he, fun v q => nomatch q⟩
    · rw [z]; exact ⟨o, ho, fun v q => by rw [hd] at q; cases q⟩
  keep := fun i h h' st k => by
    obtain ⟨⟨old, he⟩, hi⟩ := st
    exact ⟨⟨old, k e (by simp) _ he⟩, hi.at fun o q => k it (by simp) o q⟩
  item := by
    intro X hP hw hK hc i pins s σ H E I hf st hg
    subst hP hw hK
    obtain ⟨⟨old, he⟩, hit⟩ := st
    obtain ⟨xs, x, hq, hx⟩ := hg
    obtain ⟨its, rv, p, hz⟩ := I.tuple hq
    obtain ⟨u, hu, ru⟩ := rv.get hx
    have p' : s.heap.IsTuple a its.toArray := p
    have hel : e < s.heap.objs.size := Heap.lt_size he
    have hil : it < s.heap.objs.size := by obtain ⟨_, q, _⟩ := hit; exact Heap.lt_size q
    have hlt : i < its.toArray.size := by
      have := (List.getElem?_eq_some_iff.mp hu).1
      simpa using this
    refine wpAny_pyNext_enum_itemD (drawsT (prog := X.prog) (w := X.w) (A := X.A.in1) (items := its.toArray) (show X.A.in1.handled = none from I.ok.hd hc) hai) he ⟨hit, p'⟩ hlt hne (by simp [hne, Ne.symm hae]) fun x' h' tk hPx ho hst' hT hsz hk => ?_
    have ex : x' = u := by
      have : its.toArray[i]? = some u := by simpa using hu
      rw [this] at hPx
      exact (Option.some.inj hPx).symm
    subst ex
    refine ⟨_, rfl, wpAny_letOwnedTupleGo_enum (s := { s with heap := h', toks := tk + 1 }) ho fun h'' he' sb => ?_⟩
    have hT2 : h''.get? s.heap.objs.size = some { cls := .type "tuple", data := .seq #[.int i tk, x'] } := (sb.2 _ (Nat.ne_of_gt hel)).trans hT
    have new : ObjOk X.prog X.w (upd H s.heap.objs.size (.tup [.int (i : Nat), x])) h'' s.heap.objs.size (.tup [.int (i : Nat), x]) :=
      ⟨by show 2 ≤ sizeLine; decide, [.int i tk, x'], .cons ⟨_, rfl⟩ (.cons ru .nil), ⟨_, hT2, rfl, _, rfl⟩⟩
    have I1 : Inv X pins σ (upd H s.heap.objs.size (.tup [.int (i : Nat), x])) { s with heap := h'', toks := tk + 1 } :=
      I.turnedNew (ch := [e, it]) (fun b ob hb q => (sb.2 b (fun z => hb (by simp [z]))).trans (hk b ob (fun z => hb (by simp [z])) (fun z => hb (by simp [z])) q)) hf (Nat.le_refl _) new
    refine ⟨.ref s.heap.objs.size, _, I1, rfl, ⟨_, x, rfl, I.hok.fresh (Nat.le_refl _), rfl, fun ys hy => by rw [I.tuple_inj hy hq]; exact hx⟩, ⟨⟨x', ?_⟩, hst'.1.at fun o q => (sb.2 it (Ne.symm hne)).trans q⟩, fun b hb => ?_⟩
    · rw [show ((i + 1 : Nat) : Int) = (i : Int) + 1 by omega]
      exact he'
    · have hb' : b < s.heap.objs.size := by
        rcases (show b = e ∨ b = it by simpa using hb) with z | z
        · rw [z]; exact hel
        · rw [z]; exact hil
      rw [upd_ne (Nat.ne_of_lt hb')]
      exact (hf b hb).1
  done := by
    intro X hP hw hK hc i pins s σ H E I hf st hg
    subst hP hw hK
    obtain ⟨⟨old, he⟩, hit⟩ := st
    obtain ⟨xs, hq, hx⟩ := hg
    obtain ⟨its, rv, p, hz⟩ := I.tuple hq
    obtain ⟨f0, f1, f2, f3, f4, f5⟩ := hf it (by simp)
    have hl := rv.length
    have p' : s.heap.IsTuple a its.toArray := p
    have hT : s.TypeIs (.ref e) "enumerate" := ⟨_, he, rfl⟩
    unfold pyNext
    refine wpAny_bind (wpAny_attempt (wpAny_callSpecial?_slot (name := Str.ofString "__next__") hT F.slot_enumerate_next
      (wpAny_call_entry F.slot_enumerate_next hT F.entry_enumerate_next ?_ (F.args_enumerate_next_1 _))))
    show wpAny _ _ (field (.ref e) 2 >>= _) _ _ _
    refine wpAny_bind (wpAny_field he rfl (x := .ref it) rfl ?_)
    refine wpAny_bind (RZ.nextOf_tuple_end (I.ok.hd hc) hit p' (by simp; omega) fun h' x he' hx' => ?_)
    obtain ⟨o, ho, hcl⟩ := hx'
    refine wpAny_bind (wpAny_isInstance (T := "StopIteration") (b := true) ⟨o, ho, hcl⟩ isSubtype_stop ?_)
    exact wpAny_pure ⟨rfl, I.turned (t' := s.toks) (fun b o hb q => he' b o hb q) f0 f1 f3 f4 f5⟩
  self := fun A i s Q E st h => by
    obtain ⟨⟨_, he⟩, _⟩ := st
    exact wpAny_pyIter_enum he h
def iEnumT (K : PySem.W.Frag) (ta : TA) : TI := fun σ H R => ta σ H fun vs H1 => ∃ a xs, vs = [.ref a] ∧ SqT K H1 a xs ∧ R (ItET K a) H1
section
variable {S : Scp} {Γ : Cg} {δ : List Sl} {a : Expr} {pos : Pos} {PI' : Nat → (Nat → D) → Prop}
end
end Z
set_option Elab.async false
set_option linter.all false
set_option maxRecDepth 100000
set_option maxHeartbeats 4000000
/-! Z18: comprehensions of two clauses. -/
namespace Z
open PySem L2
variable [tabsI : TabsT]
/-- what stands still of a frame's slots -/
def dropOw (δ : List Sl) : List Sl := δ.map fun s => match s with | .fz d => .fz d | _ => .no
theorem EnvOk.dropMo {K : PySem.W.Frag} {G H G' H' H0 : Hp} {σ : St} {δ : List Sl} (h : EnvOk K G H H0 σ δ) (m : Mo K G H G' H') : EnvOk K G' H' H0 σ (dropOw δ) := by
  obtain ⟨F, f, dj⟩ := h.fp
  refine ⟨by simp [dropOw, h.len], fun _ => [], fun i => ?_, fun _ _ _ a ha => by cases ha⟩
  have w := f i
  unfold dropOw
  rw [List.getElem?_map]
  cases q : δ[i]? with
  | none => rfl
  | some s0 =>
    rw [q] at w
    cases s0 with
    | fz d =>
      obtain ⟨_, v, e1, r⟩ := w
      exact ⟨rfl, v, e1, r.mo m⟩
    | no => rfl
    | ow _ => rfl
    | ob _ _ _ _ => rfl
    | mt _ _ => rfl
section
variable {S : Scp} {Γ : Cg} {δ : List Sl} {P : D → Prop} {PL : List D → Prop} {tg tg1 : Expr} {pos : Pos}
theorem lc2_t {S' : Scp} {elt iter iter1 : Expr} {ifs ifs1 : List Expr} {scope : Scope} {own : List (Str × Nat)} (vs1 : List Nat) (B : BlkS S S' scope own)
    (h : JI S Γ tg iter δ fun n f => ∃ A : Nat → List D → Prop, A 0 [] ∧ (∀ i acc, i < n → A i acc → JGW S' Γ.inBlk (own.map (·.2)) tg (f i) (wipeD δ (own.map (·.2))) fun δ2 => JTs S' Γ.inBlk ifs δ2 fun t => if t = true then
      JI S' Γ.inBlk tg1 iter1 δ2 fun n1 f1 => ∃ A1 : Nat → List D → Prop, A1 0 acc ∧ (∀ j acc1, j < n1 → A1 j acc1 → JGW S' Γ.inBlk vs1 tg1 (f1 j) (wipeD (dropOw δ2) vs1) fun δ3 => JTs S' Γ.inBlk ifs1 δ3 fun t => if t = true then JE S' Γ.inBlk elt δ3 fun d => acc1.length < sizeLine ∧ A1 (j + 1) (acc1 ++ [d]) else A1 (j + 1) acc1) ∧ ∀ acc1, A1 n1 acc1 → A (i + 1) acc1
      else A (i + 1) acc) ∧ ∀ acc, A n acc → PL acc)
    {X : Cx} (hX : COk S Γ X) {σ : L2.St} {G H : Hp} (s : Stp Γ.K Γ.G0 Γ.H0 G H) (ev : EnvOk Γ.K G H Γ.H0 σ δ) {Q : VK} (k : ∀ p vs G' H' ds, Stp Γ.K G H G' H' → H p = none → G' p = none → H' p = some (.lst vs) → RepL Γ.K G' H' ds vs → PL ds → Q (.ref p) H') :
    tLc2 (wI X tg iter) (fun v σ H Q => ∀ s H0 C cl fp, wG (X.blk s H0 scope (compEnvC scope cl C X.env) fp) tg v σ H Q) (fun σ H Q => ∀ s H0 C cl fp, wTs (X.blk s H0 scope (compEnvC scope cl C X.env) fp) ifs σ H Q)
      (fun σ H R => ∀ s H0 C cl fp, wI (X.blk s H0 scope (compEnvC scope cl C X.env) fp) tg1 iter1 σ H R) (fun v σ H Q => ∀ s H0 C cl fp, wG (X.blk s H0 scope (compEnvC scope cl C X.env) fp) tg1 v σ H Q) (fun σ H Q => ∀ s H0 C cl fp, wTs (X.blk s H0 scope (compEnvC scope cl C X.env) fp) ifs1 σ H Q)
      (fun σ H Q => ∀ s H0 C cl fp, wE (X.blk s H0 scope (compEnvC scope cl C X.env) fp) elt σ H Q) (own.map (·.2)) vs1 σ H Q := by
  refine h.run X hX σ G H s ev _ fun J G1 H1 n f s1 it q => ?_
  obtain ⟨A, a0, turn, fin⟩ := q
  intro p hp
  have g1 : G1 p = none := s1.sub.free hp
  have h0 : H p = none := s1.free hp
  refine ⟨fun i m H' => m = n - i ∧ i ≤ n ∧ ∃ G' acc ds, Stp Γ.K G1 H1 G' H' ∧ G' p = none ∧ H' p = some (.lst acc) ∧ RepL Γ.K G' H' ds acc ∧ A i ds, ⟨n, by simp, Nat.zero_le _, G1, [], [], .newM s1.sub hp, g1, upd_same, .nil, a0⟩, ?_⟩
  rintro i m H' ⟨rfl, hi, G', acc, ds, s', g', hp', r', ai⟩
  have st' := (s.trans s1).trans s'
  by_cases hlt : i < n
  · refine .inr ⟨it.go i G' H' s'.sub s'.mo hlt, fun H2 => ∃ G2 acc2 ds2, Stp Γ.K G1 H1 G2 H2 ∧ G2 p = none ∧ H2 p = some (.lst acc2) ∧ RepL Γ.K G2 H2 ds2 acc2 ∧ A (i + 1) ds2, fun H2 h2 => ⟨n - (i + 1), by omega, rfl, hlt, h2⟩, fun x H2 y => ?_⟩
    obtain ⟨G2, s2, rx⟩ := it.yld i G' H' x H2 s'.sub s'.mo hlt y
    intro s0 H0 C cl fp
    refine (turn i ds hlt ai).run _ (COk.blk B hX s0 H0 C cl fp) x _ G2 H2 (st'.trans s2) ((((ev.mono s1).mono s').mono s2).wipe _) rx _ fun σ3 G3 H3 δ3 w3 s3 ev3 q3 => ?_
    refine ⟨?_, ?_⟩
    · rw [w3]
      exact wipe_wipe fun _ z => z
    intro s0 H0 C cl fp pins s00 I
    refine q3.run _ (COk.blk B hX s0 H0 C cl fp) σ3 G3 H3 ((st'.trans s2).trans s3) ev3 pins s00 I _ fun t G4 H4 s4 q4 => ?_
    have s24 := (s2.trans s3).trans s4
    have own4 := s24.own p _ hp' g'
    have hp4 : H4 p = some (.lst acc) := own4.2.elim id fun z => z.1.elim
    cases t with
    | false => exact L2.iteF ⟨G4, acc, ds, s'.trans s24, own4.1, hp4, r'.mono s24, q4⟩
    | true =>
      refine L2.iteT ?_
      have ev4 := ev3.mono s4
      intro s0 H0 C cl fp
      refine (show JI _ _ _ _ _ _ from q4).run _ (COk.blk B hX s0 H0 C cl fp) σ3 G4 H4 (st'.trans s24) ev4 _ fun J1 G5 H5 n1 f1 s5 it1 q5 => ?_
      obtain ⟨A1, b0, turn1, fin1⟩ := q5
      have own5 := s5.own p _ hp4 own4.1
      have hp5 : H5 p = some (.lst acc) := own5.2.elim id fun z => z.1.elim
      have sA : Stp Γ.K G1 H1 G5 H5 := (s'.trans s24).trans s5
      refine ⟨fun j m H' => m = n1 - j ∧ j ≤ n1 ∧ ∃ G' acc ds, Stp Γ.K G1 H1 G' H' ∧ Mo Γ.K G5 H5 G' H' ∧ G' p = none ∧ H' p = some (.lst acc) ∧ RepL Γ.K G' H' ds acc ∧ A1 j ds, ⟨n1, by simp, Nat.zero_le _, G5, acc, ds, sA, .refl, own5.1, hp5, (r'.mono s24).mono s5, b0⟩, ?_⟩
      rintro j m H6 ⟨rfl, hj, G6, acc6, ds6, s6, m6, g6, hp6, r6, a6⟩
      by_cases hjl : j < n1
      · refine .inr ⟨it1.go j G6 H6 s6.sub m6 hjl, fun H2 => ∃ G2 acc2 ds2, Stp Γ.K G1 H1 G2 H2 ∧ Mo Γ.K G5 H5 G2 H2 ∧ G2 p = none ∧ H2 p = some (.lst acc2) ∧ RepL Γ.K G2 H2 ds2 acc2 ∧ A1 (j + 1) ds2, fun H2 h2 => ⟨n1 - (j + 1), by omega, rfl, hjl, h2⟩, fun x7 H7 y7 => ?_⟩
        obtain ⟨G7, s7, rx7⟩ := it1.yld j G6 H6 x7 H7 s6.sub m6 hjl y7
        have ev7 : EnvOk Γ.K G7 H7 Γ.H0 σ3 (dropOw δ3) := ev4.dropMo (s5.mo.trans (m6.trans s7.mo))
        intro s0 H0 C cl fp
        refine (turn1 j ds6 hjl a6).run _ (COk.blk B hX s0 H0 C cl fp) x7 _ G7 H7 (((s.trans s1).trans s6).trans s7) (ev7.wipe _) rx7 _ fun σ8 G8 H8 δ8 w8 s8 ev8 q8 => ?_
        refine ⟨?_, ?_⟩
        · rw [w8]
          exact wipe_wipe fun _ z => z
        intro s0 H0 C cl fp pins s01 I1
        refine q8.run _ (COk.blk B hX s0 H0 C cl fp) σ8 G8 H8 ((((s.trans s1).trans s6).trans s7).trans s8) ev8 pins s01 I1 _ fun t G9 H9 s9 q9 => ?_
        have s79 := (s7.trans s8).trans s9
        have own9 := s79.own p _ hp6 g6
        have hp9 : H9 p = some (.lst acc6) := own9.2.elim id fun z => z.1.elim
        cases t with
        | false => exact L2.iteF ⟨G9, acc6, ds6, s6.trans s79, m6.trans s79.mo, own9.1, hp9, r6.mono s79, q9⟩
        | true =>
          refine L2.iteT ?_
          intro s0 H0 C cl fp
          refine (show JE _ _ _ _ _ from q9).run _ (COk.blk B hX s0 H0 C cl fp) σ8 G9 H9 (((s.trans s1).trans s6).trans s79) (ev8.mono s9) _ fun y5 Ga Ha d5 sa r5 qa => ?_
          have owna := sa.own p _ hp9 own9.1
          have hpa : Ha p = some (.lst acc6) := owna.2.elim id fun z => z.1.elim
          have rr := (r6.mono s79).mono sa
          refine ⟨acc6, hpa, by rw [r6.length]; exact qa.1, Ga, acc6 ++ [y5], ds6 ++ [d5], ((s6.trans s79).trans sa).write (o := .lst acc6) owna.1 hp, ((m6.trans s79.mo).trans sa.mo).trans (.write hpa), owna.1, upd_same, ?_, qa.2⟩
          exact (rr.append (.one r5)).mo (.write hpa)
      · have e : j = n1 := by omega
        subst e
        exact .inl ⟨it1.stop G6 H6 s6.sub m6, G6, acc6, ds6, s6, g6, hp6, r6, fin1 ds6 a6⟩
  · have e : i = n := by omega
    subst e
    exact .inl ⟨it.stop G' H' s'.sub s'.mo, k p acc G' H' ds (s1.trans s') h0 g' hp' r' (fin ds ai)⟩
theorem jf_lc2 [Calm Γ] {S' : Scp} {elt iter iter1 : Expr} {ifs ifs1 : List Expr} {scope : Scope} {own : List (Str × Nat)} (vs1 : List Nat) (B : BlkS S S' scope own) (hv : (vs1.all fun i => (own.map (·.2)).contains i) = true)
    (h : JI S Γ tg iter δ fun n f => ∃ A : Nat → List D → Prop, A 0 [] ∧ (∀ i acc, i < n → A i acc → JGW S' Γ.inBlk (own.map (·.2)) tg (f i) (wipeD δ (own.map (·.2))) fun δ2 => JTs S' Γ.inBlk ifs δ2 fun t => if t = true then
      JI S' Γ.inBlk tg1 iter1 δ2 fun n1 f1 => ∃ A1 : Nat → List D → Prop, A1 0 acc ∧ (∀ j acc1, j < n1 → A1 j acc1 → JGW S' Γ.inBlk vs1 tg1 (f1 j) (wipeD (dropOw δ2) vs1) fun δ3 => JTs S' Γ.inBlk ifs1 δ3 fun t => if t = true then JE S' Γ.inBlk elt δ3 fun d => acc1.length < sizeLine ∧ A1 (j + 1) (acc1 ++ [d]) else A1 (j + 1) acc1) ∧ ∀ acc1, A1 n1 acc1 → A (i + 1) acc1
      else A (i + 1) acc) ∧ ∀ acc, A n acc → PL acc)
    (hs : ∀ env x, foldedSetIterable iter env x = pure x := by intros; rfl) (hs1 : ∀ env x, foldedSetIterable iter1 env x = pure x := by intros; rfl) : JF S Γ (.ListComp elt [⟨tg, iter, ifs, 0⟩, ⟨tg1, iter1, ifs1, 0⟩] scope pos) δ PL := by
  refine ⟨fun X hX σ G H s ev Q k => ?_⟩
  refine PEw (pe_lc2 (hX.calm Calm.hx) (by rw [hX.N]; exact hX.so.nd) (wI_pi (hX.calm Calm.hx)) (by rw [hX.N, hX.sc]; exact B.ok) (vs1 := vs1) ?_ ?_ ?_ ?_ ?_ ?_ ?_ (hs _) hs1) (lc2_t vs1 B h hX s ev k)
  · intro i hi
    have := List.all_eq_true.mp hv i hi
    simpa using this
  · exact fun s H C cl fp => ⟨fun pins s0 σ H0 v u Q I r q => q s H C cl fp pins s0 u I r⟩
  · exact fun s H C cl fp => ⟨fun pins s0 σ H0 Q I q => q s H C cl fp pins s0 I⟩
  · exact fun s H C cl fp => ⟨fun pins s0 σ H0 R I q => thn (q s H C cl fp pins s0 I) fun v s1 z => thn z fun u s2 y => y.1 (hX.calm Calm.hx)⟩
  · exact fun s H C cl fp => ⟨fun pins s0 σ H0 v u Q I r q => q s H C cl fp pins s0 u I r⟩
  · exact fun s H C cl fp => ⟨fun pins s0 σ H0 Q I q => q s H C cl fp pins s0 I⟩
  · exact fun s H C cl fp => ⟨fun pins s0 σ H0 Q I q => q s H C cl fp pins s0 I⟩
end
end Z
set_option Elab.async false
set_option linter.all false
set_option maxRecDepth 100000
set_option maxHeartbeats 4000000
/-! Z19: loops and comprehensions told by what is left (each..), by a function of the item (lc..). -/
namespace Z
open PySem L2
variable [tabsI : TabsT]
section
variable {S : Scp} {Γ : Cg} {δ : List Sl} {P Q : D → Prop} {PB PB' : Bool → Prop} {tg e : Expr} {ifs : List Expr} {vs : List Nat} {d : D}
theorem JE.imp (h : JE S Γ e δ P) (k : ∀ d, P d → Q d) : JE S Γ e δ Q := ⟨fun X hX σ G H s ev R r => h.run X hX σ G H s ev R fun v G' H' d s' rr p => r v G' H' d s' rr (k d p)⟩
theorem JTs.imp (h : JTs S Γ ifs δ PB) (k : ∀ b, PB b → PB' b) : JTs S Γ ifs δ PB' := ⟨fun X hX σ G H s ev pins s0 I R r => h.run X hX σ G H s ev pins s0 I R fun b G' H' s' p => r b G' H' s' (k b p)⟩
theorem JGW.imp {A B : List Sl → Prop} (h : JGW S Γ vs tg d δ A) (k : ∀ δ', A δ' → B δ') : JGW S Γ vs tg d δ B := ⟨fun X hX v σ G H s ev r R q => h.run X hX v σ G H s ev r R fun σ' G' H' δ' w s' ev' p => q σ' G' H' δ' w s' ev' (k δ' p)⟩
end
theorem atD_mapG {α : Type} {g : α → D} {xs : List α} {i : Nat} (h : i < xs.length) : atD (xs.map g) i = g xs[i] := by
  unfold atD
  rw [List.getElem?_map, List.getElem?_eq_getElem h]
  rfl
/-- the items of what is walked over: item i is g of the i-th of xs -/
structure Src {α : Type} (n : Nat) (f : Nat → D) (xs : List α) (g : α → D) : Prop where
  len : n = xs.length
  at_ : ∀ i (h : i < xs.length), f i = g xs[i]
section
variable {α : Type} {g : α → D} {xs : List α}
theorem src_map : Src (xs.map g).length (atD (xs.map g)) xs g := ⟨by simp, fun i h => atD_mapG h⟩
theorem src_ds {ds : List D} : Src ds.length (atD ds) ds id := ⟨rfl, fun i h => by unfold atD; rw [List.getElem?_eq_getElem h]; rfl⟩
theorem src_enum : Src (xs.map g).length (fun i => .tup [.int (i : Nat), atD (xs.map g) i]) xs.zipIdx fun x => .tup [.int (x.2 : Nat), g x.1] := ⟨by simp, fun i h => by
  have h' : i < xs.length := by simpa using h
  simp only [atD_mapG h', List.getElem_zipIdx, Nat.zero_add]⟩
theorem src_zip {β : Type} {g2 : β → D} {ys : List β} : Src (min (xs.map g).length (ys.map g2).length) (fun i => .tup [atD (xs.map g) i, atD (ys.map g2) i]) (xs.zip ys) fun x => .tup [g x.1, g2 x.2] := ⟨by simp, fun i h => by
  rw [List.length_zip] at h
  simp only [atD_mapG (show i < xs.length by omega), atD_mapG (show i < ys.length by omega), List.getElem_zip]⟩
theorem rgD_len {a b : Int} : (rgD a b).length = (b - a).toNat := by unfold rgD; simp
theorem rgD_get {a b : Int} {i : Nat} (h : i < (rgD a b).length) : (rgD a b)[i] = a + i := by
  have e : (rgD a b)[i]? = some (a + (i : Int)) := by
    have hl : i < (b - a).toNat := by rw [rgD_len] at h; exact h
    unfold rgD
    rw [List.getElem?_map, List.getElem?_range hl]
    rfl
  rw [List.getElem?_eq_getElem h] at e
  exact Option.some.inj e
theorem src_rg {a b : Int} : Src (b - a).toNat (fun i => .int (a + (i : Nat))) (rgD a b) D.int := ⟨rgD_len.symm, fun i h => by rw [rgD_get h]⟩
theorem src_rg1 {b : Int} : Src b.toNat (fun i => .int (0 + (i : Nat))) (rgD 0 b) D.int := ⟨by rw [rgD_len]; simp, fun i h => by rw [rgD_get h]⟩
end
section
variable {S S' : Scp} {Γ Γ' : Cg} {δ δ' : List Sl} {N B C : List Sl → Prop} {R : D → Prop} {PL : List D → Prop} {tg elt : Expr} {ifs : List Expr} {own : List Nat} {body : List Stmt} {α : Type} {xs : List α} {g : α → D} {n : Nat} {f : Nat → D}
/-- for: the invariant tells of what is left -/
theorem each (I : List α → List Sl → Prop) (sr : Src n f xs g) (h0 : I xs δ) (step : ∀ x rest δ', x ∈ xs → I (x :: rest) δ' → JG S Γ tg (g x) δ' fun δ2 => JSs S Γ body δ2 ⟨I rest, R, N, I rest⟩) (done : ∀ δ', I [] δ' → N δ') :
    ∃ I : Nat → List Sl → Prop, I 0 δ ∧ (∀ i, i < n → Turns S Γ tg body ⟨N, R, B, C⟩ I i (f i)) ∧ ∀ δ', I n δ' → N δ' := by
  refine ⟨fun i δ' => I (xs.drop i) δ', by simpa using h0, fun i hi => turns_of fun δ' h => ?_, fun δ' h => done δ' ?_⟩
  · rw [sr.len] at hi
    rw [sr.at_ i hi]
    have e : xs.drop i = xs[i] :: xs.drop (i + 1) := List.drop_eq_getElem_cons hi
    simp only [e] at h
    exact step _ _ δ' (List.getElem_mem _) h
  · have e : xs.drop n = [] := List.drop_eq_nil_of_le (by rw [sr.len]; exact Nat.le_refl _)
    simpa only [e] using h
/-- .. with what is done, too -/
theorem eachD (I : List α → List α → List Sl → Prop) (sr : Src n f xs g) (h0 : I [] xs δ) (step : ∀ d x rest δ', xs = d ++ x :: rest → I d (x :: rest) δ' → JG S Γ tg (g x) δ' fun δ2 => JSs S Γ body δ2 ⟨I (d ++ [x]) rest, R, N, I (d ++ [x]) rest⟩) (done : ∀ δ', I xs [] δ' → N δ') :
    ∃ I : Nat → List Sl → Prop, I 0 δ ∧ (∀ i, i < n → Turns S Γ tg body ⟨N, R, B, C⟩ I i (f i)) ∧ ∀ δ', I n δ' → N δ' := by
  refine ⟨fun i δ' => I (xs.take i) (xs.drop i) δ', by simpa using h0, fun i hi => turns_of fun δ' h => ?_, fun δ' h => done δ' ?_⟩
  · rw [sr.len] at hi
    rw [sr.at_ i hi]
    have e : xs.drop i = xs[i] :: xs.drop (i + 1) := List.drop_eq_getElem_cons hi
    have e2 : xs.take (i + 1) = xs.take i ++ [xs[i]] := by rw [List.take_add_one, List.getElem?_eq_getElem hi]; rfl
    simp only [e] at h
    simp only [e2]
    refine step _ _ _ δ' ?_ h
    rw [← e, List.take_append_drop]
  · have e : xs.drop n = [] := List.drop_eq_nil_of_le (by rw [sr.len]; exact Nat.le_refl _)
    have e2 : xs.take n = xs := List.take_of_length_le (by rw [sr.len]; exact Nat.le_refl _)
    simpa only [e, e2] using h
/-- a comprehension: item x gives F x (none: left out) -/
theorem lcF (F : α → Option D) (sr : Src n f xs g) (hl : xs.length ≤ 1000000)
    (step : ∀ x, x ∈ xs → JGW S' Γ' own tg (g x) δ' fun δ2 => JTs S' Γ' ifs δ2 fun t => if t = true then JE S' Γ' elt δ2 fun d => F x = some d else F x = none) (fin : PL (xs.filterMap F)) :
    ∃ A : Nat → List D → Prop, A 0 [] ∧ (∀ i acc, i < n → A i acc → JGW S' Γ' own tg (f i) δ' fun δ2 => JTs S' Γ' ifs δ2 fun t => if t = true then JE S' Γ' elt δ2 fun d => acc.length < sizeLine ∧ A (i + 1) (acc ++ [d]) else A (i + 1) acc) ∧ ∀ acc, A n acc → PL acc := by
  have hs : 1000000 < sizeLine := by decide
  refine ⟨fun i acc => acc = (xs.take i).filterMap F, by simp, fun i acc hi ha => ?_, fun acc ha => ?_⟩
  · rw [sr.len] at hi
    rw [sr.at_ i hi]
    have e2 : xs.take (i + 1) = xs.take i ++ [xs[i]] := by rw [List.take_add_one, List.getElem?_eq_getElem hi]; rfl
    refine (step _ (List.getElem_mem _)).imp fun δ2 h => h.imp fun b h => ?_
    cases b with
    | false =>
      have h : F xs[i] = none := by simpa using h
      refine L2.iteF ?_
      show acc = _
      rw [e2, List.filterMap_append, ha]
      simp [h]
    | true =>
      have h : JE S' Γ' elt δ2 fun d => F xs[i] = some d := by simpa using h
      refine L2.iteT (h.imp fun d hd => ⟨?_, ?_⟩)
      · have l1 := List.length_filterMap_le F (xs.take i)
        have l2 : (xs.take i).length ≤ xs.length := List.length_take_le' i xs
        rw [ha]
        omega
      · show acc ++ [d] = _
        rw [e2, List.filterMap_append, ha]
        simp [hd]
  · have e2 : xs.take n = xs := List.take_of_length_le (by rw [sr.len]; exact Nat.le_refl _)
    simp only [e2] at ha
    rw [ha]
    exact fin
/-- no item left out -/
theorem lcM (F : α → D) (sr : Src n f xs g) (hl : xs.length ≤ 1000000) (step : ∀ x, x ∈ xs → JGW S' Γ' own tg (g x) δ' fun δ2 => JE S' Γ' elt δ2 fun d => d = F x) (fin : PL (xs.map F)) :
    ∃ A : Nat → List D → Prop, A 0 [] ∧ (∀ i acc, i < n → A i acc → JGW S' Γ' own tg (f i) δ' fun δ2 => JTs S' Γ' [] δ2 fun t => if t = true then JE S' Γ' elt δ2 fun d => acc.length < sizeLine ∧ A (i + 1) (acc ++ [d]) else A (i + 1) acc) ∧ ∀ acc, A n acc → PL acc :=
  lcF (fun x => some (F x)) sr hl (fun x hx => (step x hx).imp fun δ2 h => jts_nil (L2.iteT (h.imp fun d e => by rw [e]))) (by rw [show xs.filterMap (fun x => some (F x)) = xs.map F by simp]; exact fin)
/-- two clauses: the item x of the first gives the row F x -/
theorem lc2F {tg1 iter1 : Expr} {ifs1 : List Expr} {vs1 : List Nat} (F : α → List D) (sr : Src n f xs g) (hl : (xs.flatMap F).length ≤ 1000000)
    (step : ∀ x, x ∈ xs → ∀ (acc : List D) (k : List D → Prop), acc.length + (F x).length ≤ 1000000 → k (acc ++ F x) → JGW S' Γ' own tg (g x) δ' fun δ2 => JTs S' Γ' ifs δ2 fun t => if t = true then
      JI S' Γ' tg1 iter1 δ2 fun n1 f1 => ∃ A1 : Nat → List D → Prop, A1 0 acc ∧ (∀ j acc1, j < n1 → A1 j acc1 → JGW S' Γ' vs1 tg1 (f1 j) (wipeD (dropOw δ2) vs1) fun δ3 => JTs S' Γ' ifs1 δ3 fun t => if t = true then JE S' Γ' elt δ3 fun d => acc1.length < sizeLine ∧ A1 (j + 1) (acc1 ++ [d]) else A1 (j + 1) acc1) ∧ ∀ acc1, A1 n1 acc1 → k acc1
      else k acc) (fin : PL (xs.flatMap F)) :
    ∃ A : Nat → List D → Prop, A 0 [] ∧ (∀ i acc, i < n → A i acc → JGW S' Γ' own tg (f i) δ' fun δ2 => JTs S' Γ' ifs δ2 fun t => if t = true then
      JI S' Γ' tg1 iter1 δ2 fun n1 f1 => ∃ A1 : Nat → List D → Prop, A1 0 acc ∧ (∀ j acc1, j < n1 → A1 j acc1 → JGW S' Γ' vs1 tg1 (f1 j) (wipeD (dropOw δ2) vs1) fun δ3 => JTs S' Γ' ifs1 δ3 fun t => if t = true then JE S' Γ' elt δ3 fun d => acc1.length < sizeLine ∧ A1 (j + 1) (acc1 ++ [d]) else A1 (j + 1) acc1) ∧ ∀ acc1, A1 n1 acc1 → A (i + 1) acc1
      else A (i + 1) acc) ∧ ∀ acc, A n acc → PL acc := by
  refine ⟨fun i acc => acc = (xs.take i).flatMap F, by simp, fun i acc hi ha => ?_, fun acc ha => ?_⟩
  · rw [sr.len] at hi
    rw [sr.at_ i hi]
    have e2 : xs.take (i + 1) = xs.take i ++ [xs[i]] := by rw [List.take_add_one, List.getElem?_eq_getElem hi]; rfl
    have e3 : (xs.take (i + 1)).flatMap F = acc ++ F xs[i] := by rw [e2, List.flatMap_append, ha]; simp
    refine step _ (List.getElem_mem _) acc (fun acc => acc = (xs.take (i + 1)).flatMap F) ?_ e3.symm
    have e4 : xs.flatMap F = (xs.take (i + 1)).flatMap F ++ (xs.drop (i + 1)).flatMap F := by rw [← List.flatMap_append, List.take_append_drop]
    rw [e4, e3] at hl
    simp at hl
    omega
  · have e2 : xs.take n = xs := List.take_of_length_le (by rw [sr.len]; exact Nat.le_refl _)
    simp only [e2] at ha
    rw [ha]
    exact fin
/-- the inner clause -/
theorem lcI {acc : List D} {k : List D → Prop} (F : α → Option D) (sr : Src n f xs g) (hl : acc.length + xs.length ≤ 1000000)
    (step : ∀ x, x ∈ xs → JGW S' Γ' own tg (g x) δ' fun δ2 => JTs S' Γ' ifs δ2 fun t => if t = true then JE S' Γ' elt δ2 fun d => F x = some d else F x = none) (fin : k (acc ++ xs.filterMap F)) :
    ∃ A : Nat → List D → Prop, A 0 acc ∧ (∀ i acc, i < n → A i acc → JGW S' Γ' own tg (f i) δ' fun δ2 => JTs S' Γ' ifs δ2 fun t => if t = true then JE S' Γ' elt δ2 fun d => acc.length < sizeLine ∧ A (i + 1) (acc ++ [d]) else A (i + 1) acc) ∧ ∀ acc, A n acc → k acc := by
  have hs : 1000000 < sizeLine := by decide
  refine ⟨fun i a => a = acc ++ (xs.take i).filterMap F, by simp, fun i a hi ha => ?_, fun a ha => ?_⟩
  · rw [sr.len] at hi
    rw [sr.at_ i hi]
    have e2 : xs.take (i + 1) = xs.take i ++ [xs[i]] := by rw [List.take_add_one, List.getElem?_eq_getElem hi]; rfl
    refine (step _ (List.getElem_mem _)).imp fun δ2 h => h.imp fun b h => ?_
    cases b with
    | false =>
      have h : F xs[i] = none := by simpa using h
      refine L2.iteF ?_
      show a = _
      rw [e2, List.filterMap_append, ha]
      simp [h]
    | true =>
      have h : JE S' Γ' elt δ2 fun d => F xs[i] = some d := by simpa using h
      refine L2.iteT (h.imp fun d hd => ⟨?_, ?_⟩)
      · have l1 := List.length_filterMap_le F (xs.take i)
        have l2 : (xs.take i).length ≤ i := List.length_take_le i xs
        rw [ha, List.length_append]
        omega
      · show a ++ [d] = _
        rw [e2, List.filterMap_append, ha]
        simp [hd]
  · have e2 : xs.take n = xs := List.take_of_length_le (by rw [sr.len]; exact Nat.le_refl _)
    simp only [e2] at ha
    rw [ha]
    exact fin
end
end Z
set_option Elab.async false
set_option linter.all false
set_option maxRecDepth 100000
set_option maxHeartbeats 4000000
/-! Z20: what is walked over, by its value: a list, a tuple, the script; enumerate and zip of them. -/
namespace Z
open PySem L2
variable [tabsI : TabsT]
section
variable {X : Cx} {tg : Expr}
def iAny (K : PySem.W.Frag) (tl : TE) : TI := fun σ H R => tl σ H fun x H1 => ∃ a, x = .ref a ∧ (((∃ xs, SqL K H1 a xs) ∧ R (Itl K a) H1) ∨ ((∃ xs, SqT K H1 a xs) ∧ R (Itt K a) H1))
theorem pi_any {l : Expr} {tl : TE} (hl : PE X l tl) : PI X tg l (iAny X.K tl) := by
  refine ⟨fun pins s σ H R I h => thn (hl.run pins s σ H _ I h) fun v s1 ⟨x, H1, I1, r1, q1⟩ => ?_⟩
  obtain ⟨a, rfl, q⟩ := q1
  cases r1
  have fp : ∀ b ∈ [s1.heap.objs.size], FpOk X pins H1 b := fun b hb => by
    obtain rfl : b = s1.heap.objs.size := by simpa using hb
    exact I1.fpOk (Nat.le_refl _) (I1.hok.fresh (Nat.le_refl _))
  rcases q with ⟨⟨xs, hq⟩, q⟩ | ⟨⟨xs, hq⟩, q⟩
  · obtain ⟨its, rv, p, hz⟩ := I1.list hq
    exact wpAny_pyIter_list p.isList ⟨s1.heap.objs.size, [s1.heap.objs.size], _, _, H1, rfl, I1.kept (t' := s1.toks) fun b o e => Heap.get?_push_of_some _ e, turn_list a _, ⟨_, Heap.get?_push_size _ rfl, rfl, rfl⟩, fp, q⟩
  · obtain ⟨its, rv, p, hz⟩ := I1.tuple hq
    exact wpAny_pyIter_tuple (show s1.heap.IsTuple a its.toArray from p) ⟨s1.heap.objs.size, [s1.heap.objs.size], _, _, H1, rfl, I1.kept (t' := s1.toks) fun b o e => Heap.get?_push_of_some _ e, turn_tuple a _, ⟨_, Heap.get?_push_size _ rfl, rfl, rfl⟩, fp, q⟩
def iEnumA (K : PySem.W.Frag) (ta : TA) : TI := fun σ H R => ta σ H fun vs H1 => ∃ a, vs = [.ref a] ∧ (((∃ xs, SqL K H1 a xs) ∧ R (Ite K a) H1) ∨ ((∃ xs, SqT K H1 a xs) ∧ R (ItET K a) H1))
open PySem.Spec PyProof.Rows in
theorem pi_enumA {e : Expr} {ta : TA} {p pos tpos : Pos} {elts : List Expr} {kk : Nat} (hg : Gl X "enumerate") (hm : X.mg "enumerate" = none) (ha : PA X [e] ta) (hs : starEach [e] X.env = [(false, eval e X.env)] := by rfl) :
    PI X (.Tuple elts kk tpos) (.Call (.Name "enumerate" p) [e] [] pos) (iEnumA X.K ta) := by
  refine ⟨fun pins s σ H R I h => ?_⟩
  refine Call_ (ld_blt I hg hm PyProof.Rows.boot_enumerate (PyProof.Rows.callWith_type1 (thn (ha.run pos pins s σ H _ I h) fun us s1 ⟨vs, H1, I1, r1, q1⟩ => ?_) hs rfl))
  obtain ⟨a, rfl, q⟩ := q1
  cases r1 with
  | cons r rr =>
    cases rr
    cases r
    have fp : ∀ b ∈ [s1.heap.objs.size + 1, s1.heap.objs.size], FpOk X pins H1 b := fun b hb => by
      have hle : s1.heap.objs.size ≤ b := by
        rcases (show b = s1.heap.objs.size + 1 ∨ b = s1.heap.objs.size by simpa using hb) with z | z
        · rw [z]; exact Nat.le_add_right _ _
        · rw [z]; exact Nat.le_refl _
      exact I1.fpOk hle (I1.hok.fresh hle)
    rcases q with ⟨⟨xs, hq⟩, q⟩ | ⟨⟨xs, hq⟩, q⟩
    · obtain ⟨its, rv, p', hz⟩ := I1.list hq
      exact call_enumerate_list p'.isList fun h' he hit hsz hk => wpAny_pyIter_enum he ⟨s1.heap.objs.size + 1, [s1.heap.objs.size + 1, s1.heap.objs.size], _, _, H1, rfl, I1.kept (t' := s1.toks) hk, turn_enum a (s1.heap.objs.size + 1) s1.heap.objs.size, ⟨⟨.none, he⟩, hit, Nat.succ_ne_self _⟩, fp, q⟩
    · obtain ⟨its, rv, p', hz⟩ := I1.tuple hq
      have p2 : s1.heap.IsTuple a its.toArray := p'
      have hal : a < s1.heap.objs.size := by obtain ⟨_, z, _⟩ := p2; exact Heap.lt_size z
      exact call_enumT p2 fun h' he hit hk => wpAny_pyIter_enum he ⟨s1.heap.objs.size + 1, [s1.heap.objs.size + 1, s1.heap.objs.size], _, _, H1, rfl, I1.kept (t' := s1.toks) hk, turn_enumT a (s1.heap.objs.size + 1) s1.heap.objs.size (Nat.ne_of_lt (Nat.lt_succ_of_lt hal)) (Nat.ne_of_lt hal) (Nat.succ_ne_self _), ⟨⟨.none, he⟩, hit⟩, fp, q⟩
end
section
variable {S : Scp} {Γ : Cg} {δ : List Sl} {P : D → Prop} {a b e tg : Expr} {pos : Pos} {PI' : Nat → (Nat → D) → Prop}
def seqD (PI' : Nat → (Nat → D) → Prop) : D → Prop
  | .lst ds => PI' ds.length (atD ds)
  | .tup ds => PI' ds.length (atD ds)
  | .scr ns => PI' ns.length (fun i => .int ((ns[i]?).getD 0))
  | _ => False
theorem seq_lst {ds : List D} (h : PI' ds.length (atD ds)) : seqD PI' (.lst ds) := h
theorem seq_tup {ds : List D} (h : PI' ds.length (atD ds)) : seqD PI' (.tup ds) := h
theorem seq_scr {ns : List Int} (h : PI' ns.length (fun i => .int ((ns[i]?).getD 0))) : seqD PI' (.scr ns) := h
theorem ji_seq [Calm Γ] (h : JE S Γ e δ (seqD PI')) : JI S Γ tg e δ PI' := by
  refine ⟨fun X hX σ G H s ev R k => ?_⟩
  refine PIw (hX.calm Calm.hx) (pi_any wE_pe) ?_
  refine h.run X hX σ G H s ev _ fun v G1 H1 d s1 r q => ?_
  cases d with
  | lst ds =>
    unfold Rep at r
    obtain ⟨p, vs, rfl, h1, h2⟩ := r
    have at_ : ∀ G' H', Same G' H' → Mo Γ.K G1 H1 G' H' → SqL X.K H' p vs := fun G' H' e m => .inl (.inl (e _ _ (m.exG _ _ h1)))
    refine ⟨p, rfl, .inl ⟨⟨vs, at_ _ _ s1.sub .refl⟩, k _ G1 H1 _ _ s1 ⟨?_, ?_, ?_⟩ q⟩⟩
    · intro i G' H' e m hi
      have l1 : i < vs.length := by rw [h2.length]; exact hi
      exact ⟨vs, _, at_ _ _ e m, List.getElem?_eq_getElem l1⟩
    · rintro i G' H' x H2 e m hi ⟨rfl, y1⟩
      obtain ⟨d, hd, rd⟩ := h2.back (y1 vs (at_ _ _ e m))
      rw [atD_get hi] at hd
      cases hd
      exact ⟨G', .refl e, rd.mo m⟩
    · intro G' H' e m
      exact ⟨vs, at_ _ _ e m, by rw [h2.length]; exact Nat.le_refl _⟩
  | tup ds =>
    unfold Rep at r
    obtain ⟨p, vs, rfl, h1, h2⟩ := r
    have at_ : ∀ G' H', Same G' H' → Mo Γ.K G1 H1 G' H' → SqT X.K H' p vs := fun G' H' e m => by rw [hX.K]; exact Same.tup e (Same.tup m.exG h1)
    refine ⟨p, rfl, .inr ⟨⟨vs, at_ _ _ s1.sub .refl⟩, k _ G1 H1 _ _ s1 ⟨?_, ?_, ?_⟩ q⟩⟩
    · intro i G' H' e m hi
      have l1 : i < vs.length := by rw [h2.length]; exact hi
      exact ⟨vs, _, at_ _ _ e m, List.getElem?_eq_getElem l1⟩
    · rintro i G' H' x H2 e m hi ⟨rfl, y1⟩
      obtain ⟨d, hd, rd⟩ := h2.back (y1 vs (at_ _ _ e m))
      rw [atD_get hi] at hd
      cases hd
      exact ⟨G', .refl e, rd.mo m⟩
    · intro G' H' e m
      exact ⟨vs, at_ _ _ e m, by rw [h2.length]; exact Nat.le_refl _⟩
  | scr ns =>
    unfold Rep at r
    obtain ⟨p, rfl, h1⟩ := r
    have at_ : ∀ G' H', Same G' H' → Mo Γ.K G1 H1 G' H' → SqL X.K H' p (ns.map V.int) := fun G' H' e m => by rw [hX.K]; exact Same.seq e (Same.seq m.exG h1)
    refine ⟨p, rfl, .inl ⟨⟨_, at_ _ _ s1.sub .refl⟩, k _ G1 H1 _ _ s1 ⟨?_, ?_, ?_⟩ q⟩⟩
    · intro i G' H' e m hi
      have l1 : i < (ns.map V.int).length := by rw [List.length_map]; exact hi
      exact ⟨_, _, at_ _ _ e m, List.getElem?_eq_getElem l1⟩
    · rintro i G' H' x H2 e m hi ⟨rfl, y⟩
      have hx := y _ (at_ _ _ e m)
      rw [List.getElem?_map, List.getElem?_eq_getElem hi] at hx
      cases hx
      refine ⟨G', .refl e, ?_⟩
      rw [List.getElem?_eq_getElem hi]
      exact rep_int
    · intro G' H' e m
      exact ⟨_, at_ _ _ e m, by rw [List.length_map]; exact Nat.le_refl _⟩
  | _ => exact q.elim
def enumD (PI' : Nat → (Nat → D) → Prop) : D → Prop
  | .lst ds => PI' ds.length (fun i => .tup [.int (i : Nat), atD ds i])
  | .tup ds => PI' ds.length (fun i => .tup [.int (i : Nat), atD ds i])
  | _ => False
theorem enum_lst {ds : List D} (h : PI' ds.length (fun i => .tup [.int (i : Nat), atD ds i])) : enumD PI' (.lst ds) := h
theorem enum_tup {ds : List D} (h : PI' ds.length (fun i => .tup [.int (i : Nat), atD ds i])) : enumD PI' (.tup ds) := h
theorem ji_enumA [Calm Γ] {elts : List Expr} {kk : Nat} {p tpos : Pos} (hg : HasG S.gl "enumerate") (hm : Γ.mg "enumerate" = none) (h : JE S Γ a δ (enumD PI')) (hs : ∀ env, starEach [a] env = [(false, eval a env)] := by intro _; rfl) : JI S Γ (.Tuple elts kk tpos) (.Call (.Name "enumerate" p) [a] [] pos) δ PI' := by
  refine ⟨fun X hX σ G H s ev R k => ?_⟩
  have hk : Gl X "enumerate" := by show X.env.scope.names.lookup _ = _; rw [hX.sc]; exact hX.so.gl _ hg.mem
  refine PIw (hX.calm Calm.hx) (pi_enumA hk (by rw [hX.mg]; exact hm) (pa_cons wE_pe pa_nil (hs _)) (hs _)) ?_
  refine h.run X hX σ G H s ev _ fun v G1 H1 d s1 r q => ?_
  cases d with
  | lst xs =>
    unfold Rep at r
    obtain ⟨p1, vs, rfl, h1, g1⟩ := r
    have a1 : ∀ G' H', Same G' H' → Mo Γ.K G1 H1 G' H' → SqL X.K H' p1 vs := fun G' H' e m => .inl (.inl (e _ _ (m.exG _ _ h1)))
    refine ⟨p1, rfl, .inl ⟨⟨vs, a1 _ _ s1.sub .refl⟩, k _ G1 H1 _ _ s1 ⟨?_, ?_, ?_⟩ q⟩⟩
    · intro i G' H' e m hi
      have l1 : i < vs.length := by rw [g1.length]; exact hi
      exact ⟨vs, _, a1 _ _ e m, List.getElem?_eq_getElem l1⟩
    · rintro i G' H' x H2 e m hi ⟨T, y, rfl, hT, rfl, y1⟩
      obtain ⟨d, hd, rd⟩ := g1.back (y1 vs (a1 _ _ e m))
      rw [atD_get hi] at hd
      cases hd
      have st : Stp Γ.K G' H' (upd G' T (.tup [.int (i : Nat), y])) (upd H' T (.tup [.int (i : Nat), y])) := .new e hT
      refine ⟨_, st, ?_⟩
      unfold Rep
      exact ⟨T, _, rfl, .inl (.inl upd_same), .cons rep_int (.cons ((rd.mo m).mono st) .nil)⟩
    · intro G' H' e m
      exact ⟨vs, a1 _ _ e m, by rw [g1.length]; exact Nat.le_refl _⟩
  | tup xs =>
    unfold Rep at r
    obtain ⟨p1, vs, rfl, h1, g1⟩ := r
    have a1 : ∀ G' H', Same G' H' → Mo Γ.K G1 H1 G' H' → SqT X.K H' p1 vs := fun G' H' e m => by rw [hX.K]; exact Same.tup e (Same.tup m.exG h1)
    refine ⟨p1, rfl, .inr ⟨⟨vs, a1 _ _ s1.sub .refl⟩, k _ G1 H1 _ _ s1 ⟨?_, ?_, ?_⟩ q⟩⟩
    · intro i G' H' e m hi
      have l1 : i < vs.length := by rw [g1.length]; exact hi
      exact ⟨vs, _, a1 _ _ e m, List.getElem?_eq_getElem l1⟩
    · rintro i G' H' x H2 e m hi ⟨T, y, rfl, hT, rfl, y1⟩
      obtain ⟨d, hd, rd⟩ := g1.back (y1 vs (a1 _ _ e m))
      rw [atD_get hi] at hd
      cases hd
      have st : Stp Γ.K G' H' (upd G' T (.tup [.int (i : Nat), y])) (upd H' T (.tup [.int (i : Nat), y])) := .new e hT
      refine ⟨_, st, ?_⟩
      unfold Rep
      exact ⟨T, _, rfl, .inl (.inl upd_same), .cons rep_int (.cons ((rd.mo m).mono st) .nil)⟩
    · intro G' H' e m
      exact ⟨vs, a1 _ _ e m, by rw [g1.length]; exact Nat.le_refl _⟩
  | _ => exact q.elim
def zipD (PI' : Nat → (Nat → D) → Prop) : List D → Prop
  | [.lst xs, .lst ys] => PI' (min xs.length ys.length) (fun i => .tup [atD xs i, atD ys i])
  | [.tup xs, .tup ys] => PI' (min xs.length ys.length) (fun i => .tup [atD xs i, atD ys i])
  | _ => False
theorem zip_tup {xs ys : List D} (h : PI' (min xs.length ys.length) (fun i => .tup [atD xs i, atD ys i])) : zipD PI' [.tup xs, .tup ys] := h
theorem ji_zipA [Calm Γ] {elts : List Expr} {kk : Nat} {p tpos : Pos} (hg : HasG S.gl "zip") (hm : Γ.mg "zip" = none) (h : JA S Γ [a, b] δ (zipD PI'))
    (hs : ∀ env, starEach [a, b] env = (false, eval a env) :: starEach [b] env := by intro _; rfl) (hpl : ∀ env, (backTo pos (starEach [b] env)).any (·.1) = false := by intro _; rfl) : JI S Γ (.Tuple elts kk tpos) (.Call (.Name "zip" p) [a, b] [] pos) δ PI' := by
  refine ⟨fun X hX σ G H s ev R k => ?_⟩
  have hk : Gl X "zip" := by show X.env.scope.names.lookup _ = _; rw [hX.sc]; exact hX.so.gl _ hg.mem
  refine PIw (hX.calm Calm.hx) (RZ.pi_zipA hk (by rw [hX.mg]; exact hm) wA_pa (hs _) (hpl _)) ?_
  refine h.run X hX σ G H s ev _ fun us G1 H1 ds s1 r q => ?_
  unfold zipD at q
  split at q
  · rename_i xs ys
    obtain ⟨v, u, rfl, r1, r2⟩ := repL2 r
    unfold Rep at r1 r2
    obtain ⟨p1, vs, rfl, h1, g1⟩ := r1
    obtain ⟨p2, ws, rfl, h2, g2⟩ := r2
    have a1 : ∀ G' H', Same G' H' → Mo Γ.K G1 H1 G' H' → SqL X.K H' p1 vs := fun G' H' e m => .inl (.inl (e _ _ (m.exG _ _ h1)))
    have a2 : ∀ G' H', Same G' H' → Mo Γ.K G1 H1 G' H' → SqL X.K H' p2 ws := fun G' H' e m => .inl (.inl (e _ _ (m.exG _ _ h2)))
    refine ⟨p1, p2, vs, ws, rfl, .inl ⟨a1 _ _ s1.sub .refl, a2 _ _ s1.sub .refl, k _ G1 H1 _ _ s1 ⟨?_, ?_, ?_⟩ q⟩⟩
    · intro i G' H' e m hi
      have l1 : i < vs.length := by rw [g1.length]; omega
      have l2 : i < ws.length := by rw [g2.length]; omega
      exact ⟨vs, ws, _, _, a1 _ _ e m, a2 _ _ e m, List.getElem?_eq_getElem l1, List.getElem?_eq_getElem l2⟩
    · rintro i G' H' x H2 e m hi ⟨T, y, z, rfl, hT, rfl, y1, y2⟩
      obtain ⟨d, hd, rd⟩ := g1.back (y1 vs (a1 _ _ e m))
      obtain ⟨d2, hd2, rd2⟩ := g2.back (y2 ws (a2 _ _ e m))
      rw [atD_get (by omega)] at hd hd2
      cases hd
      cases hd2
      have st : Stp Γ.K G' H' (upd G' T (.tup [y, z])) (upd H' T (.tup [y, z])) := .new e hT
      refine ⟨_, st, ?_⟩
      unfold Rep
      exact ⟨T, _, rfl, .inl (.inl upd_same), .cons ((rd.mo m).mono st) (.cons ((rd2.mo m).mono st) .nil)⟩
    · intro G' H' e m
      refine ⟨vs, ws, a1 _ _ e m, a2 _ _ e m, ?_⟩
      rw [g1.length, g2.length]
      omega
  · rename_i xs ys
    obtain ⟨v, u, rfl, r1, r2⟩ := repL2 r
    unfold Rep at r1 r2
    obtain ⟨p1, vs, rfl, h1, g1⟩ := r1
    obtain ⟨p2, ws, rfl, h2, g2⟩ := r2
    have a1 : ∀ G' H', Same G' H' → Mo Γ.K G1 H1 G' H' → SqT X.K H' p1 vs := fun G' H' e m => by rw [hX.K]; exact Same.tup e (Same.tup m.exG h1)
    have a2 : ∀ G' H', Same G' H' → Mo Γ.K G1 H1 G' H' → SqT X.K H' p2 ws := fun G' H' e m => by rw [hX.K]; exact Same.tup e (Same.tup m.exG h2)
    refine ⟨p1, p2, vs, ws, rfl, .inr ⟨a1 _ _ s1.sub .refl, a2 _ _ s1.sub .refl, k _ G1 H1 _ _ s1 ⟨?_, ?_, ?_⟩ q⟩⟩
    · intro i G' H' e m hi
      have l1 : i < vs.length := by rw [g1.length]; omega
      have l2 : i < ws.length := by rw [g2.length]; omega
      exact ⟨vs, ws, _, _, a1 _ _ e m, a2 _ _ e m, List.getElem?_eq_getElem l1, List.getElem?_eq_getElem l2⟩
    · rintro i G' H' x H2 e m hi ⟨T, y, z, rfl, hT, rfl, y1, y2⟩
      obtain ⟨d, hd, rd⟩ := g1.back (y1 vs (a1 _ _ e m))
      obtain ⟨d2, hd2, rd2⟩ := g2.back (y2 ws (a2 _ _ e m))
      rw [atD_get (by omega)] at hd hd2
      cases hd
      cases hd2
      have st : Stp Γ.K G' H' (upd G' T (.tup [y, z])) (upd H' T (.tup [y, z])) := .new e hT
      refine ⟨_, st, ?_⟩
      unfold Rep
      exact ⟨T, _, rfl, .inl (.inl upd_same), .cons ((rd.mo m).mono st) (.cons ((rd2.mo m).mono st) .nil)⟩
    · intro G' H' e m
      refine ⟨vs, ws, a1 _ _ e m, a2 _ _ e m, ?_⟩
      rw [g1.length, g2.length]
      omega
  · exact q.elim
end
end Z
set_option Elab.async false
set_option linter.all false
set_option maxRecDepth 100000
set_option maxHeartbeats 4000000
/-! Z21: further built-ins by name. -/
namespace Z
open PySem L2
variable [tabsI : TabsT]
section
variable {S : Scp} {Γ : Cg} {δ : List Sl} {P : D → Prop} {PL : List D → Prop} {a b c e o : Expr} {es rest : List Expr} {pos p : Pos}
theorem zb_sum (hg : HasG S.gl "sum") (hm : Γ.mg "sum" = none) (h : JA S Γ (e :: es) δ fun ds => CallD S Γ (.builtin "sum") ds P) (he : ∀ env, starEach (e :: es) env = (false, eval e env) :: starEach es env := by intro _; rfl) (hpl : ∀ env, (backTo pos (starEach es env)).any (·.1) = false := by intro _; rfl) :
    JE S Γ (.Call (.Name "sum" p) (e :: es) [] pos) δ P := je_callB hg.mem hm cb_sum h (by decide) (by decide) he hpl
/-- a global of the module that is an int -/
theorem je_globI {x : Str} {i : Int} (hg : x ∈ S.gl) (hm : ∃ t, Γ.mg x = some (.int i t)) (h : P (.int i)) (hd : (x == ("__debug__" : Str)) = false := by decide) : JE S Γ (.Name x pos) δ P := by
  refine ⟨fun X hX σ G H st ev Q k => ?_⟩
  have hk : Gl X x := by show X.env.scope.names.lookup x = _; rw [hX.sc]; exact hX.so.gl x hg
  obtain ⟨t, hm⟩ := hm
  exact PEw (pe_glob (v := .int i) hk (by rw [hX.mg]; exact hm) ⟨t, rfl⟩ hd) (k _ G H _ (.refl st.sub) rep_int h)
theorem flat_rows {α : Type} {xs : List α} {f : α → D} (h : ∀ x ∈ xs, flatD (f x)) : flatL (xs.map f) := by
  induction xs with
  | nil => exact trivial
  | cons x xs ih => exact ⟨h x (.head _), ih fun y hy => h y (.tail _ hy)⟩
end
end Z
set_option Elab.async false
set_option linter.all false
set_option maxRecDepth 100000
set_option maxHeartbeats 4000000
/-! Z22: slices by the value that is cut. -/
namespace Z
open PySem L2
variable [tabsI : TabsT]
def cutA (P : D → Prop) (l u : Option Int) : D → Prop
  | .lst ds => P (.lst (cutD ds l u))
  | .tup ds => ¬ (HT.sIx ds.length 0 l = 0 ∧ HT.sIx ds.length ds.length u = ds.length) ∧ P (.tup (cutD ds l u))
  | .str z => z.length ≤ sizeLine ∧ P (.str (cutS z l u))
  | _ => False
section
variable {S : Scp} {Γ : Cg} {δ : List Sl} {P : D → Prop} {e : Expr} {pos : Pos}
theorem je_cutA {lo hi : Option Expr} {p2 : Pos} (h : JE S Γ e δ fun d => JO S Γ lo δ fun l => JO S Γ hi δ fun u => cutA P l u d) : JE S Γ (.Subscript e (.Slice lo hi none p2) pos) δ P := by
  refine ⟨fun X hX σ G H st ev Q k => ?_⟩
  refine PEw (pe_slice (SlR.or sl_list (SlR.or sl_tup sl_str)) wE_pe wPO_po wPO_po) ?_
  refine h.run X hX σ G H st ev _ fun v G1 H1 d s1 r1 h1 => ?_
  refine h1.run X hX σ G1 H1 (st.trans s1) (ev.mono s1) _ fun l G2 H2 s2 h2 => ?_
  refine h2.run X hX σ G2 H2 ((st.trans s1).trans s2) ((ev.mono s1).mono s2) _ fun u G3 H3 s3 h3 => ?_
  have r3 := (r1.mono s2).mono s3
  cases d with
  | lst ds =>
    unfold Rep at r3
    obtain ⟨q, vs, rfl, g1, g2⟩ := r3
    refine .inl ⟨q, vs, rfl, .inl (.inl (s3.sub _ _ g1)), fun y hy => ?_⟩
    have s123 := (s1.trans s2).trans s3
    have s4 : Stp Γ.K G3 H3 (upd G3 y (.lst (cutV vs l u))) (upd H3 y (.lst (cutV vs l u))) := .new s3.sub hy
    refine k _ _ _ _ (s123.trans s4) ?_ h3
    unfold Rep
    exact ⟨y, _, rfl, upd_same, (g2.cut).mono s4⟩
  | tup ds =>
    unfold Rep at r3
    obtain ⟨q, vs, rfl, g1, g2⟩ := r3
    refine .inr (.inl ⟨q, vs, rfl, by rw [hX.K]; exact Same.tup s3.sub g1, by rw [g2.length]; exact h3.1, fun y hy => ?_⟩)
    have s4 : Stp Γ.K G3 H3 (upd G3 y (.tup (cutV vs l u))) (upd H3 y (.tup (cutV vs l u))) := .new s3.sub hy
    refine k _ _ _ _ (((s1.trans s2).trans s3).trans s4) ?_ h3.2
    unfold Rep
    exact ⟨y, _, rfl, .inl (.inl upd_same), (g2.cut).mono s4⟩
  | str z =>
    unfold Rep at r3
    exact .inr (.inr ⟨z, r3, h3.1, k _ _ _ _ ((s1.trans s2).trans s3) rep_str h3.2⟩)
  | _ => exact h3.elim
end
/-- the slice of any list -/
def cutL {α : Type} (xs : List α) (lo hi : Option Int) : List α := (xs.drop (HT.sIx xs.length 0 lo)).take (HT.sIx xs.length xs.length hi - HT.sIx xs.length 0 lo)
theorem cutD_map {α : Type} {f : α → D} {xs : List α} {lo hi : Option Int} : cutD (xs.map f) lo hi = (cutL xs lo hi).map f := by
  unfold cutD cutL
  simp [List.map_take, List.map_drop]
theorem cutL_tail {α : Type} {xs : List α} : cutL xs (some 1) none = xs.tail := by
  cases xs with
  | nil => rfl
  | cons x xs =>
    unfold cutL HT.sIx
    simp
theorem cutL_fromto {α : Type} {xs : List α} {j k : Int} (h0 : 0 ≤ j) (h1 : j ≤ xs.length) (h2 : j ≤ k) (h3 : k ≤ xs.length) : cutL xs (some j) (some k) = (xs.drop j.toNat).take (k - j).toNat := by
  unfold cutL HT.sIx
  simp only [show ¬ k < 0 by omega, show ¬ j < 0 by omega, if_false]
  rw [Nat.min_eq_left (by omega), Nat.min_eq_left (by omega)]
  congr 1
  omega
theorem cutA_map {α : Type} {P : D → Prop} {f : α → D} {xs : List α} {l u : Option Int} (h : P (.lst ((cutL xs l u).map f))) : cutA P l u (.lst (xs.map f)) := by
  show P _
  rw [cutD_map]
  exact h
theorem cutA_tup {α : Type} {P : D → Prop} {f : α → D} {xs : List α} {l u : Option Int} (hw : ¬ (HT.sIx xs.length 0 l = 0 ∧ HT.sIx xs.length xs.length u = xs.length)) (h : P (.tup ((cutL xs l u).map f))) : cutA P l u (.tup (xs.map f)) := by
  refine ⟨by rw [List.length_map]; exact hw, ?_⟩
  rw [cutD_map]
  exact h
end Z
set_option Elab.async false
set_option linter.all false
set_option maxRecDepth 100000
set_option maxHeartbeats 4000000
/-! Z23: == of data that is told by an encoding. -/
namespace Z
open PySem L2
variable [tabsI : TabsT]
structure EncOk {α : Type} [DecidableEq α] (f : α → D) (k : Nat) : Prop where
  pln : ∀ x, plnD (f x) = true
  lay : ∀ x, (pyD (f x)).canLay0 = true
  dep : ∀ x, (pyD (f x)).depth ≤ k
  eq : ∀ x y, PyData.eqv (pyD (f x)) (pyD (f y)) = decide (x = y)
theorem enc_int : EncOk D.int 0 := ⟨fun _ => rfl, fun _ => rfl, fun _ => Nat.le_refl _, fun x y => by
  unfold pyD PyData.eqv
  by_cases h : x = y <;> simp [h]⟩
theorem enc_pair {α β : Type} [DecidableEq α] [DecidableEq β] {f : α → D} {g : β → D} {k : Nat} (hf : EncOk f k) (hg : EncOk g k) : EncOk (fun p : α × β => .tup [f p.1, g p.2]) (k + 1) := by
  refine ⟨fun x => ?_, fun x => ?_, fun x => ?_, fun x y => ?_⟩
  · simp [plnD, plnL, hf.pln, hg.pln]
  · simp [pyD, pyL, PyData.canLay0, PyData.canLayAll0, hf.lay, hg.lay]
  · have h1 := hf.dep x.1
    have h2 := hg.dep x.2
    simp [pyD, pyL, PyData.depth, PyData.depthAll]
    omega
  · simp [pyD, pyL, PyData.eqv, PyData.eqvAll, hf.eq, hg.eq]
    rw [← Bool.decide_and]
    refine decide_eq_decide.mpr ?_
    rw [Prod.ext_iff]
section
variable {α : Type} [DecidableEq α] {f : α → D} {k : Nat}
theorem encL_pln (h : EncOk f k) : ∀ xs : List α, plnL (xs.map f) = true
  | [] => rfl
  | x :: xs => by
    rw [List.map_cons]
    unfold plnL
    rw [h.pln, encL_pln h xs]
    rfl
theorem encL_lay (h : EncOk f k) : ∀ xs : List α, PyData.canLayAll0 (pyL (xs.map f)) = true
  | [] => rfl
  | x :: xs => by
    rw [List.map_cons]
    unfold pyL PyData.canLayAll0
    rw [h.lay, encL_lay h xs]
    rfl
theorem encL_dep (h : EncOk f k) : ∀ xs : List α, PyData.depthAll (pyL (xs.map f)) ≤ k
  | [] => Nat.zero_le _
  | x :: xs => by
    rw [List.map_cons]
    unfold pyL PyData.depthAll
    have h1 := h.dep x
    have h2 := encL_dep h xs
    omega
theorem encL_eq (h : EncOk f k) : ∀ xs ys : List α, PyData.eqvAll (pyL (xs.map f)) (pyL (ys.map f)) = decide (xs = ys)
  | [], [] => rfl
  | [], y :: ys => rfl
  | x :: xs, [] => rfl
  | x :: xs, y :: ys => by
    rw [List.map_cons, List.map_cons]
    unfold pyL PyData.eqvAll
    rw [h.eq, encL_eq h xs ys, ← Bool.decide_and]
    exact decide_eq_decide.mpr (by rw [List.cons.injEq])
theorem enc_lst (h : EncOk f k) : EncOk (fun xs : List α => .lst (xs.map f)) (k + 1) := by
  refine ⟨fun x => ?_, fun x => ?_, fun x => ?_, fun x y => ?_⟩
  · unfold plnD; exact encL_pln h x
  · unfold pyD PyData.canLay0; exact encL_lay h x
  · unfold pyD PyData.depth; have := encL_dep h x; omega
  · unfold pyD PyData.eqv; exact encL_eq h x y
theorem enc_tup (h : EncOk f k) : EncOk (fun xs : List α => .tup (xs.map f)) (k + 1) := by
  refine ⟨fun x => ?_, fun x => ?_, fun x => ?_, fun x y => ?_⟩
  · unfold plnD; exact encL_pln h x
  · unfold pyD PyData.canLay0; exact encL_lay h x
  · unfold pyD PyData.depth; have := encL_dep h x; omega
  · unfold pyD PyData.eqv; exact encL_eq h x y
theorem EncOk.shaped (h : EncOk f k) (hk : k ≤ 64) (x : α) : SeqAt.shaped (pyD (f x)) = true := by
  unfold SeqAt.shaped
  rw [h.lay]
  have := h.dep x
  simp
  omega
variable {S : Scp} {Γ : Cg} {P : D → Prop}
theorem od_eqE (h : EncOk f k) (hk : k ≤ 64) {x y : α} (p : P (.bl (decide (x = y)))) : OpD S Γ (compareOp .Eq) (f x) (f y) P :=
  od_eqD (h.pln x) (h.pln y) (h.shaped hk x) (h.shaped hk y) (by rw [h.eq]; exact p)
theorem od_neE (h : EncOk f k) (hk : k ≤ 64) {x y : α} (p : P (.bl (!decide (x = y)))) : OpD S Γ (compareOp .NotEq) (f x) (f y) P :=
  od_neD (h.pln x) (h.pln y) (h.shaped hk x) (h.shaped hk y) (by rw [h.eq]; exact p)
end
end Z
set_option Elab.async false
set_option linter.all false
set_option maxRecDepth 100000
set_option maxHeartbeats 4000000
/-! Z24: a list of one's own in a test; a bool beside it. -/
namespace Z
open PySem L2
variable [tabsI : TabsT]
section
variable {S : Scp} {Γ : Cg} {δ : List Sl} {P : D → Prop} {PB : Bool → Prop} {a e : Expr} {pos : Pos}
theorem jt_own (i : Nat) {ds : List D} (hδ : δ[i]? = some (.ow ds)) (h : JT S Γ e (δ.set i (.fz (.lst ds))) PB) : JT S Γ e δ PB := by
  refine ⟨fun X hX σ G H st ev Q k => ?_⟩
  obtain ⟨p, vs, h1, g, h0, ev'⟩ := ev.freeze hδ
  exact h.run X hX σ _ H (st.freeze h0 h1 g) ev' Q fun b G' H' s q => k b (ers G' p) H' (Stp.thaw h1 g s) q
theorem jt_ownC {x : Str} {op : CmpOp} {p q : Pos} {i : Nat} {ds : List D} (hv : Has S.vs x i) (hδ : δ[i]? = some (.ow ds)) (h : JT S Γ (.Compare a [op] [.Name x p] q) (δ.set i (.fz (.lst ds))) PB) : JT S Γ (.Compare a [op] [.Name x p] q) δ PB := jt_own i hδ h
end
end Z
set_option Elab.async false
set_option linter.all false
set_option maxRecDepth 100000
set_option maxHeartbeats 4000000
/-! Z25: defs, methods and properties that hand back a new list. -/
namespace Z
open PySem L2
variable [tabsI : TabsT]
abbrev CtF := List D → (List D → Prop) → (Value → List Str → List D → Prop) → Prop
def spCF (K : PySem.W.Frag) (c : CtF) : Sp := fun vs H Q E => ∃ G ds, Same G H ∧ TOk G H ∧ RepL K G H ds vs ∧ c ds (fun es => ∀ p us G' H', Stp K G H G' H' → H p = none → G' p = none → H' p = some (.lst us) → RepL K G' H' es us → Q (.ref p) H') fun cls ns es => ∀ d G' H', Stp K G H G' H' → XdOk K G' H' d ns es → E cls d H'
abbrev MonoF (c : CtF) : Prop := ∀ ds (P P' : List D → Prop) (E E' : Value → List Str → List D → Prop), (∀ d, P d → P' d) → (∀ v ns es, E v ns es → E' v ns es) → c ds P E → c ds P' E'
structure DefOkF (P : Program) (w : World) (K : PySem.W.Frag) (mg : Str → Option Value) (base : Heap) (x : Str) (lv : Nat) (df : List D) (c : CtF) : Prop where
  mono : MonoF c
  ex : ∃ f fd ps ds dvs, FnOk P w K mg base (L2N.CX P w) lv f fd ps (spCF K c) ∧ mg x = some (.ref f) ∧ PySem.W.keepIn K (.ref f) = true ∧ Binds K fd ps ds ∧ Vals dvs ds ∧ ∀ G H, RepL K G H df dvs
abbrev Env1.DefF (U : Env1) (x : Str) (lv : Nat) (df : List D) (c : CtF) : Prop := DefOkF U.P U.w U.K U.mg U.base x lv df c
structure MethOkF (P : Program) (w : World) (K : PySem.W.Frag) (mg : Str → Option Value) (base : Heap) (C : Addr) (m : Str) (lv : Nat) (c : CtF) : Prop where
  mono : MonoF c
  ex : ∃ f fd ps, FnOk P w K mg base (L2N.CX P w) lv f fd ps (spCF K c) ∧ Meth K C m f ∧ Binds K fd ps []
structure PropOkF (P : Program) (w : World) (K : PySem.W.Frag) (mg : Str → Option Value) (base : Heap) (C : Addr) (m : Str) (lv : Nat) (c : CtF) : Prop where
  mono : MonoF c
  ex : ∃ p f fd ps, FnOk P w K mg base (L2N.CX P w) lv f fd ps (spCF K c) ∧ PropOf K C m p f ∧ Binds K fd ps []
section
variable {S S' : Scp} {Γ : Cg} {δ : List Sl} {P : D → Prop} {PL : List D → Prop} {N B C : List Sl → Prop} {R : D → Prop} {a b e o : Expr} {es : List Expr} {pos : Pos}
def RfL (P : List D → Prop) : MT → Prop := fun t => ∃ ds, t = .ls (ds.map .fz) ∧ P ds
theorem MRepL.fzs {KK : PySem.W.Frag} {G H : Hp} : ∀ {ds : List D} {vs : List V}, RepL KK G H ds vs → MRepL KK G H (ds.map .fz) vs []
  | [], vs, h => by
    unfold RepL at h
    unfold MRepL
    exact ⟨h, rfl⟩
  | d :: ds, vs, h => by
    unfold RepL at h
    obtain ⟨v, r, e, h1, h2⟩ := h
    rw [List.map_cons]
    unfold MRepL
    exact ⟨v, r, [], [], e, rfl, by unfold MRep; exact ⟨rfl, h1⟩, MRepL.fzs h2⟩
theorem MRepL.ofFzs {KK : PySem.W.Frag} {G H : Hp} : ∀ {ds : List D} {vs : List V} {as : List Addr}, MRepL KK G H (ds.map .fz) vs as → as = [] ∧ RepL KK G H ds vs
  | [], vs, as, h => by
    rw [List.map_nil] at h
    unfold MRepL at h
    unfold RepL
    exact ⟨h.2, h.1⟩
  | d :: ds, vs, as, h => by
    rw [List.map_cons] at h
    unfold MRepL at h
    obtain ⟨v, r, a, b, e, ea, h1, h2⟩ := h
    unfold MRep at h1
    obtain ⟨q1, q2⟩ := MRepL.ofFzs h2
    unfold RepL
    exact ⟨by rw [ea, h1.1, q1]; rfl, v, r, e, h1.2, q2⟩
theorem MRep.own1 {KK : PySem.W.Frag} {G H : Hp} {ds : List D} {p : Addr} {vs : List V} (h : H p = some (.lst vs)) (r : RepL KK G H ds vs) : MRep KK G H (.ls (ds.map .fz)) (.ref p) [p] := by
  unfold MRep
  exact ⟨p, vs, [], rfl, h, rfl, MRepL.fzs r⟩
theorem js_retJF {K : Kp} {RF : List D → Prop} (hr : ∀ ds, RF ds → Γ.rf (.ls (ds.map .fz))) (h : JF S Γ e δ RF) : JS S Γ (.Return (some e) pos) δ K := by
  refine ⟨fun X hX σ G H De s ev en => ?_⟩
  refine PSw (ps_ret wE_pe) ?_
  exact h.run X hX σ G H s ev _ fun p vs G' H' ds s' hp gp h1 r q => en.rf _ [p] _ G' H' (s.trans s') (.own1 h1 r) (by simp) (fun a ha => by rw [List.mem_singleton.mp ha]; exact ⟨gp, s.free hp⟩) (hr _ q)
theorem zs_retJF {U : Env1} {G H : Hp} {ex : List Sl → Value → List Str → List D → Prop} {RF : List D → Prop} (h : JF S (U.cgF G H ex (RfL RF)) e δ RF) : JS S (U.cgF G H ex (RfL RF)) (.Return (some e) pos) δ ⟨N, R, B, C⟩ := js_retJF (fun ds q => ⟨ds, rfl, q⟩) h
theorem zs_retOwF {U : Env1} {G H : Hp} {ex : List Sl → Value → List Str → List D → Prop} {RF : List D → Prop} {x : Str} {i : Nat} {ds : List D} {p1 : Pos} (hv : Has S.vs x i) (hδ : δ[i]? = some (.ow ds)) (h : RF ds) (hd : (x == ("__debug__" : Str)) = false := by decide) (hcd : (x == ("__classdict__" : Str)) = false := by decide) :
    JS S (U.cgF G H ex (RfL RF)) (.Return (some (.Name x p1)) pos) δ ⟨N, R, B, C⟩ := by
  refine ⟨fun X hX σ G' H' De s ev en => ?_⟩
  obtain ⟨h1, h2⟩ := hX.so.vs _ hv.mem
  refine PSw (ps_ret (pe_var (by rw [hX.N]; exact h1) (by rw [hX.sc]; exact h2) hd hcd)) ?_
  obtain ⟨q, vs, e1, hq, g, h0, r⟩ := ev.at_ i _ hδ
  exact ⟨.ref q, e1, en.rf _ [q] _ G' H' s (.own1 hq r) (by simp) (fun a ha => by rw [List.mem_singleton.mp ha]; exact ⟨g, h0⟩) ⟨ds, rfl, h⟩⟩
theorem jf_callF [Calm Γ] {x : Str} {lv : Nat} {df : List D} {ct : CtF} {p : Pos} (F : DefOkF Γ.P Γ.w Γ.K Γ.mg Γ.base x lv df ct) (hl : lv ≤ S.lv) (hg : HasG S.gl x)
    (h : JA S Γ (e :: es) δ fun ds => ct (ds ++ df) PL (Γ.ex δ))
    (hdb : (x == ("__debug__" : Str)) = false := by decide) (he : ∀ env, starEach (e :: es) env = (false, eval e env) :: starEach es env := by intro _; rfl) (hpl : ∀ env, (backTo pos (starEach es env)).any (·.1) = false := by intro _; rfl) :
    JF S Γ (.Call (.Name x p) (e :: es) [] pos) δ PL := by
  refine ⟨fun X hX σ G H st ev Q k => ?_⟩
  have hk : Gl X x := by show X.env.scope.names.lookup x = _; rw [hX.sc]; exact hX.so.gl x hg.mem
  obtain ⟨f, fd, ps, ds, dvs, F1, F2, F3, F4, F5, F6⟩ := F.ex
  have F1' : FnOk X.prog X.w X.K X.mg X.base (L2N.CX X.prog X.w) lv f fd ps (spCF Γ.K ct) := by rw [hX.prog, hX.w, hX.K, hX.mg, hX.base]; exact F1
  refine PEw (pe_callSD (E := WE (wx Γ)) F1' ((hX.room Calm.hx).mono hl) hk (by rw [hX.mg]; exact F2) (by rw [hX.K]; exact F3) (by rw [hX.K]; exact F4) F5 (fun σ => L2N.passAt hX.tk σ) wA_pa hdb (he _) (hpl _)) ?_
  refine h.run X hX σ G H st ev _ fun vs G1 H1 ds s1 r1 h1 => ?_
  refine ⟨G1, ds ++ df, s1.sub, (st.trans s1).tab hX.tb, r1.append (F6 _ _), F.mono _ _ _ _ _ (fun d p q us G' H' s hq gq hh r => k q us G' H' d (s1.trans s) (s1.free hq) gq hh r p) (fun cls ns es q d G' H' s x => ?_) h1⟩
  exact ⟨G', δ, ns, es, (st.trans s1).trans s, ev.mono (s1.trans s), x, q⟩
end
/-! from the facts of the top -/
section
variable {U : Env1} {m qual x : Str} {st : Stmt} {S : Scp} {ps : List Str} {n j : Nat} {f C : Addr} {fd : FuncData} {c : CtF} {dvs : List V} {df : List D}
theorem fn_okF (F : ∃ h : Unit, FunD U.K m qual (defArgs st) (defBody st) (defScope st) dvs [] f fd) (so : S.Ok) (sc : S.sc = defScope st) (fs : FnScope S.N ps (defScope st)) (hn : ps.length = n) (hN : n ≤ S.N.length) (len : ∀ ds P E, c ds P E → ds.length = n)
    (body : ∀ (G H : Hp) ds P E, c ds P E → JSs S (U.cgF G H (fun _ => E) (RfL P)) (defBody st) (startD S.N ds) { nx := fun _ => False, rt := fun _ => False }) : FnOk U.P U.w U.K U.mg U.base (L2N.CX U.P U.w) (S.lv + 1) f fd ps (spCF U.K c) := by
  obtain ⟨_, F⟩ := F
  refine F.ok fs (fun vs H Q E h => ?_) (fun cdv A outer s H vs Q E hr h => ?_)
  · obtain ⟨G, ds, _, _, r, h⟩ := h
    rw [r.length, len _ _ _ h, hn]
  · obtain ⟨G, ds, e, tb, r, h⟩ := h
    have hl := len _ _ _ h
    refine ⟨_, wSs_pss, (body G H ds _ _ h).run _ ⟨so, rfl, rfl, rfl, rfl, rfl, rfl, sc.symm, fun _ => rfl, fun _ => hr, L2H.roomH_of hr, (fun _ z => by cases z), fun _ _ => .inl rfl, fun _ => ⟨rfl, rfl, rfl, passes_of rfl⟩, ?_, tb, (fun _ _ _ z => by cases z)⟩ _ G H _ (.refl e) (EnvOk.start r _ (by omega)) ⟨?_, ?_, ?_, ?_, ?_⟩⟩
    · refine L2N.Takes.imp (L2N.takes_of rfl rfl rfl rfl) ?_
      rintro cls d σ' H' ⟨G', δ', ns, es, s', ev', x', q⟩
      exact q d G' H' s' x'
    · exact fun _ _ _ _ _ _ _ q => q.elim
    · exact fun _ _ _ _ _ _ _ q => q.elim
    · exact fun _ _ _ _ _ _ _ q => q.elim
    · exact fun _ _ _ _ _ _ q => q.elim
    · rintro v as t G' H' s' hm nd ha ⟨ds', rfl, q⟩
      unfold MRep at hm
      obtain ⟨p, vs, bs, rfl, h1, e1, h2⟩ := hm
      obtain ⟨q1, q2⟩ := h2.ofFzs
      have w := ha p (by rw [e1]; exact .head _)
      exact q p vs G' H' s' w.2 w.1 h1 q2
theorem def_okF (F : FunAt U x st dvs) (so : S.Ok) (sc : S.sc = defScope st) (fs : FnScope S.N ps (defScope st)) (hn : ps.length = n) (hN : n ≤ S.N.length)
    (hb : ∀ f fd, FunD U.K x x (defArgs st) (defBody st) (defScope st) dvs [] f fd → ∃ ds, Vals (dvs.drop j) ds ∧ Binds U.K fd ps ds) (hdf : ∀ G H, RepL U.K G H df (dvs.drop j)) (len : ∀ ds P E, c ds P E → ds.length = n) (mono : MonoF c)
    (body : ∀ (G H : Hp) ds P E, c ds P E → JSs S (U.cgF G H (fun _ => E) (RfL P)) (defBody st) (startD S.N ds) { nx := fun _ => False, rt := fun _ => False }) : U.DefF x (S.lv + 1) df c := by
  obtain ⟨f, fd, Fu, hm⟩ := F.ex
  obtain ⟨ds, hv, hbi⟩ := hb f fd Fu
  exact ⟨mono, f, fd, ps, ds, dvs.drop j, fn_okF ⟨(), Fu⟩ so sc fs hn hN len body, hm, Fu.kp, hbi, hv, hdf⟩
end
end Z
set_option Elab.async false
set_option linter.all false
set_option maxRecDepth 100000
set_option maxHeartbeats 4000000
/-! Z26: own exception classes over ValueError whose __init__ says super().__init__(text), self.f = x: made and raised. -/
namespace Z
open PySem L2
variable [tabsI : TabsT]

/-! ### the text that is told: an f-string of texts and one name -/
/-- the parts' texts: anything that comes out as a short text -/
def TextOf (M : Model) (env : Env) (L : Addr) (m : Str → Option Value) (arg : Expr) : Prop :=
  ∀ (A : Around) (E : Value → Shared → Prop) (Q : Value → Shared → Prop) (s : Shared), s.heap.Ns L m → (∀ u tk, Q u { s with toks := tk }) → wpAny M A (eval arg env) Q E s
section
variable {prog : Program} {w : World} {env : Env} {L : Addr} {m : Str → Option Value}
theorem nameAt {A : Around} {E : Value → Shared → Prop} {Q : Value → Shared → Prop} {s : Shared} {x : Str} {pos : Pos} {v : Value} (hL : env.locals = L) (hk : env.scope.kind = .function) (hl : env.kindOf x = some .local) (hm : m x = some v) (hn : s.heap.Ns L m) (hd : (x == ("__debug__" : Str)) = false) (q : Q v s) :
    wpAny (model prog w) A (eval (.Name x pos) env) Q E s := by
  subst hL
  exact wpAny_Name (wpAny_loadName_local hk hl hn hm q) hd
/-- what may stand in the text: an int or a text -/
def Told (v : Value) : Prop := (∃ i t, v = .int i t ∧ i.natAbs.log2 < 1900) ∨ ∃ y t, v = .str y t ∧ y.length ≤ 4000
theorem told_part {A : Around} {E : Value → Shared → Prop} {Q : Value → Shared → Prop} {s : Shared} {x : Str} {p1 p2 : Pos} {v : Value} (hL : env.locals = L) (hk : env.scope.kind = .function) (hl : env.kindOf x = some .local) (hm : m x = some v) (hn : s.heap.Ns L m) (hd : (x == ("__debug__" : Str)) = false) (hv : Told v)
    (q : ∀ y tk t', y.length ≤ 5000 → Q (.str y tk) { s with toks := t' }) : wpAny (model prog w) A (eval (.FormattedValue (.Name x p1) (-1) none p2) env) Q E s := by
  refine wpAny_FormattedValue_plain (nameAt hL hk hl hm hn hd ?_)
  rcases hv with ⟨i, t, rfl, hz⟩ | ⟨y, t, rfl, hz⟩
  · refine wpAny_formatField_int (by omega) (q _ _ _ ?_)
    have e := int_text_length_le (k := 1920) (by decide) (a := i) (by omega)
    rw [ofString_length]
    omega
  · exact wpAny_formatField_str (q y t s.toks (by omega)) (q y _ _ (by omega)) (by rw [sizeLine_eq]; omega)
theorem told_text2 {c : Str} {j : Nat} {x : Str} {p0 p1 p2 p3 : Pos} {v : Value} (hc : c.length ≤ 1000) (hL : env.locals = L) (hk : env.scope.kind = .function) (hl : env.kindOf x = some .local) (hm : m x = some v) (hd : (x == ("__debug__" : Str)) = false) (hv : Told v) :
    TextOf (model prog w) env L m (.JoinedStr [.Constant (.str c) j p0, .FormattedValue (.Name x p1) (-1) none p2] p3) := by
  intro A E Q s hn q
  refine wpAny_JoinedStr ?_
  show wpAny _ _ (eval (.Constant (.str c) j p0) env) _ _ _
  refine wpAny_Constant_str ⟨c, _, rfl, ?_, ?_⟩
  · rw [Str.empty_append, sizeLine_eq]; omega
  show wpAny _ _ (eval (.FormattedValue (.Name x p1) (-1) none p2) env) _ _ _
  refine told_part (s := { s with toks := s.toks + 1 }) hL hk hl hm hn hd hv fun y tk t' hy => ⟨y, tk, rfl, ?_, ?_, q _ _⟩
  · rw [Str.empty_append, Str.length_append, sizeLine_eq]; omega
  · rw [Str.empty_append, Str.length_append, sizeLine_eq]; omega
end
/-! ### super().__init__(text), self.f = x, as they run -/
section
open PySem.W PySem.Calls PyProof.Rows
variable {prog : Program} {w : World} {A : Around} {E : Value → Shared → Prop} {h : Heap} {g : Array GenState} {d : Drawn} {t : Nat} {os : OsState}
abbrev mwO (a : Addr) : Obj := kxs_mw "ValueError.__init__" a
/-- the bound __init__ called: the args are laid anew -/
theorem call_mw {nm q : Str} {C N u a t0 : Addr} {bs bm : List Value} {hdct : Bool} {sn : List Str} {sub : List Value} {ab : Bool} {col : Option Bool} {dd : Option Addr} {k0 k1 k2 k3 k5 : Option Value} {rest : List Value} {Q : Value → Shared → Prop}
    (hC : h.get? C = some (excClassObj nm q C N bs bm hdct sn sub ab col dd k0 k1 k2 k3 k5 "ValueError.__new__")) (he : h.get? a = some (HandSPX.excO C t0)) (hu : h.get? u = some (mwO a)) (hz : rest.length ≤ sizeLine)
    (k : ∀ h' t1, (∀ b o, b ≠ a → h.get? b = some o → h'.get? b = some o) → h'.get? a = some (HandSPX.excO C t1) → Q .none ⟨h', g, d, t, os⟩) : wpAny (model prog w) A (call (.ref u) rest) Q E ⟨h, g, d, t, os⟩ := by
  have c1 : (Value.type "method-wrapper" == Value.type "method" || Value.type "method-wrapper" == Value.type "builtin_function_or_method" || Value.type "method-wrapper" == Value.type "method-wrapper") = true := by decide
  refine wpAny_call (codeAny_of_tree (show wpAny _ A.in1 (callAny (.ref u) ⟨rest, []⟩) _ _ _ from ?_))
  simp only [callAny]
  refine wpAny_bind (wpAny_load hu ?_)
  simp only [mwO, kxs_mw, c1, if_true]
  refine KFB.if_so (by decide) (wpAny_bind (ESX.check_bound F.excBase_ValueError hC he rfl (wpAny_bind (wpAny_pure (wpAny_pure ⟨Code.quiet_builtin _ (by decide +kernel), codeAny_builtin F.excBase_ValueError.initEntry ?_⟩)))))
  rw [Around.under_plainId F.excBase_ValueError.init.plain _]
  wp_walk
  refine k _ h.objs.size (fun b o hb ho => ?_) ?_
  · exact (Heap.get?_update_other _ _ (fun z => hb z.symm)).trans (Heap.get?_push_of_some _ ho)
  · exact (Heap.get?_update_self _ (Heap.get?_push_of_some _ he) rfl).trans rfl
/-- what is known of a class whose __init__ (of the class at D) says super().__init__(text), self.fld = x -/
structure ExI (P : Program) (K : Frag) (mg : Str → Option Value) (C D fI cc cda : Addr) (qual nm : Str) (params : Arguments) (body : List Stmt) (scope : Scope) (x fld : Str) : Prop where
  fn : ∃ (oc kV doc pm ct : Value) (od an : Option Addr) (osl : Array (Option Value)), K.lookup fI = some ⟨oc, od, .func (fnX nm qual params body scope [("__class__", cc)] .none kV doc pm an (.ref cda) ct), osl⟩
  code : codeIn K (.ref cda) qual = true
  cod : ∃ (ccl : Value) (cdd : Option Addr) (vs : Array Value) (ccs : Array (Option Value)) (file : Str) (tf : Tok), K.lookup cda = some ⟨ccl, cdd, .fields vs, ccs⟩ ∧ vs[2]? = some (.str file tf) ∧ ((P.main.file : Str) == file) = true
  cell : ∃ (cl : Value) (cld : Option Addr) (csl : Array (Option Value)), K.lookup cc = some ⟨cl, cld, .cell (some (.ref D)), csl⟩
  dcl : (clsIn K D).isSome = true
  sub : mroIn K C (.ref D) = some true
  sup : mg "super" = none
  top : (P.main.scope.names.lookup ("super" : Str)).isSome = false
  oex : OexC K C
  hm : ks_superIn K C D "__init__" = some (some (.builtin "ValueError.__init__"))
  hB : subIn K (.ref C) (.type "ValueError") = some true
  opq : nsIn K cStatics "thirdparty.any" = some none
  fno : findIn K (.ref C) fld = some none
  iC : findIn K (.ref C) "__init__" = some (some (.ref fI))
  tI : typeIn K (.ref fI) = some (.type "function")
/-- what the def's text bears -/
structure ExB (params : Arguments) (scope : Scope) (x : Str) : Prop where
  par : ∃ ar, (params.posonlyargs ++ params.args).head? = some ar ∧ ar.arg = "self"
  self : scope.names.lookup ("self" : Str) = some .local
  xl : scope.names.lookup x = some .local
  sup : scope.names.lookup ("super" : Str) = some .globalImplicit
  cls : scope.names.lookup ("__class__" : Str) = some .free
  cel : ∀ y ∈ scope.names, y.2 ≠ .cell
  co : scope.isCoroutine = false
  gen : scope.isGenerator = false
  kind : scope.kind = .function
  ne : (x == ("self" : Str)) = false
  nd : (x == ("__debug__" : Str)) = false
theorem boot_super : bootBuiltins "super" = some (.type "super") := by decide +kernel
theorem clsObj {K : Frag} {hp : Heap} {D : Addr} (X : K.In hp) (h : (clsIn K D).isSome = true) : ∃ cd oD, clsIn K D = some cd ∧ hp.get? D = some oD ∧ oD.data = .cls cd := by
  unfold clsIn at h ⊢
  split at h
  · rename_i c d cd sl ho
    exact ⟨cd, _, rfl, X _ _ ho, rfl⟩
  · cases h
theorem init_run {K : Frag} {mg : Str → Option Value} {C D fI cc cda a t0 : Addr} {qual nm x fld : Str} {params : Arguments} {scope : Scope} {arg : Expr} {p0 p1 p2 p3 p4 p5 p6 p7 p8 : Pos} {v : Value} {R : Result → Shared → Prop}
    (T : ExI prog K mg C D fI cc cda qual nm params [.Expr (.Call (.Attribute (.Call (.Name "super" p0) [] [] p1) "__init__" p2) [arg] [] p3) p4, .Assign [.Attribute (.Name "self" p5) fld p6] (.Name x p7) p8] scope x fld) (B : ExB params scope x)
    (hst : ∀ env, starEach [arg] env = (false, eval arg env) :: starEach [] env) (hbd : ∀ (nm qual : Str) (body : List Stmt) (scope : Scope) (cl : List (Str × Addr)) (kV doc pm : Value) (an : Option Addr) (cdv ct : Value), BindsTo ⟨h, g, d, t, os⟩ (fnX nm qual params body scope cl .none kV doc pm an cdv ct) ⟨[.ref a, v], []⟩ [("self", .ref a), (x, v)])
    (hs1 : ∀ env, swapsWith (.Call (.Attribute (.Call (.Name "super" p0) [] [] p1) "__init__" p2) [arg] [] p3) none p4.line env = pure false) (hs2 : ∀ env, swapsWith (.Name x p7) (some (.Attribute (.Name "self" p5) fld p6)) p8.line env = pure false)
    (hev : ∀ env, ∃ pl : Sem Bool, eval (.Call (.Attribute (.Call (.Name "super" p0) [] [] p1) "__init__" p2) [arg] [] p3) env = (do
      let ov ← attributeBase (.Call (.Name "super" p0) [] [] p1) "__init__" env (eval (.Call (.Name "super" p0) [] [] p1) env)
      standAt p2.atName
      let (f, first) ← holding [ov] (getMethod ov "__init__" pl)
      callWith p3 f first (backTo p3 (starEach [arg] env)) []))
    (X : K.In h) (ka : K.lookup a = none) (hgl : h.Ns mainGlobals mg) (hbl : ∃ mb, h.Ns builtinsNs mb ∧ ∀ y : Str, y ≠ "__name__" → mb y = bootBuiltins y) (hlim : h.NoLimit) (room : A.depth < recursionLimit) (he : h.get? a = some (HandSPX.excO C t0))
    (txt : ∀ env L (m : Str → Option Value), env.locals = L → env.scope = scope → m x = some v → TextOf (model prog w) env L m arg)
    (k : ∀ h' tk dx t1, (∀ b o, b ≠ a → h.get? b = some o → h'.get? b = some o) → h.objs.size ≤ dx → dx ≠ a → h'.get? a = some { cls := .ref C, dict := some dx, data := .fields #[.ref t1, .none, .none, .none, .bool false, .none] } → h'.Ns1 dx (fun y => if y = fld then some v else none) → R (.ok (.ret .none)) ⟨h', g, d, tk, os⟩) :
    codeAny (model prog w) A (.call (.ref fI) ⟨[.ref a, v], []⟩) R ⟨h, g, d, t, os⟩ := by
  obtain ⟨oc, kV, doc, pm, ct, od, an, osl, ho⟩ := T.fn
  obtain ⟨ccl, cdd, vs, ccs, file, tf, hcode, hvs, hfile⟩ := T.cod
  obtain ⟨cl, cld, csl, hcell⟩ := T.cell
  obtain ⟨ar, hp, har⟩ := B.par
  obtain ⟨cdD, oD, hD, hD1, hD2⟩ := clsObj X T.dcl
  obtain ⟨nmC, q, N, bs, bm, sn, sub, ab, col, dd, k0, k1, k2, k3, k5, hC, hbm⟩ := T.oex.cls
  have hcl : clsIn K C = some { name := nmC, bases := bs, mro := .ref C :: bm, ns := N, qualname := q, hasDict := true, slotNames := sn, subclasses := sub, abstract := ab, collection := col, hasDel := false } := by unfold clsIn; rw [hC] <;> rfl
  have T_hm := T.hm
  unfold ks_superIn at T_hm
  rw [hcl] at T_hm
  obtain ⟨mb, hb1, hb2⟩ := hbl
  have hsz := Heap.lt_size he
  refine ks_codeAny_call_defAt (binds := [("self", .ref a), (x, v)]) room (X _ _ ho) rfl hlim (codeRec_of X T.code) rfl (hbd _ _ _ _ _ _ _ _ _ _ _) B.cel (fun y hy => ?_) (fun h1 hns kp => ?_) B.co B.gen B.kind
  · rcases List.mem_cons.mp hy with rfl | hy
    · exact B.self
    · rcases List.mem_cons.mp hy with rfl | hy
      · exact B.xl
      · cases hy
  generalize henv : callEnv (fnX nm qual params _ scope [("__class__", cc)] .none kV doc pm an (.ref cda) ct) _ fI = env
  have eL : env.locals = h.objs.size := by rw [← henv]; rfl
  have eS : env.scope = scope := by rw [← henv]; rfl
  have eC : env.cells = [(("__class__" : Str), cc)] := by rw [← henv]; rfl
  have eG : env.globals = mainGlobals := by rw [← henv]; rfl
  have eB : env.builtins = builtinsNs := by rw [← henv]; rfl
  have eF : env.func = some fI := by rw [← henv]; rfl
  have eD : env.code = .ref cda := by rw [← henv]; rfl
  have key : ∀ {y : Str} {kd : NameKind}, scope.names.lookup y = some kd → env.kindOf y = some kd := fun {y kd} z => by unfold Env.kindOf; rw [eS]; exact z
  have mx : (fun y : Str => ([("self", Value.ref a), (x, v)] : List (Str × Value)).reverse.lookup y) x = some v := by simp [List.lookup]
  have ms : (fun y : Str => ([("self", Value.ref a), (x, v)] : List (Str × Value)).reverse.lookup y) "self" = some (.ref a) := by
    have e1 : ((("self" : Str)) == x) = false := by
      have z := B.ne
      rw [Bool.eq_false_iff] at z ⊢
      intro y
      exact z (by rw [beq_iff_eq] at y ⊢; exact y.symm)
    simp [List.lookup, e1]
  generalize hmm : (fun y : Str => ([("self", Value.ref a), (x, v)] : List (Str × Value)).reverse.lookup y) = m at hns mx ms
  have X1 : K.In h1 := X.keeps kp
  have ekf : env.scope.kind = .function := by rw [eS]; exact B.kind
  refine ks_wpAt_execs_cons (ks_wpAt_Expr_any ?_ (by unfold interactive; rw [ekf]; rfl) (hs1 _))
  obtain ⟨pl, epl⟩ := hev env
  refine ks_wpAt_MethodCall (pl := pl) ?_ epl
  refine ks_wpAt_super_base (key B.sup) (key B.cls) (by decide) eF (kp _ _ (X _ _ ho)) rfl hp eD (kp _ _ (X _ _ hcode)) rfl hvs hfile T.top ?_
  refine ks_loadName_global ekf (key B.sup) (loadGlobal_builtin (by rw [eG]; exact hgl.keeps kp) T.sup (by rw [eB]; exact hb1.keeps kp) ((hb2 _ (by decide)).trans boot_super) ⟨rfl, ?_⟩)
  refine wpAny_loadName_free ekf (key B.cls) (by rw [eC]; rfl) ⟨_, kp _ _ (X _ _ hcell), rfl⟩ ?_
  refine wpAny_loadName_local ekf (by rw [har]; exact key B.self) (by rw [eL]; exact hns) (by rw [har]; exact ms) ?_
  refine ks_wpAny_isType_cls (kp _ _ hD1) hD2 ⟨rfl, ?_⟩
  refine ks_wpAny_call_super (kp _ _ hD1) hD2 (kp _ _ he) rfl (fun c z => by cases z) (looks_mroIn X1 T.sub) (fun h2 so k2 => ?_)
  have X2 := X1.keeps k2
  have he2 := k2 _ _ (kp _ _ he)
  have I2 : InstAt h2 a (HandSPX.excO C t0) C none := ⟨he2, rfl, rfl, trivial⟩
  refine kxs_getMethod kxs_ValueError so (looks_opaque X2 T.opq) (l₀ := Value.ref C :: bm) (fun A Q E s kk q => wpAny_bind ((looks_clsIn X2 hcl) A _ E s kk (wpAny_pure q))) rfl X2 T_hm (I2.type.andThen (looks_subIn X2 T.hB)) (ks_ne X2 I2 hcl) (by decide) ?_
  have k3 : ∀ b o, h2.get? b = some o → (h2.push (kxs_mw "ValueError.__init__" a)).get? b = some o := fun b o z => Heap.get?_push_of_some _ z
  rw [hst]
  refine kxs_callWith (i := "ValueError.__init__") (x := a) (by rfl) (evalArgs_plain ?_)
  refine spliced_cons (txt env _ m eL eS mx _ _ _ _ (hns.keeps fun b o z => k3 _ _ (k2 _ _ z)) fun u tk => spliced_nil ⟨Heap.get?_push_at rfl rfl, ?_⟩)
  refine call_mw (X2.keeps k3 _ _ hC) (k3 _ _ he2) (Heap.get?_push_at rfl rfl) (by rw [sizeLine_eq]; show 1 ≤ _; omega) fun h4 t4 k4 he4 => ?_
  have X4 : K.In h4 := fun b o z => k4 b o (fun e => by rw [e, ka] at z; cases z) (X2.keeps k3 b o z)
  have hnz : a ≠ h.objs.size := Nat.ne_of_lt hsz
  have hns4 : h4.Ns env.locals m := by
    rw [eL]
    obtain ⟨oL, es, ep, hL, r⟩ := hns
    exact ⟨oL, es, ep, k4 _ _ hnz.symm (k3 _ _ (k2 _ _ hL)), r⟩
  refine wpAt_of_wpAny (wpAny_execs_cons ?_)
  refine plainObj_wpAny_Assign_Attribute (nameAt rfl ekf (key B.xl) mx hns4 B.nd (nameAt rfl ekf (key B.self) ms hns4 (by decide) ?_)) (hs2 _)
  refine set_plain X4 (ox := HandSPX.excO C t4) (od := none) ⟨he4, rfl, rfl, trivial⟩ T.oex.sa ?_
  refine HandSPX.exc_osa X4 he4 hcl (show HandSPX.refsVE (.ref C :: bm) = true from hbm) rfl T.fno fun h5 tk5 dx k5 dn dne he5 hn5 => ?_
  have up : ∀ b o, b ≠ a → h.get? b = some o → h5.get? b = some o := fun b o nb z => k5 b o nb (k4 b o nb (k3 b o (k2 b o (kp b o z))))
  have sz : h.objs.size ≤ h4.objs.size := by
    obtain ⟨oL, es, ep, hL, r⟩ := hns4
    rw [eL] at hL
    exact Nat.le_of_lt (Heap.lt_size hL)
  exact wpAny_execs_nil (k h5 tk5 dx t4 up (Nat.le_trans sz dn) dne he5 hn5)
end
/-! ### C(e), as an exception that is made -/
def ToldV (v : V) : Prop := (∃ i, v = .int i ∧ i.natAbs.log2 < 1900) ∨ ∃ y : Str, v = .str y ∧ y.length ≤ 4000
theorem ToldV.told {v : V} {u : Value} (h : ToldV v) (r : RelV v u) : Told u := by
  rcases h with ⟨i, rfl, hz⟩ | ⟨y, rfl, hz⟩
  · obtain ⟨t, rfl⟩ := r
    exact .inl ⟨i, t, rfl, hz⟩
  · obtain ⟨t, rfl⟩ := r
    exact .inr ⟨y, t, rfl, hz⟩
/-- the class's own text says so (all but what is asked of the program's other parts) -/
structure ExT (params : Arguments) (body : List Stmt) (scope : Scope) (x fld : Str) : Prop where
  bod : ∃ (arg : Expr) (p0 p1 p2 p3 p4 p5 p6 p7 p8 : Pos), body = [.Expr (.Call (.Attribute (.Call (.Name "super" p0) [] [] p1) "__init__" p2) [arg] [] p3) p4, .Assign [.Attribute (.Name "self" p5) fld p6] (.Name x p7) p8] ∧
    (∀ env, starEach [arg] env = (false, eval arg env) :: starEach [] env) ∧
    (∀ env, swapsWith (.Call (.Attribute (.Call (.Name "super" p0) [] [] p1) "__init__" p2) [arg] [] p3) none p4.line env = pure false) ∧
    (∀ env, swapsWith (.Name x p7) (some (.Attribute (.Name "self" p5) fld p6)) p8.line env = pure false) ∧
    (∀ env, ∃ pl : Sem Bool, eval (.Call (.Attribute (.Call (.Name "super" p0) [] [] p1) "__init__" p2) [arg] [] p3) env = (do
      let ov ← attributeBase (.Call (.Name "super" p0) [] [] p1) "__init__" env (eval (.Call (.Name "super" p0) [] [] p1) env)
      standAt p2.atName
      let (f, first) ← holding [ov] (getMethod ov "__init__" pl)
      callWith p3 f first (backTo p3 (starEach [arg] env)) [])) ∧
    (∀ (prog : Program) (w : World) env L (m : Str → Option Value) u, env.locals = L → env.scope = scope → m x = some u → Told u → TextOf (model prog w) env L m arg)
  bind : ∀ (nm qual : Str) (body : List Stmt) (scope : Scope) (cl : List (Str × Addr)) (kV doc pm : Value) (an : Option Addr) (cdv ct a u : Value), bindArgs (PySem.W.fnX nm qual params body scope cl .none kV doc pm an cdv ct) ⟨[a, u], []⟩ = pure [(("self" : Str), a), (x, u)]
  txt : ExB params scope x
section
open PySem.W PySem.Calls PyProof.Rows
variable {X : Cx} {C D fI cc cda : Addr} {qual nm x fld : Str} {params : Arguments} {body : List Stmt} {scope : Scope} {e : Expr} {ta : TA} {y : Str} {p pos : Pos} {k : Nat}
theorem pmk_init (T : ExI X.prog X.K X.mg C D fI cc cda qual nm params body scope x fld) (B : ExT params body scope x fld) (hr : Room (k + 1) X.A) (hg : Gl X y) (hm : X.mg y = some (.ref C)) (ha : PA X [e] ta)
    (hdb : (y == ("__debug__" : Str)) = false := by decide) (he : starEach [e] X.env = (false, eval e X.env) :: starEach [] X.env := by rfl) :
    L2N.PMk X (.Call (.Name y p) [e] [] pos) (fun σ H Q => ta σ H fun vs H1 => ∃ v, vs = [v] ∧ ToldV v ∧ ∀ d, H1 d = none → Q (.ref C) (some d) (upd H1 d (.xd [(fld, v)]))) := by
  intro pins s σ H Q I h
  obtain ⟨arg, p0, p1, p2, p3, p4, p5, p6, p7, p8, rfl, hst, hs1, hs2, hev, htx⟩ := B.bod
  obtain ⟨nmC, q, N, bs, bm, sn, sub, ab, col, dd, k0, k1, k2, k3, k5, hC, hbm⟩ := T.oex.cls
  refine wpAny_Call_Name_kw (ld_glob I hg hm ?_ hdb)
  refine callWith_K (h₀ := X.base) I.ok.mod.kin T.oex.kC (thn (ha.run pos pins s σ H _ I h) fun us s1 hh => ?_) he rfl
  obtain ⟨vs, H1, I1, r1, v, rfl, hv, q1⟩ := hh
  refine ⟨I1.kIn, ?_⟩
  cases r1 with
  | @cons _ u _ ur ry rn =>
    cases rn
    show wpAny _ _ (call (.ref C) [u]) _ _ _
    have KI := I1.kIn
    obtain ⟨mb, b1, b2⟩ := I1.mod.blt
    have gl1 := I1.mod.glob.keeps I1.bk
    have bl1 := b1.keeps I1.bk
    have lim1 : s1.heap.NoLimit := I1.mod.nolimit.keeps I1.bk
    obtain ⟨hp, g, dr, tk, os⟩ := s1
    have kk : ∀ b o, hp.get? b = some o → ((hp.push (kdv_tup [u])).push (HandSPX.excO C hp.objs.size)).get? b = some o := fun b o z => Heap.get?_push_of_some _ (Heap.get?_push_of_some _ z)
    have hget : ((hp.push (kdv_tup [u])).push (HandSPX.excO C hp.objs.size)).get? (hp.objs.size + 1) = some (HandSPX.excO C hp.objs.size) := by heap_get
    have hka : X.K.lookup (hp.objs.size + 1) = none := by
      cases z : X.K.lookup (hp.objs.size + 1) with
      | none => rfl
      | some o => exact absurd (Nat.lt_trans (Nat.lt_succ_self _) (Heap.lt_size (KI _ _ z))) (Nat.lt_irrefl _)
    refine wpAny_call (HandSPX.call_own F.excBase_ValueError (fun Y => HandSPX.refsVE_contains Y bm hbm) (KI _ _ hC) (looks_findIn KI T.iC) (fun self => bind_fn KI self T.tI) (by rw [sizeLine_eq]; show 1 ≤ _; omega) ?_)
    refine init_run T B.txt hst (fun _ _ _ _ _ _ _ _ _ _ _ => ?_) hs1 hs2 hev (KI.keeps kk) hka (gl1.keeps kk) ⟨mb, bl1.keeps kk, b2⟩ (lim1.keeps kk) (by have := (hr.make C [u] []).dp; omega) hget
      (fun env L m e1 e2 e3 => htx _ _ env L m u e1 e2 e3 (hv.told ry)) fun h' tk' dx t1 up dn dne hx hns => ?_
    · exact .of_eq (B.bind ..)
    · refine ⟨rfl, ?_⟩
      obtain ⟨G, g1, g2⟩ := restrict h' fun b => decide (b ≠ hp.objs.size + 1)
      have gk : ∀ b, b ≠ hp.objs.size + 1 → G.get? b = h'.get? b := fun b nb => g1 b (decide_eq_true nb)
      have ga : G.get? (hp.objs.size + 1) = none := g2 _ (by simp)
      have nb : ∀ {b : Addr} {o : Obj}, hp.get? b = some o → b ≠ hp.objs.size + 1 := fun {b o} z e => by
        have y := Heap.lt_size z
        rw [e] at y
        exact absurd (Nat.lt_trans (Nat.lt_succ_self _) y) (Nat.lt_irrefl _)
      have dle : hp.objs.size ≤ dx := by
        rw [Heap.size_push, Heap.size_push] at dn
        exact Nat.le_trans (Nat.le_trans (Nat.le_succ _) (Nat.le_succ _)) dn
      have J : Inv X pins σ (upd H1 dx (.xd [(fld, v)])) ⟨G, g, dr, tk', os⟩ := I1.laid (t' := tk') (h' := G) (a := dx) (o := .xd [(fld, v)]) (fun b o z => (gk b (nb z)).trans (up b o (nb z) (kk b o z))) dle
        ⟨_, hns.at fun o z => (gk dx dne).trans z, relO_put (fs := []) ry fun _ => trivial⟩
      refine ⟨hp.objs.size + 1, _, _, ⟨G, g, dr, tk', os⟩, _, .ref C, some dx, rfl, J, fun b o z => ?_, ga, hx, ⟨rfl, rfl, fun ws z => by cases z; rfl⟩, rfl, rfl, ?_, rfl, I1.bare, raises_own T.oex.exC T.oex.tyC, q1 dx (I1.hok.fresh dle)⟩
      · by_cases e : b = hp.objs.size + 1
        · rw [e, ga] at z
          cases z
        · exact (gk b e).symm.trans z
      · rw [upd_ne (fun z => dne z.symm)]
        exact I1.hok.fresh (Nat.le_succ _)
end
end Z
set_option Elab.async false
set_option linter.all false
set_option maxRecDepth 100000
set_option maxHeartbeats 4000000
/-! Z27: raise of an own class, try .. except X as e with a suite that returns. -/
namespace Z
open PySem L2
variable [tabsI : TabsT]
variable {S : Scp} {Γ : Cg} {δ : List Sl} {K : Kp}
/-- a class of the module, made by an __init__ as Z26 has it -/
structure ExcOk (P : Program) (K : PySem.W.Frag) (mg : Str → Option Value) (y : Str) (C : Addr) (fld : Str) : Prop where
  at_ : mg y = some (.ref C)
  ex : ∃ D fI cc cda qual nm params body scope x, ExI P K mg C D fI cc cda qual nm params body scope x fld ∧ ExT params body scope x fld
/-- what may be told of it in its text -/
def TolD : D → Prop
  | .int i => i.natAbs.log2 < 1900
  | .str y => y.length ≤ 4000
  | _ => False
theorem TolD.v {KK : PySem.W.Frag} {G H : Hp} {d : D} {v : V} (h : TolD d) (r : Rep KK G H d v) : ToldV v := by
  cases d <;> unfold Rep at r <;> first | exact .inl ⟨_, r, h⟩ | exact .inr ⟨_, r, h⟩ | exact h.elim
theorem js_raise [Calm Γ] {y fld : Str} {C : Addr} {p pos pos' : Pos} {e : Expr} (F : ExcOk Γ.P Γ.K Γ.mg y C fld) (hl : 2 ≤ S.lv) (hg : HasG S.gl y) (h : JE S Γ e δ fun d => TolD d ∧ Γ.ex δ (.ref C) [fld] [d])
    (hdb : (y == ("__debug__" : Str)) = false := by decide) (he : ∀ env, starEach [e] env = (false, eval e env) :: starEach [] env := by intro _; rfl) : JS S Γ (.Raise (some (.Call (.Name y p) [e] [] pos)) none pos') δ K := by
  refine ⟨fun X hX σ G H De s ev en => ?_⟩
  obtain ⟨D, fI, cc, cda, qual, nm, params, body, scope, x, T, B⟩ := F.ex
  have T' : ExI X.prog X.K X.mg C D fI cc cda qual nm params body scope x fld := by rw [hX.prog, hX.K, hX.mg]; exact T
  have hk : Gl X y := by show X.env.scope.names.lookup y = _; rw [hX.sc]; exact hX.so.gl y hg.mem
  refine PSw (L2N.ps_raise (hX.calm Calm.hx) hX.tk (pmk_init (k := 0) T' B ((hX.room Calm.hx).mono (by omega)) hk (by rw [hX.mg]; exact F.at_) (pa_cons wE_pe pa_nil (he _)) hdb (he _))) ?_
  refine h.run X hX σ G H s ev _ fun v G1 H1 d s1 r1 q => ?_
  refine ⟨v, rfl, q.1.v r1, fun a ha => ?_⟩
  have s2 : Stp Γ.K G1 H1 (upd G1 a (.xd [(fld, v)])) (upd H1 a (.xd [(fld, v)])) := .new s1.sub ha
  exact ⟨_, δ, [fld], [d], (s.trans s1).trans s2, ev.mono (s1.trans s2), .inr ⟨a, _, rfl, upd_same, rfl, .one (r1.mono s2)⟩, q.2⟩
/-- the surroundings of a suite: the exception at h.1 is handled -/
abbrev Cg.sui (Γ : Cg) (h : Addr × Addr × Option Addr) : Cg := { Γ with ex := fun _ _ _ _ => False, md := .hot h }
/-- what an exception of the body finds: the clause's class at c, its slot i, its suite -/
def catchX (S : Scp) (Γ : Cg) (c : Value) (i : Nat) (suite : List Stmt) (R : D → Prop) : List Sl → Value → List Str → List D → Prop := fun δ' cls ns ds =>
  ∃ (C : Addr) (b : Bool), cls = .ref C ∧ PySem.W.exmOne Γ.K cls c = some b ∧
    (b = true → ∀ a d, JSs S (Γ.sui (a, C, d)) suite (δ'.set i (.fz (.exc a d ns ds))) { nx := fun _ => False, rt := R }) ∧ (b = false → Γ.ex δ' cls ns ds)
abbrev Cg.tr (Γ : Cg) (ex : List Sl → Value → List Str → List D → Prop) : Cg := { Γ with ex := ex }
instance calm_tr {Γ : Cg} {ex : List Sl → Value → List Str → List D → Prop} [c : Calm Γ] : Calm (Γ.tr ex) := ⟨c.hx⟩
theorem COk.tr {X : Cx} (hX : COk S Γ X) {ex : List Sl → Value → List Str → List D → Prop} {xe : Value → Shared → Prop} {pn : List (Addr × Obj)} (hc : Γ.md = .calm) (tk : L2N.Takes (X.tr pn xe) (wx (Γ.tr ex))) (po : PassesOwn (model X.prog X.w) X.A X.env xe) : COk S (Γ.tr ex) (X.tr pn xe) :=
  ⟨hX.so, hX.prog, hX.w, hX.K, hX.mg, hX.base, hX.N, hX.sc, hX.calm, hX.room, hX.roomH, (fun h z => by rw [show (Γ.tr ex).md = .calm from hc] at z; cases z), hX.st, (fun hb => ⟨(hX.def_ hb).1, (hX.def_ hb).2.1, (hX.def_ hb).2.2.1, po⟩), tk, hX.tb, hX.cd⟩
theorem COk.sui {X : Cx} (hX : COk S Γ X) {a C : Addr} {d : Option Addr} {oe : Obj} {pn : List (Addr × Obj)} (hz : L2N.Zn (.ref C) d oe) (hf : ∃ vs, oe.data = .fields vs) : COk S (Γ.sui (a, C, d)) (X.suite a ((a, oe) :: pn)) := by
  obtain ⟨vs, hd⟩ := hf
  refine ⟨hX.so, hX.prog, hX.w, hX.K, hX.mg, hX.base, hX.N, hX.sc, (fun z => by cases z), (fun z => by cases z), ⟨hX.roomH.dp, hX.roomH.un⟩, (fun h z => ?_), hX.st, (fun hb => ⟨(hX.def_ hb).1, (hX.def_ hb).2.1, (hX.def_ hb).2.2.1, PassesOwn.never⟩), ?_, hX.tb, hX.cd⟩
  · cases z
    exact ⟨oe, List.mem_cons_self, ⟨rfl, vs, hd, hz.2.2 vs hd⟩, hz.1, hz.2.1, rfl, vs, hd⟩
  · rintro u s' ⟨_, _, _, _, _, _, _, _, _, _, _, _, _, _, _, _, _, _, _, _, _, _, _, z⟩
    exact z.elim
theorem js_try [Calm Γ] {x n : Str} {c : Value} {i : Nat} {body suite : List Stmt} {b₀ : Stmt} {np pos pos' : Pos} (hb : Γ.blk = false) (hv : (n, i) ∈ S.ss) (hn : S.sc.names.lookup n = some .local) (hg : HasG S.gl x) (hc : Γ.mg x = some c) (hdb : (x == ("__debug__" : Str)) = false)
    (h : JSs S (Γ.tr (catchX S Γ c i (b₀ :: suite) K.rt)) body δ K) : JS S Γ (.Try body [.ExceptHandler (some (.Name x np)) (some n) (b₀ :: suite) pos'] [] [] pos) δ K := by
  refine ⟨fun X hX σ G H De s ev en => ?_⟩
  obtain ⟨h1, h2, h3⟩ := hX.loc hv
  obtain ⟨d1, d2, d3, d4⟩ := hX.def_ hb
  have hk : Gl X x := by show X.env.scope.names.lookup x = _; rw [hX.sc]; exact hX.so.gl x hg.mem
  refine PSw (L2N.ps_try_as (n := n) (i := i) (c := c) (tb := fun W D σ H => ∀ pn xe, L2N.Takes (X.tr pn xe) W → PassesOwn (model X.prog X.w) X.A X.env xe → wSs (X.tr pn xe) body D σ H)
    (ts := fun a cls d D σ H => ∀ oe pn, L2N.Zn cls d oe → (∃ vs, oe.data = .fields vs) → wSs (X.suite a ((a, oe) :: pn)) (b₀ :: suite) D σ H) d1 d2 (by rw [hX.N]; exact hX.so.nd) h1
    (by show X.env.scope.names.lookup n = _; rw [hX.sc]; exact hn) ⟨hk, hdb, .inl (by rw [hX.mg]; exact hc)⟩ hX.tk (fun W pn xe tk po => ⟨fun pins s σ H D I q => q pn xe tk po pins s I⟩) (fun a oe cls d pn hz hf => ⟨fun pins s σ H D I q => q oe pn hz hf pins s I⟩)) ?_
  intro pn xe tk po
  refine h.run (X.tr pn xe) (hX.tr Calm.hx (tk.imp ?_) po) σ G H De s ev ⟨en.nx, en.bk, en.ct, en.rt, en.rf⟩
  rintro cls d σ' H' ⟨G', δ', ns, ds, s', ev', xd, C, b, rfl, hm, yes, no⟩
  refine ⟨b, by rw [hX.K]; exact hm, fun e a na oe pn' hz hf => ?_, fun e => ⟨G', δ', ns, ds, s', ev', xd, no e⟩⟩
  have rp : Rep Γ.K G' H' (.exc a d ns ds) (.ref a) := by
    unfold Rep
    refine ⟨rfl, ?_⟩
    rcases xd with ⟨rfl, rfl, rfl⟩ | ⟨dd, fs, e1, e2, e3, e4⟩
    · exact ⟨[], .inl ⟨rfl, rfl, rfl⟩, .nil⟩
    · exact ⟨_, .inr ⟨dd, fs, e1, e2, e3, rfl⟩, e4⟩
  exact (yes e a d).run _ (hX.sui hz hf) _ G' H' _ s' (ev'.set rp) ⟨fun _ _ _ _ _ _ _ q => q.elim, fun _ _ _ _ _ _ _ q => q.elim, fun _ _ _ _ _ _ _ q => q.elim, en.rt, en.rf⟩
end Z
set_option Elab.async false
set_option linter.all false
set_option maxRecDepth 100000
set_option maxHeartbeats 4000000
/-! Z28: within a suite: isinstance of the caught exception, its fields, comprehensions over lists, sum. -/
namespace Z
open PySem L2
variable [tabsI : TabsT]
class HotG (Γ : Cg) : Prop where
  hx : ∃ h, Γ.md = .hot h
instance hot_sui {Γ : Cg} {h : Addr × Addr × Option Addr} : HotG (Γ.sui h) := ⟨h, rfl⟩
instance hot_of {P : Program} {w : World} {K : PySem.W.Frag} {mg : Str → Option Value} {base : Heap} {G H : Hp} {ex : List Sl → Value → List Str → List D → Prop} {hx : Addr × Addr × Option Addr} : HotG (cgOfH P w K mg base G H ex hx) := ⟨hx, rfl⟩
variable {S S' : Scp} {Γ : Cg} {δ : List Sl} {K : Kp}
theorem COk.hotC [HotG Γ] {X : Cx} (hX : COk S Γ X) : L2H.HotC X ∧ X.calm = false := by
  obtain ⟨h, e⟩ := HotG.hx (Γ := Γ)
  obtain ⟨oe, h1, h2, _, _, h3, _⟩ := hX.hot h e
  exact ⟨⟨_, h2, h1⟩, h3⟩
/-! ### comprehensions -/
theorem pe_lcH {X : Cx} {elt tg iter : Expr} {ifs : List Expr} {scope : Scope} {own : List (Str × Nat)} {pos : Pos} {wi : TI} {g : TG} {tt : TT} {te : TE} (hot : L2H.HotC X) (nd : X.N.Nodup) (hi : L2H.PIH X tg iter wi) (ok : BlkOk X.N X.env.scope scope own)
    (hg : ∀ s H C cl fp, PG (X.blk s H scope (compEnvC scope cl C X.env) fp) tg g) (ht : ∀ s H C cl fp, PTs (X.blk s H scope (compEnvC scope cl C X.env) fp) ifs tt) (he : ∀ s H C cl fp, PE (X.blk s H scope (compEnvC scope cl C X.env) fp) elt te)
    (hs : ∀ x, foldedSetIterable iter X.env x = pure x) : PE X (.ListComp elt [⟨tg, iter, ifs, 0⟩] scope pos) (tLc wi g tt te (own.map (·.2))) := by
  refine ⟨fun pins s σ H Q I h => ?_⟩
  rw [eval_ListComp]
  refine Zh.lc_hot hot nd I hi ok hg ht he hs h fun D C s' m H' J q hn f => ⟨m, hn, fun h2 sb => ⟨.ref D, H', J.turned (t' := s'.toks) (fun b o hb e => (sb.2 b hb).trans e) f.1 f.2.1 f.2.2.2.1 f.2.2.2.2.1 f.2.2.2.2.2, rfl, q⟩⟩
theorem jf_lcH [HotG Γ] {tg elt iter : Expr} {ifs : List Expr} {scope : Scope} {own : List (Str × Nat)} {pos : Pos} {PL : List D → Prop} (B : BlkS S S' scope own)
    (h : JI S Γ tg iter δ fun n f => ∃ A : Nat → List D → Prop, A 0 [] ∧ (∀ i acc, i < n → A i acc → JGW S' Γ.inBlk (own.map (·.2)) tg (f i) (wipeD δ (own.map (·.2))) fun δ2 => JTs S' Γ.inBlk ifs δ2 fun t => if t = true then JE S' Γ.inBlk elt δ2 fun d => acc.length < sizeLine ∧ A (i + 1) (acc ++ [d]) else A (i + 1) acc) ∧ ∀ acc, A n acc → PL acc)
    (hs : ∀ env x, foldedSetIterable iter env x = pure x := by intros; rfl) : JF S Γ (.ListComp elt [⟨tg, iter, ifs, 0⟩] scope pos) δ PL := by
  refine ⟨fun X hX σ G H s ev Q k => ?_⟩
  obtain ⟨hc, hf⟩ := hX.hotC
  refine PEw (pe_lcH hc (by rw [hX.N]; exact hX.so.nd) (wI_piH hf) (by rw [hX.N, hX.sc]; exact B.ok) (fun s H C cl fp => ⟨fun pins s0 σ H0 v u Q I r q => q s H C cl fp pins s0 u I r⟩) (fun s H C cl fp => ⟨fun pins s0 σ H0 Q I q => q s H C cl fp pins s0 I⟩) (fun s H C cl fp => ⟨fun pins s0 σ H0 Q I q => q s H C cl fp pins s0 I⟩) (hs _)) (lc_t B h hX s ev k)
theorem cd_sumH [HotG Γ] {is : List Int} {P : D → Prop} (h : P (.int is.sum)) : CallD S Γ (.builtin "sum") [.lst (is.map D.int)] P := by
  refine ⟨fun X hX vs G H st r Q k => ?_⟩
  obtain ⟨v, rfl, r1⟩ := repL1 r
  unfold Rep at r1
  obtain ⟨p, ys, rfl, h1, h2⟩ := r1
  rw [RepL.ints h2] at h1
  exact CallRw (Zh.cr_sumH hX.hotC.1) ⟨p, is, rfl, .inl (.inl (st.sub _ _ h1)), k _ G H _ (.refl st.sub) rep_int h⟩
/-! ### the caught exception asked -/
theorem XdV.inst {P : Program} {w : World} {G H : Hp} {h : Heap} {a C : Addr} {d : Option Addr} {ns : List Str} {vs : List V} {oe : Obj} (x : XdV G d ns vs) (st : Same G H) (hok : HOk P w H h) (g : h.get? a = some oe) (c : oe.cls = .ref C) (dd : oe.dict = d) (f : ∃ vs, oe.data = .fields vs) :
    ∃ od, PySem.W.InstAt h a oe C od := by
  obtain ⟨fv, hd⟩ := f
  have nc : PySem.W.notCls oe = true := by unfold PySem.W.notCls; rw [hd] <;> rfl
  rcases x with ⟨rfl, _, _⟩ | ⟨x, fs, rfl, g1, _, _⟩
  · exact ⟨none, g, c, nc, by rw [dd]; trivial⟩
  · obtain ⟨mA, hns, _⟩ : ObjOk P w H h x (.xd fs) := hok x _ (st _ _ g1)
    obtain ⟨od, ho, _⟩ := lookIn_ns hns
    exact ⟨some od, g, c, nc, by rw [dd]; exact ho⟩
def clsV : D → Option Value
  | .cls a => some (.ref a)
  | .ty n => some (.type n)
  | _ => none
theorem clsV_eq {KK : PySem.W.Frag} {G H : Hp} {c : D} {cv : Value} {v : V} {u : Value} (h : clsV c = some cv) (r : Rep KK G H c v) (ru : RelV v u) : u = cv := by
  cases c <;> first | (cases h; done) | skip
  all_goals
    unfold Rep at r
    subst r
    cases h
    first | exact ru | (cases ru; rfl)
theorem cd_isE {a C : Addr} {d : Option Addr} {ns : List Str} {ds : List D} {c : D} {cv : Value} {b : Bool} {P : D → Prop} (hmd : Γ.md = .hot (a, C, d)) (T : ExcC Γ.K C) (hc : clsV c = some cv) (e : PySem.W.kitOne Γ.K (.ref C) cv = some b) (h : P (.bl b)) :
    CallD S Γ (.builtin "isinstance") [.exc a d ns ds, c] P := by
  refine ⟨fun X hX vs G H st r Q k => ?_⟩
  obtain ⟨v, u, rfl, r1, r2⟩ := repL2 r
  unfold Rep at r1
  obtain ⟨rfl, ws, xv, _⟩ := r1
  obtain ⟨oe, p1, _, p3, p4, _, p5⟩ := hX.hot _ hmd
  intro pins s σ us I rr
  cases rr with
  | cons ra rr =>
    cases rr with
    | cons rc rr =>
      cases rr
      cases ra
      cases clsV_eq hc r2 rc
      have P1 := I.pin (a, oe) (List.mem_append_left _ p1)
      obtain ⟨od, J⟩ := xv.inst st.sub I.hok P1.1 p3 p4 p5
      obtain ⟨cd, hcl, _⟩ := PySem.W.any_some T.hd
      exact PySem.W.kia_one (PySem.W.kitx_exc (od := od) (ox := oe) (by rw [hX.K, hcl]; rfl) (by rw [hX.K]; exact T.hg) (by rw [hX.K]; exact T.hk) (by rw [hX.K]; exact T.hs) (by rw [hX.K]; exact T.ha) (by rw [hX.K]; exact T.hn) (by rw [hX.K]; exact T.ht) (by rw [hX.K]; exact T.hm)) I.kIn J (by rw [hX.K]; exact e) (fun z => nomatch z)
        fun tk => ⟨.bl b, H, I.kept (t' := tk) fun _ _ z => z, rfl, k _ G H _ (.refl st.sub) rep_bl h⟩
/-- e.f -/
theorem je_excF {a C : Addr} {d : Option Addr} {n : Str} {e : Expr} {pos : Pos} {P : D → Prop} (hmd : Γ.md = .hot (a, C, d)) (T : ExcC Γ.K C) (hno : PySem.W.findIn Γ.K (.ref C) n = some none)
    (h : JE S Γ e δ fun x => ∃ ns ds y, x = .exc a d ns ds ∧ (ns.zip ds).lookup n = some y ∧ P y) (hb : ∀ env, attributeBase e n env (eval e env) = eval e env := by intro _; rfl) : JE S Γ (.Attribute e n pos) δ P := by
  refine ⟨fun X hX σ G H st ev Q k => fun pins s I => ?_⟩
  obtain ⟨oe, p1, _, p3, p4, _, p5⟩ := hX.hot _ hmd
  refine attr_of (hb _) (thn (h.run X hX σ G H st ev (fun v H1 => v = .ref a ∧ ∃ (x : Addr) (fs : List (Str × V)) (y : V), d = some x ∧ H1 x = some (.xd fs) ∧ fs.lookup n = some y ∧ Q y H1) (fun v G1 H1 x s1 r1 q => ?_) pins s I) fun u s1 hh => ?_)
  · obtain ⟨ns, ds, y, rfl, hl, py⟩ := q
    unfold Rep at r1
    obtain ⟨rfl, vs, xv, rl⟩ := r1
    rcases xv with ⟨_, rfl, rfl⟩ | ⟨x, fs, rfl, g1, e1, rfl⟩
    · cases hl
    · obtain ⟨w, e2, r2⟩ := lookup_rep e1 rl hl
      exact ⟨rfl, x, fs, w, rfl, s1.sub _ _ g1, e2, k w G1 H1 y s1 r2 py⟩
  · obtain ⟨v, H1, I1, rv, rfl, x, fs, y, hd, hx, hl, q⟩ := hh
    cases rv
    obtain ⟨mA, hns, rel⟩ : ObjOk X.prog X.w H1 s1.heap x (.xd fs) := I1.hok x _ hx
    obtain ⟨od, ho, hlk⟩ := lookIn_ns hns
    obtain ⟨z, hz, rz⟩ := RelO.some_of (v := y) (o := mA n) (by rw [← hl]; exact rel n)
    have P1 := I1.pin (a, oe) (List.mem_append_left _ p1)
    obtain ⟨fv, hfv⟩ := p5
    have J : PySem.W.InstAt s1.heap a oe C (some od) := ⟨P1.1, p3, by unfold PySem.W.notCls; rw [hfv] <;> rfl, by rw [p4, hd]; exact ho⟩
    have K0 := I1.kIn
    rw [hX.K] at K0
    exact HandSPX.exc_get K0 J T.hg T.hk T.hs (PySem.W.findObj_own T.hd hno rfl (by rw [hlk, hz])) (handed_of rz) ⟨y, H1, I1.tok _, rz, q⟩
/-! raise C() of an own error class without an __init__ of its own -/
section
abbrev veBases : List Value := [.type "ValueError", .type "Exception", .type "BaseException", .type "object"]
/-- an own class over ValueError without __init__ -/
structure Exc0 (K : PySem.W.Frag) (mg : Str → Option Value) (y : Str) (C : Addr) : Prop where
  at_ : mg y = some (.ref C)
  q : PySem.W.excIn K C veBases "ValueError.__new__" = true
  kC : PySem.W.keepIn K (.ref C) = true
  exC : PySem.W.subIn K (.ref C) (.type "BaseException") = some true
  tyC : PySem.W.typeIn K (.ref C) = some (.type "type")
theorem pmk_own0 {X : Cx} {C : Addr} {x : Str} {p pos : Pos} (q : Exc0 X.K X.mg x C) (hg : Gl X x) (hdb : (x == ("__debug__" : Str)) = false := by decide) :
    L2N.PMk X (.Call (.Name x p) [] [] pos) (fun _ H Q => Q (.ref C) none H) := by
  intro pins s σ H Q I h
  refine wpAny_Call_Name_kw (ld_glob I hg q.at_ ?_ hdb)
  refine PySem.W.callWith_K0 I.kIn q.kC ?_
  show wpAny _ _ (call (.ref C) []) _ _ _
  obtain ⟨bm, N, nm, qn, bs, hdct, sn, sub, ab, col, dd, k0, k1, k2, k3, k5, mN, hC, hN, hni, T⟩ := exc_obj I.kIn q.q
  refine wpAny_call_exc_subT F.excBase_ValueError T hC hN hni (fun h' e hm => ?_) (Nat.zero_le _)
  exact L2N.mk_of I hm (raises_own q.exC q.tyC) h (I.hok.gone hm.new)
variable {S : Scp} {Γ : Cg} {δ : List Sl} {K : Kp}
theorem js_raise0 [Calm Γ] {y : Str} {C : Addr} {p pos pos' : Pos} (F : Exc0 Γ.K Γ.mg y C) (hg : HasG S.gl y) (h : Γ.ex δ (.ref C) [] []) (hdb : (y == ("__debug__" : Str)) = false := by decide) : JS S Γ (.Raise (some (.Call (.Name y p) [] [] pos)) none pos') δ K := by
  refine ⟨fun X hX σ G H De s ev en => ?_⟩
  have F' : Exc0 X.K X.mg y C := by rw [hX.K, hX.mg]; exact F
  have hk : Gl X y := by show X.env.scope.names.lookup y = _; rw [hX.sc]; exact hX.so.gl y hg.mem
  refine PSw (L2N.ps_raise (hX.calm Calm.hx) hX.tk (pmk_own0 F' hk hdb)) ?_
  exact ⟨_, δ, [], [], s, ev, .inl ⟨rfl, rfl, rfl⟩, h⟩
end
end Z
set_option Elab.async false
set_option linter.all false
set_option maxRecDepth 100000
set_option maxHeartbeats 4000000
/-! Z29: the program's error classes: what a module's facts say of them; the rules by their names. -/
namespace Z
open PySem L2
variable [tabsI : TabsT]
theorem tolI {i : Int} (h : i.natAbs.log2 < 1900) : TolD (.int i) := h
theorem exc_look {n f : Str} {v : D} (h : n = f) : ([f].zip [v]).lookup n = some v := by
  subst h
  simp [List.lookup]
/-- the field that an error class keeps -/
def fldOf (y : Str) : Str :=
  if y = "BadText" ∨ y = "BadPlan" ∨ y = "BadCourse" then "at" else if y = "BadPage" then "row" else if y = "TooLong" ∨ y = "TooDeep" ∨ y = "TooMany" then "limit" else if y = "Untold" then "degree" else if y = "HasGap" then "gap" else "name"
/-- is an error of the class y one of the class z -/
def isSub (y z : Str) : Bool := decide (y = z) || decide (z = "TrialError") || (decide (z = "Refused") && decide (y = "Begun" ∨ y = "Unknown" ∨ y = "Twice" ∨ y = "Stopped" ∨ y = "NotEnded"))
structure ErrC (U : Env1) (XA : Str → Addr) (made raised names : List Str) : Prop where
  mkx : ∀ y ∈ made, ExcOk U.P U.K U.mg y (XA y) (fldOf y)
  ec : ∀ y ∈ raised, ExcC U.K (XA y)
  mg : ∀ y ∈ names, U.mg y = some (.ref (XA y))
  kit : ∀ y ∈ raised, ∀ z ∈ names, PySem.W.kitOne U.K (.ref (XA y)) (.ref (XA z)) = some (isSub y z)
  kv : ∀ y ∈ raised, PySem.W.kitOne U.K (.ref (XA y)) (.type "ValueError") = some true
  ex : ∀ y ∈ raised, ∀ z ∈ names, PySem.W.exmOne U.K (.ref (XA y)) (.ref (XA z)) = some (isSub y z)
  fn : ∀ y ∈ made, PySem.W.findIn U.K (.ref (XA y)) (fldOf y) = some none
  mk0 : ∀ y ∈ raised, y ∉ made → Exc0 U.K U.mg y (XA y)
section
variable {U : Env1} {XA : Str → Addr} {made raised names : List Str} {S : Scp} {Γ : Cg} {δ : List Sl} {K : Kp} {P : D → Prop} {pos : Pos}
theorem ErrC.exT (h : ErrC U XA made raised names) {y z : Str} (hy : y ∈ raised) (hz : z ∈ names) (e : isSub y z = true) : PySem.W.exmOne U.K (.ref (XA y)) (.ref (XA z)) = some true := by rw [h.ex y hy z hz, e]
/-- raise y(e) -/
theorem zs_raise [Calm Γ] {y : Str} {p pos pos' : Pos} {e : Expr} (hE : ErrC U XA made raised names) (hP : Γ.P = U.P) (hK : Γ.K = U.K) (hM : Γ.mg = U.mg) (hy : y ∈ made) (hl : 2 ≤ S.lv) (hg : HasG S.gl y) (h : JE S Γ e δ fun d => TolD d ∧ Γ.ex δ (.ref (XA y)) [fldOf y] [d])
    (hdb : (y == ("__debug__" : Str)) = false := by decide) (he : ∀ env, starEach [e] env = (false, eval e env) :: starEach [] env := by intro _; rfl) : JS S Γ (.Raise (some (.Call (.Name y p) [e] [] pos)) none pos') δ K :=
  js_raise (by rw [hP, hK, hM]; exact hE.mkx y hy) hl hg h hdb he
/-- raise y() -/
theorem zs_raise0 [Calm Γ] {y : Str} {p pos pos' : Pos} (hE : ErrC U XA made raised names) (hK : Γ.K = U.K) (hM : Γ.mg = U.mg) (hy : y ∈ raised) (hn : y ∉ made) (hg : HasG S.gl y) (h : Γ.ex δ (.ref (XA y)) [] [])
    (hdb : (y == ("__debug__" : Str)) = false := by decide) : JS S Γ (.Raise (some (.Call (.Name y p) [] [] pos)) none pos') δ K :=
  js_raise0 (by rw [hK, hM]; exact hE.mk0 y hy hn) hg h hdb
/-- an exception reaches the clause of its class -/
theorem catchT (hE : ErrC U XA made raised names) (hK : Γ.K = U.K) {y z : Str} {i : Nat} {suite : List Stmt} {R : D → Prop} {δ' : List Sl} {ns : List Str} {ds : List D} (hy : y ∈ raised) (hz : z ∈ names) (e : isSub y z = true)
    (h : ∀ a d, JSs S (Γ.sui (a, XA y, d)) suite (δ'.set i (.fz (.exc a d ns ds))) { nx := fun _ => False, rt := R }) : catchX S Γ (.ref (XA z)) i suite R δ' (.ref (XA y)) ns ds :=
  ⟨XA y, true, rfl, by rw [hK]; exact hE.exT hy hz e, fun _ => h, fun z => by cases z⟩
theorem zs_try [Calm Γ] {x n : Str} {i : Nat} {body suite : List Stmt} {b₀ : Stmt} {np pos pos' : Pos} {N B C : List Sl → Prop} {R : D → Prop} (hE : ErrC U XA made raised names) (hM : Γ.mg = U.mg) (hb : Γ.blk = false) (hv : Has S.ss n i) (hn : S.sc.names.lookup n = some .local) (hg : HasG S.gl x) (hx : x ∈ names) (hdb : (x == ("__debug__" : Str)) = false)
    (h : JSs S (Γ.tr (catchX S Γ (.ref (XA x)) i (b₀ :: suite) R)) body δ ⟨N, R, B, C⟩) : JS S Γ (.Try body [.ExceptHandler (some (.Name x np)) (some n) (b₀ :: suite) pos'] [] [] pos) δ ⟨N, R, B, C⟩ :=
  js_try hb hv.mem hn hg (by rw [hM]; exact hE.mg x hx) hdb h
theorem cd_isEV (hE : ErrC U XA made raised names) (hK : Γ.K = U.K) {y : Str} {a : Addr} {d : Option Addr} {ns : List Str} {ds : List D} (hmd : Γ.md = .hot (a, XA y, d)) (hy : y ∈ raised) (h : P (.bl true)) : CallD S Γ (.builtin "isinstance") [.exc a d ns ds, .ty "ValueError"] P :=
  cd_isE hmd (by rw [hK]; exact hE.ec y hy) rfl (by rw [hK]; exact hE.kv y hy) h
theorem ze_excF (hE : ErrC U XA made raised names) (hK : Γ.K = U.K) {y n : Str} {a : Addr} {d : Option Addr} {e : Expr} {pos : Pos} (hmd : Γ.md = .hot (a, XA y, d)) (hy : y ∈ raised) (hm : y ∈ made) (hn : n = fldOf y) (h : JE S Γ e δ fun x => ∃ ns ds v, x = .exc a d ns ds ∧ (ns.zip ds).lookup n = some v ∧ P v)
    (hb : ∀ env, attributeBase e n env (eval e env) = eval e env := by intro _; rfl) : JE S Γ (.Attribute e n pos) δ P :=
  je_excF hmd (by rw [hK]; exact hE.ec y hy) (by rw [hK, hn]; exact hE.fn y hm) h hb
theorem ze_err (hE : ErrC U XA made raised names) (hM : Γ.mg = U.mg) {z : Str} {pos : Pos} (hg : HasG S.gl z) (hz : z ∈ names) (h : P (.cls (XA z))) (hdb : (z == ("__debug__" : Str)) = false) : JE S Γ (.Name z pos) δ P := je_globA hg.mem (by rw [hM]; exact hE.mg z hz) h hdb
theorem zt_VE (hg : HasG S.gl "ValueError") (hm : Γ.mg "ValueError" = none) (h : P (.ty "ValueError")) : JE S Γ (.Name "ValueError" pos) δ P := je_globT hg.mem hm (by decide +kernel) h (by decide) (by decide)
end
end Z
set_option Elab.async false
set_option linter.all false
set_option maxRecDepth 100000
set_option maxHeartbeats 4000000
/-! Z30: len of an instance of an own class. -/
namespace Z
open PySem L2 PyProof.Rows
variable [tabsI : TabsT]
/-- the answer that a contract may give where a length is wanted -/
def ansL (P : Int → Prop) (d : D) : Prop := ∃ i : Int, d = .int i ∧ (0 ≤ i ∧ i < 2 ^ 63) ∧ P i
end Z
set_option Elab.async false
set_option linter.all false
set_option maxRecDepth 100000
set_option maxHeartbeats 4000000
/-! Z31: the error classes' facts from what the top says. -/
namespace Z
open PySem L2
variable [tabsI : TabsT]
section
variable {K : PySem.W.Frag} {y z : Addr} {b : Bool}
theorem cls_some (hd : PySem.W.hasDictIn K z = true) : (PySem.W.clsIn K z).isSome = true := by
  obtain ⟨cd, h, _⟩ := PySem.W.any_some hd
  rw [h]
  rfl
theorem kit_of2 (hd : PySem.W.hasDictIn K z = true) (ht : PySem.W.typeIn K (.ref z) = some (.type "type")) (hs : PySem.W.subIn K (.ref y) (.ref z) = some b) (hr : y = z → b = true) : PySem.W.kitOne K (.ref y) (.ref z) = some b := by
  unfold PySem.W.kitOne
  split
  · rename_i h
    rw [hr (Value.ref.inj (beq_iff_eq.mp h))]
  · show (if ((PySem.W.clsIn K z).isSome && PySem.W.typeIn K (.ref z) == some (.type "type")) = true then _ else none) = _
    rw [if_pos (by rw [cls_some hd, ht]; rfl)]
    exact hs
theorem exm_of2 (he : PySem.W.subIn K (.ref z) (.type "BaseException") = some true) (hd : PySem.W.hasDictIn K z = true) (ht : PySem.W.typeIn K (.ref z) = some (.type "type")) (hs : PySem.W.subIn K (.ref y) (.ref z) = some b) : PySem.W.exmOne K (.ref y) (.ref z) = some b := PySem.W.exm_ref he hd ht hs
theorem kit_VE (hs : PySem.W.subIn K (.ref y) (.type "ValueError") = some true) : PySem.W.kitOne K (.ref y) (.type "ValueError") = some true := by
  unfold PySem.W.kitOne
  rw [if_neg (by simp)]
  show (if PySem.W.kitMeta "ValueError" = true then _ else none) = _
  rw [if_pos (by decide +kernel)]
  exact hs
end
end Z
set_option Elab.async false
set_option linter.all false
set_option maxRecDepth 100000
set_option maxHeartbeats 4000000
/-! Z32: data with own lists in it: made, kept in a slot, looked at (view), changed at a path, frozen, handed back. -/
namespace Z
open PySem L2
variable [tabsI : TabsT]

mutual
def MT.flat : MT → D
  | .fz d => d
  | .ls ts => .lst (MT.flatL ts)
  | .tp ts => .tup (MT.flatL ts)
def MT.flatL : List MT → List D
  | [] => []
  | t :: ts => t.flat :: MT.flatL ts
end
theorem flatL_map : ∀ ts : List MT, MT.flatL ts = ts.map MT.flat
  | [] => by unfold MT.flatL; rfl
  | t :: ts => by unfold MT.flatL; rw [flatL_map ts]; rfl
theorem flatL_fz : ∀ ds : List D, MT.flatL (ds.map .fz) = ds
  | [] => by rw [List.map_nil]; unfold MT.flatL; rfl
  | d :: ds => by rw [List.map_cons]; unfold MT.flatL; rw [flatL_fz ds]; rfl
abbrev MT.fzs (ds : List D) : MT := .ls (ds.map .fz)
/-- the addresses put among what never changes -/
def frz (G H : Hp) (as : List Addr) : Hp := fun b => if b ∈ as then H b else G b
def unfrz (G : Hp) (as : List Addr) : Hp := fun b => if b ∈ as then none else G b
section
variable {K : PySem.W.Frag} {G H G' H' G2 H2 H0 : Hp} {as bs : List Addr}
theorem frz_in {b : Addr} (h : b ∈ as) : frz G H as b = H b := if_pos h
theorem frz_out {b : Addr} (h : b ∉ as) : frz G H as b = G b := if_neg h
theorem unfrz_in {b : Addr} (h : b ∈ as) : unfrz G as b = none := if_pos h
theorem unfrz_out {b : Addr} (h : b ∉ as) : unfrz G as b = G b := if_neg h
/-- own lists -/
def OwnL (G H : Hp) (as : List Addr) : Prop := ∀ a ∈ as, G a = none ∧ ∃ vs, H a = some (.lst vs)
theorem OwnL.same (o : OwnL G H as) : Same G (frz G H as) := fun b u q => by
  rw [frz_out]
  · exact q
  · intro h
    rw [(o b h).1] at q
    cases q
theorem OwnL.mo (o : OwnL G H as) : Mo K G H (frz G H as) H := by
  refine ⟨o.same, fun a cells n q => ?_⟩
  obtain ⟨kvs, h1, h2⟩ := q
  have z : a ∉ as := by
    intro z
    obtain ⟨_, vs, h3⟩ := o a z
    rw [h1] at h3
    cases h3
  exact ⟨by rw [frz_out z]; exact n, kvs, h1, h2.mono o.same⟩
theorem OwnL.sub (o : OwnL G H as) (s : Same G H) : Same (frz G H as) H := fun b u q => by
  by_cases z : b ∈ as
  · rw [frz_in z] at q; exact q
  · rw [frz_out z] at q; exact s b u q
theorem Stp.frz (s : Stp K G H G' H') (o : OwnL G' H' as) (h0 : ∀ a ∈ as, H a = none) : Stp K G H (Z.frz G' H' as) H' := by
  refine ⟨s.exG.trans o.same, o.sub s.sub, fun b u q n => ?_, fun t => ⟨(s.tab t).tb, fun x hx => by rw [frz_out (fun z => (s.tab t).ne hx (fun ps w => by obtain ⟨_, vs, h⟩ := o _ z; rw [h] at w; cases w) rfl)]; exact (s.tab t).gn x hx⟩⟩
  have z : b ∉ as := fun z => by rw [h0 b z] at q; cases q
  obtain ⟨n', q'⟩ := s.own b u q n
  refine ⟨by rw [frz_out z]; exact n', ?_⟩
  rcases q' with q' | ⟨q1, o', q2, q3, q4⟩
  · exact .inl q'
  · exact .inr ⟨q1, o', q2, q3, fun cells w => by
      obtain ⟨kvs, w1, w2⟩ := q4 cells w
      exact ⟨kvs, w1, w2.mono o.same⟩⟩
theorem Stp.unfrz (o : OwnL G H as) (s : Stp K (Z.frz G H as) H G' H') : Stp K G H (Z.unfrz G' as) H' := by
  have keep : ∀ a ∈ as, G' a = H a := fun a ha => by
    obtain ⟨_, vs, h⟩ := o a ha
    rw [h]
    exact s.exG _ _ (by rw [frz_in ha]; exact h)
  have tk : TOk G H → TOk (Z.unfrz G' as) H' := fun t => by
    have t1 : TOk (Z.frz G H as) H := ⟨t.tb, fun x hx => by rw [frz_out (fun z => t.ne hx (fun ps w => by obtain ⟨_, vs, h⟩ := o _ z; rw [h] at w; cases w) rfl)]; exact t.gn x hx⟩
    refine ⟨(s.tab t1).tb, fun x hx => ?_⟩
    unfold Z.unfrz
    split
    · rfl
    · exact (s.tab t1).gn x hx
  refine ⟨fun b u q => ?_, fun b u q => ?_, fun a u hH gG => ?_, tk⟩
  · have z : b ∉ as := fun z => by rw [(o b z).1] at q; cases q
    rw [unfrz_out z]
    exact s.exG _ _ (by rw [frz_out z]; exact q)
  · by_cases z : b ∈ as
    · rw [unfrz_in z] at q; cases q
    · rw [unfrz_out z] at q; exact s.sub _ _ q
  · by_cases z : a ∈ as
    · exact ⟨unfrz_in z, .inl (s.sub _ _ (by rw [keep a z]; exact hH))⟩
    · obtain ⟨n', q⟩ := s.own a u hH (by rw [frz_out z]; exact gG)
      refine ⟨by rw [unfrz_out z]; exact n', ?_⟩
      rcases q with q | ⟨q1, o', q2, q3, q4⟩
      · exact .inl q
      · refine .inr ⟨q1, o', q2, q3, fun cells w => ?_⟩
        obtain ⟨kvs', w1, w2⟩ := q4 cells (w.at_ o.same hH hH)
        obtain ⟨kvs, v1, v2⟩ := w
        rw [hH] at v1
        cases v1
        rw [q2] at w1
        cases w1
        obtain ⟨c, a1, r1, l1, t1, s1, e, u1, u2⟩ := v2.ex
        obtain ⟨c', a2, r2, l2, t2, s2, e', u1', u2'⟩ := w2.ex
        have ec : c' = c := by
          have := q3.2
          rw [e, e'] at this
          simp [stoC, stoKvs] at this
          exact this
        subst ec
        refine ⟨_, q2, ⟨c', a2, r2, l2, t2, s2, e', ?_, u2'⟩⟩
        rw [unfrz_out (fun z => by rw [(o c' z).1] at u1; cases u1)]
        exact u1'
theorem SqT.unfrz {a : Addr} {xs : List V} (h : SqT K G a xs) (g : ∀ p ∈ as, ∃ vs, G p = some (.lst vs)) : SqT K (Z.unfrz G as) a xs := by
  have key : ∀ o, G a = some o → (∀ ys, o ≠ .lst ys) → Z.unfrz G as a = some o := fun o h n => by
    rw [unfrz_out (fun z => by obtain ⟨vs, w⟩ := g a z; rw [w] at h; cases h; exact n _ rfl)]
    exact h
  rcases h with (h | ⟨o, h⟩) | h
  · exact .inl (.inl (key _ h (fun _ z => by cases z)))
  · exact .inl (.inr ⟨o, key _ h (fun _ z => by cases z)⟩)
  · exact .inr h
mutual
theorem Rep.unfrz (g : ∀ p ∈ as, ∃ vs, G p = some (.lst vs)) : ∀ {d : D} {v : V}, flatD d → Rep K G H d v → Rep K (Z.unfrz G as) H d v
  | .non, v, _, h => by unfold Rep at h ⊢; exact h
  | .bl b, v, _, h => by unfold Rep at h ⊢; exact h
  | .int i, v, _, h => by unfold Rep at h ⊢; exact h
  | .str x, v, _, h => by unfold Rep at h ⊢; exact h
  | .tup ds, v, f, h => by
    unfold Rep at h ⊢
    unfold flatD at f
    obtain ⟨a, vs, e, h1, h2⟩ := h
    exact ⟨a, vs, e, SqT.unfrz h1 g, RepL.unfrz g f h2⟩
  | .lst ds, v, f, h => by unfold flatD at f; exact f.elim
  | .obj C ns ds, v, f, h => by
    unfold Rep at h ⊢
    unfold flatD at f
    obtain ⟨a, dx, fs, e, h1, h2, h3⟩ := h
    refine ⟨a, dx, fs, e, ?_, h2, RepL.unfrz g f h3⟩
    rw [unfrz_out (fun z => by obtain ⟨vs, w⟩ := g a z; rw [w] at h1; cases h1)]
    exact h1
  | .cls a, v, _, h => by unfold Rep at h ⊢; exact h
  | .ty n, v, _, h => by unfold Rep at h ⊢; exact h
  | .sto cells, v, f, h => by unfold flatD at f; exact f.elim
  | .scr ns, v, f, h => by unfold flatD at f; exact f.elim
  | .exc a d ns ds, v, f, h => by unfold flatD at f; exact f.elim
theorem RepL.unfrz (g : ∀ p ∈ as, ∃ vs, G p = some (.lst vs)) : ∀ {ds : List D} {vs : List V}, flatL ds → RepL K G H ds vs → RepL K (Z.unfrz G as) H ds vs
  | [], vs, _, h => by unfold RepL at h ⊢; exact h
  | d :: ds, vs, f, h => by
    unfold RepL at h ⊢
    unfold flatL at f
    obtain ⟨v, r, e, h1, h2⟩ := h
    exact ⟨v, r, e, Rep.unfrz g f.1 h1, RepL.unfrz g f.2 h2⟩
end
mutual
theorem MRep.flat (m : Mo K G H G' H') : ∀ {t : MT} {v : V} {bs : List Addr}, (∀ a ∈ bs, ∀ o, H a = some o → G' a = some o) → MRep K G H t v bs → Rep K G' H' t.flat v
  | .fz d, v, bs, k, h => by
    unfold MRep at h
    unfold MT.flat
    exact h.2.mo m
  | .ls ts, v, bs, k, h => by
    unfold MRep at h
    obtain ⟨p, vs, cs, e1, h1, e2, h2⟩ := h
    unfold MT.flat Rep
    exact ⟨p, vs, e1, k p (by rw [e2]; exact .head _) _ h1, MRepL.flat m (fun a ha => k a (by rw [e2]; exact .tail _ ha)) h2⟩
  | .tp ts, v, bs, k, h => by
    unfold MRep at h
    obtain ⟨p, vs, e1, h1, h2⟩ := h
    unfold MT.flat Rep
    exact ⟨p, vs, e1, .inl (.inl (m.exG _ _ h1)), MRepL.flat m k h2⟩
theorem MRepL.flat (m : Mo K G H G' H') : ∀ {ts : List MT} {vs : List V} {bs : List Addr}, (∀ a ∈ bs, ∀ o, H a = some o → G' a = some o) → MRepL K G H ts vs bs → RepL K G' H' (MT.flatL ts) vs
  | [], vs, bs, k, h => by
    unfold MRepL at h
    unfold MT.flatL RepL
    exact h.1
  | t :: ts, vs, bs, k, h => by
    unfold MRepL at h
    obtain ⟨v, r, a, b, e1, e2, h1, h2⟩ := h
    unfold MT.flatL RepL
    exact ⟨v, r, e1, MRep.flat m (fun x hx => k x (by rw [e2]; exact List.mem_append_left _ hx)) h1, MRepL.flat m (fun x hx => k x (by rw [e2]; exact List.mem_append_right _ hx)) h2⟩
end
theorem MRep.stp (s : Stp K G H G' H') {t : MT} {v : V} (h : MRep K G H t v as) (g : ∀ a ∈ as, G a = none) : MRep K G' H' t v as ∧ ∀ a ∈ as, G' a = none := by
  have k : ∀ a ∈ as, H' a = H a ∧ G' a = none := fun a ha => by
    obtain ⟨vs, h1⟩ := h.own a ha
    obtain ⟨g', q⟩ := s.own a _ h1 (g a ha)
    rcases q with q | ⟨q, _⟩
    · exact ⟨by rw [q, h1], g'⟩
    · exact q.elim
  exact ⟨h.mo s.mo fun a ha => (k a ha).1, fun a ha => (k a ha).2⟩
theorem MRepL.stp (s : Stp K G H G' H') {ts : List MT} {vs : List V} (h : MRepL K G H ts vs as) (g : ∀ a ∈ as, G a = none) : MRepL K G' H' ts vs as ∧ ∀ a ∈ as, G' a = none := by
  have k : ∀ a ∈ as, H' a = H a ∧ G' a = none := fun a ha => by
    obtain ⟨vs, h1⟩ := h.own a ha
    obtain ⟨g', q⟩ := s.own a _ h1 (g a ha)
    rcases q with q | ⟨q, _⟩
    · exact ⟨by rw [q, h1], g'⟩
    · exact q.elim
  exact ⟨h.mo s.mo fun a ha => (k a ha).1, fun a ha => (k a ha).2⟩
theorem MRepL.length : ∀ {ts : List MT} {vs : List V} {as : List Addr}, MRepL K G H ts vs as → vs.length = ts.length
  | [], vs, as, h => by
    unfold MRepL at h
    rw [h.1]
    rfl
  | t :: ts, vs, as, h => by
    unfold MRepL at h
    obtain ⟨v, r, a, b, e1, e2, h1, h2⟩ := h
    rw [e1, List.length_cons, List.length_cons, h2.length]
theorem MRepL.append : ∀ {ts us : List MT} {vs ws : List V} {as bs : List Addr}, MRepL K G H ts vs as → MRepL K G H us ws bs → MRepL K G H (ts ++ us) (vs ++ ws) (as ++ bs)
  | [], us, vs, ws, as, bs, h, h' => by
    unfold MRepL at h
    rw [h.1, h.2]
    exact h'
  | t :: ts, us, vs, ws, as, bs, h, h' => by
    unfold MRepL at h
    obtain ⟨v, r, a, b, e1, e2, h1, h2⟩ := h
    rw [e1, e2]
    show MRepL K G H (t :: (ts ++ us)) (v :: (r ++ ws)) _
    unfold MRepL
    exact ⟨v, _, a, b ++ bs, rfl, by simp, h1, h2.append h'⟩
theorem MRepL.one {t : MT} {v : V} (h : MRep K G H t v as) : MRepL K G H [t] [v] as := by
  unfold MRepL
  exact ⟨v, [], as, [], rfl, by simp, h, by unfold MRepL; exact ⟨rfl, rfl⟩⟩
theorem MRepL.nil : MRepL K G H [] [] [] := by unfold MRepL; exact ⟨rfl, rfl⟩
theorem VAt.uniq : ∀ {π : List Nat} {t : MT} {v w w' : V}, VAt K G H π t v w → VAt K G H π t v w' → w = w'
  | [], t, v, w, w', h, h' => by
    unfold VAt at h h'
    rw [← h, ← h']
  | i :: π, t, v, w, w', h, h' => by
    unfold VAt at h h'
    obtain ⟨p, vs, ts, t', x, e1, q1, q2, q3, q4⟩ := h
    obtain ⟨p', vs', ts', t2, x', e1', q1', q2', q3', q4'⟩ := h'
    rw [e1] at e1'
    cases e1'
    rcases q3 with ⟨rfl, h1⟩ | ⟨rfl, h1⟩ <;> rcases q3' with ⟨e, h1'⟩ | ⟨e, h1'⟩ <;> cases e <;> (rw [h1] at h1'; cases h1'; rw [q1] at q1'; cases q1'; rw [q2] at q2'; cases q2'; exact VAt.uniq q4 q4')
theorem VAt.snoc : ∀ {π : List Nat} {t : MT} {v w x : V} {j : Nat}, VAt K G H π t v w → (∃ u, t.sub π = some u ∧ VAt K G H [j] u w x) → VAt K G H (π ++ [j]) t v x
  | [], t, v, w, x, j, h, ⟨u, e, h2⟩ => by
    unfold VAt at h
    subst h
    unfold MT.sub at e
    cases e
    exact h2
  | i :: π, t, v, w, x, j, h, ⟨u, e, h2⟩ => by
    unfold VAt at h
    obtain ⟨p, vs, ts, t', y, e1, q1, q2, q3, q4⟩ := h
    refine ⟨p, vs, ts, t', y, e1, q1, q2, q3, q4.snoc ⟨u, ?_, h2⟩⟩
    unfold MT.sub at e
    have : t.kids = ts := by rcases q3 with ⟨rfl, _⟩ | ⟨rfl, _⟩ <;> rfl
    rw [this, q1] at e
    exact e
end
end Z
set_option Elab.async false
set_option linter.all false
set_option maxRecDepth 100000
set_option maxHeartbeats 4000000
/-! Z33: expressions whose value has own lists in it (JM), paths (JP); a slot of them: laid, looked at, frozen, changed, handed back. -/
namespace Z
open PySem L2
variable [tabsI : TabsT]
structure JM (S : Scp) (Γ : Cg) (e : Expr) (δ : List Sl) (P : MT → Prop) : Prop where
  run : ∀ X, COk S Γ X → ∀ σ G H, Stp Γ.K Γ.G0 Γ.H0 G H → EnvOk Γ.K G H Γ.H0 σ δ → ∀ Q : VK, (∀ v G' H' t as, Stp Γ.K G H G' H' → MRep Γ.K G' H' t v as → as.Nodup → (∀ a ∈ as, H a = none ∧ G' a = none) → P t → Q v H') → wE X e σ H Q
structure JMA (S : Scp) (Γ : Cg) (es : List Expr) (δ : List Sl) (P : List MT → Prop) : Prop where
  run : ∀ X, COk S Γ X → ∀ σ G H, Stp Γ.K Γ.G0 Γ.H0 G H → EnvOk Γ.K G H Γ.H0 σ δ → ∀ Q : List V → Hp → Prop, (∀ vs G' H' ts as, Stp Γ.K G H G' H' → MRepL Γ.K G' H' ts vs as → as.Nodup → (∀ a ∈ as, H a = none ∧ G' a = none) → P ts → Q vs H') → wA X es σ H Q
/-- an expression that leads to a part of the data of a slot -/
structure JP (S : Scp) (Γ : Cg) (e : Expr) (δ : List Sl) (P : Nat → List Nat → Prop) : Prop where
  run : ∀ X, COk S Γ X → ∀ σ G H, Stp Γ.K Γ.G0 Γ.H0 G H → EnvOk Γ.K G H Γ.H0 σ δ → ∀ Q : VK, (∀ v G' H' i π t pins r, Stp Γ.K G H G' H' → δ[i]? = some (.mt t pins) → σ[i]? = some (some r) → VAt Γ.K G' H' π t r v → P i π → Q v H') → wE X e σ H Q
section
variable {S S' : Scp} {Γ : Cg} {δ : List Sl} {P : D → Prop} {PM : MT → Prop} {PT : List MT → Prop} {PL : List D → Prop} {PB : Bool → Prop} {N B C : List Sl → Prop} {R : D → Prop} {Kp0 : Kp} {a b c e o : Expr} {es : List Expr} {pos : Pos} {st : Stmt} {sts : List Stmt}
/-! ### made -/
theorem jm_e (h : JE S Γ e δ fun d => PM (.fz d)) : JM S Γ e δ PM := by
  refine ⟨fun X hX σ G H st ev Q k => ?_⟩
  refine h.run X hX σ G H st ev _ fun v G' H' d s r q => k v G' H' (.fz d) [] s ?_ (by simp) (fun _ z => by cases z) q
  unfold MRep
  exact ⟨rfl, r⟩
theorem jma_nil (h : PT []) : JMA S Γ [] δ PT := ⟨fun X hX σ G H st ev Q k => PAw pa_nil (k _ G H [] [] (.refl st.sub) .nil (by simp) (fun _ z => by cases z) h)⟩
theorem jma_cons (hs : ∀ env, starEach (e :: es) env = (false, eval e env) :: starEach es env) (h : JM S Γ e δ fun t => JMA S Γ es δ fun ts => PT (t :: ts)) : JMA S Γ (e :: es) δ PT := by
  refine ⟨fun X hX σ G H st ev Q k => ?_⟩
  refine PAw (pa_cons wE_pe wA_pa (hs _)) ?_
  refine h.run X hX σ G H st ev _ fun v G1 H1 t as s1 r1 nd1 f1 h1 => ?_
  refine h1.run X hX σ G1 H1 (st.trans s1) (ev.mono s1) _ fun vs G2 H2 ts bs s2 r2 nd2 f2 h2 => ?_
  obtain ⟨r1', g1'⟩ := r1.stp s2 fun a ha => (f1 a ha).2
  refine k (v :: vs) G2 H2 (t :: ts) (as ++ bs) (s1.trans s2) ?_ ?_ ?_ h2
  · unfold MRepL
    exact ⟨v, vs, as, bs, rfl, rfl, r1', r2⟩
  · rw [List.nodup_append]
    refine ⟨nd1, nd2, fun x hx y hy z => ?_⟩
    subst z
    obtain ⟨ws, h3⟩ := r1.own x hx
    rw [(f2 x hy).1] at h3
    cases h3
  · intro x hx
    rcases List.mem_append.mp hx with hx | hx
    · exact ⟨(f1 x hx).1, g1' x hx⟩
    · exact ⟨s1.free (f2 x hx).1, (f2 x hx).2⟩
theorem jm_lst (h : JMA S Γ es δ fun ts => ts.length ≤ sizeLine ∧ PM (.ls ts)) : JM S Γ (.List es pos) δ PM := by
  refine ⟨fun X hX σ G H st ev Q kk => ?_⟩
  refine PEw (pe_lst wA_pa) ?_
  refine h.run X hX σ G H st ev _ fun vs G1 H1 ts as s1 r1 nd f h1 => ?_
  refine ⟨by rw [r1.length]; exact h1.1, fun p hp => ?_⟩
  have s2 : Stp Γ.K G1 H1 G1 (upd H1 p (.lst vs)) := .newM s1.sub hp
  obtain ⟨r2, g2⟩ := r1.stp s2 fun a ha => (f a ha).2
  refine kk _ _ _ (.ls ts) (p :: as) (s1.trans s2) ?_ ?_ ?_ h1.2
  · unfold MRep
    exact ⟨p, vs, as, rfl, upd_same, rfl, r2⟩
  · refine List.nodup_cons.mpr ⟨fun z => ?_, nd⟩
    obtain ⟨ws, h3⟩ := r1.own p z
    rw [hp] at h3
    cases h3
  · intro x hx
    cases hx with
    | head => exact ⟨s1.free hp, s1.sub.free hp⟩
    | tail _ hx => exact ⟨(f x hx).1, g2 x hx⟩
/-! ### laid into a slot -/
theorem EnvOk.setM {KK : PySem.W.Frag} {G H G' H' H0 : Hp} {σ : St} {δ : List Sl} (h : EnvOk KK G H H0 σ δ) (s : Stp KK G H G' H') {i : Nat} {t : MT} {v : V} {as : List Addr} (r : MRep KK G' H' t v as) (nd : as.Nodup) (f : ∀ a ∈ as, H a = none ∧ G' a = none) (h0 : ∀ a ∈ as, H0 a = none) : EnvOk KK G' H' H0 (σ.set i (some v)) (δ.set i (.mt t [])) := by
  obtain ⟨F, ff, dj, hF⟩ := h.fps s
  refine EnvOk.anew (as' := as) h.len ff dj .refl (fun j _ a ha => ⟨rfl, ((ff j).own a ha).1⟩) (by simp) (fun j n => List.getElem?_set_ne (fun w => n w.symm)) (fun hi => ⟨v, by rw [List.getElem?_set_self (by rw [h.len]; exact hi)], r, nd, fun a ha => ⟨(f a ha).2, h0 a ha⟩, fun _ z => by cases z⟩) (fun j _ a ha => ?_)
  exact fun z => hF j a z (f a ha).1
theorem js_setM {x : Str} {i : Nat} {p : Pos} (hv : (x, i) ∈ S.ss) (h : JM S Γ e δ fun t => Kp0.nx (δ.set i (.mt t []))) (hs : ∀ env, swapsWith e (some (.Name x p)) pos.line env = pure false := by intro _; rfl) : JS S Γ (.Assign [.Name x p] e pos) δ Kp0 := by
  refine ⟨fun X hX σ G H De s ev en => ?_⟩
  obtain ⟨h1, h2, h3⟩ := hX.loc hv
  refine PSw (ps_set (by rw [hX.N]; exact hX.so.nd) h1 h2 wE_pe (hs _) h3) ?_
  refine h.run X hX σ G H s ev _ fun v G1 H1 t as s1 r nd f q => ?_
  exact en.nx _ G1 H1 _ (s.trans s1) s1.mo (ev.setM s1 r nd f fun a ha => s.free (f a ha).1) q
/-! ### frozen, looked at -/
theorem EnvOk.frz {KK : PySem.W.Frag} {G H H0 : Hp} {σ : St} {δ : List Sl} (h : EnvOk KK G H H0 σ δ) {i : Nat} {t : MT} {pins : List (List Nat × Addr)} (e : δ[i]? = some (.mt t pins)) : ∃ as, OwnL G H as ∧ (∀ a ∈ as, H0 a = none) ∧ EnvOk KK (Z.frz G H as) H H0 σ (δ.set i (.fz t.flat)) ∧ ∀ x ∈ pins, ∀ u, t.sub x.1 = some u → Rep KK (Z.frz G H as) H u.flat (.ref x.2) := by
  obtain ⟨F, f, dj⟩ := h.fp
  obtain ⟨v, e1, r, nd, k, kp⟩ := EnvOk.at0 f e
  have ol : OwnL G H (F i) := fun a ha => ⟨(k a ha).1, r.own a ha⟩
  refine ⟨F i, ol, fun a ha => (k a ha).2, EnvOk.anew (as' := []) h.len f dj ol.mo (fun j n a ha => ⟨rfl, ?_⟩) rfl (fun _ _ => rfl) (fun _ => ⟨rfl, v, e1, r.flat ol.mo fun a ha o ho => by rw [frz_in ha]; exact ho⟩) (fun _ _ a ha => by cases ha), fun x hx u hu => ?_⟩
  · rw [frz_out (dj j i n a ha)]
    exact ((f j).own a ha).1
  · obtain ⟨w, pre, b, post, q1, q2, q3, _⟩ := r.focus x.1 hu
    have hw := VAt.uniq q1 (kp x hx)
    subst hw
    exact q3.flat ol.mo fun a ha o ho => by rw [frz_in (by rw [q2]; simp [ha])]; exact ho
theorem jss_frzM (i : Nat) {t : MT} {pins : List (List Nat × Addr)} (hδ : δ[i]? = some (.mt t pins)) (h : JSs S Γ sts (δ.set i (.fz t.flat)) Kp0) : JSs S Γ sts δ Kp0 := by
  refine ⟨fun X hX σ G H De s ev en => ?_⟩
  obtain ⟨as, ol, h0, ev', _⟩ := ev.frz hδ
  exact h.run X hX σ _ H De (s.frz ol h0) ev' (en.go ol.mo)
theorem je_view (i : Nat) {t : MT} {pins : List (List Nat × Addr)} (hδ : δ[i]? = some (.mt t pins)) (h : JE S Γ e (δ.set i (.fz t.flat)) fun d => flatD d ∧ P d) : JE S Γ e δ P := by
  refine ⟨fun X hX σ G H st ev Q k => ?_⟩
  obtain ⟨as, ol, h0, ev', _⟩ := ev.frz hδ
  refine h.run X hX σ _ H (st.frz ol h0) ev' Q fun v G' H' d s r q => k v (unfrz G' as) H' d (s.unfrz ol) (Rep.unfrz (fun p hp => ?_) q.1 r) q.2
  obtain ⟨_, vs, h1⟩ := ol p hp
  exact ⟨vs, s.exG _ _ (by rw [frz_in hp]; exact h1)⟩
/-! ### paths -/
theorem jp_name {x : Str} {i : Nat} {t : MT} {pins : List (List Nat × Addr)} {PP : Nat → List Nat → Prop} (hv : Has S.vs x i) (hδ : δ[i]? = some (.mt t pins)) (h : PP i []) (hd : (x == ("__debug__" : Str)) = false := by decide) (hcd : (x == ("__classdict__" : Str)) = false := by decide) : JP S Γ (.Name x pos) δ PP := by
  refine ⟨fun X hX σ G H st ev Q k => ?_⟩
  obtain ⟨h1, h2⟩ := hX.so.vs _ hv.mem
  obtain ⟨F, f, _⟩ := ev.fp
  obtain ⟨v, e1, _⟩ := EnvOk.at0 f hδ
  exact PEw (pe_var (by rw [hX.N]; exact h1) (by rw [hX.sc]; exact h2) hd hcd) ⟨v, e1, k v G H i [] t pins v (.refl st.sub) hδ e1 rfl h⟩
theorem ixN_lt {n j : Nat} {i : Int} (h : ixN n i = some j) : j < n := by
  unfold ixN at h
  split at h
  · split at h
    · cases h; omega
    · cases h
  · split at h
    · cases h; omega
    · cases h
theorem ix_of {vs : List V} {ts : List MT} {n : Int} {j : Nat} (hl : vs.length = ts.length) (hn : ixN ts.length n = some j) : ∃ z t2, vs[j]? = some z ∧ ts[j]? = some t2 ∧ L2.atI vs n = some z := by
  have hjl : j < ts.length := ixN_lt hn
  have hjv : j < vs.length := by omega
  obtain ⟨z, hz⟩ : ∃ z, vs[j]? = some z := ⟨_, List.getElem?_eq_getElem hjv⟩
  refine ⟨z, ts[j], hz, List.getElem?_eq_getElem _, ?_⟩
  unfold L2.atI
  rw [hl, hn]
  exact hz
/-- the member at an index -/
def IxM (δ : List Sl) (i : Nat) (π : List Nat) (d : D) (P : List Nat → Prop) : Prop := ∃ k j t pins u, d = .int k ∧ δ[i]? = some (.mt t pins) ∧ t.sub π = some u ∧ ((∃ ts, u = .ls ts) ∨ ∃ ts, u = .tp ts) ∧ ixN u.kids.length k = some j ∧ P (π ++ [j])
theorem jp_ix {PP : Nat → List Nat → Prop} (hs : PlainIx b) (h : JP S Γ a δ fun i π => JE S Γ b δ fun d => IxM δ i π d (PP i)) : JP S Γ (.Subscript a b pos) δ PP := by
  refine ⟨fun X hX σ G H st ev Q k => ?_⟩
  refine PEw (pe_ix wIx_r wE_pe wE_pe hs) ?_
  refine h.run X hX σ G H st ev _ fun v G1 H1 i π t pins r s1 hδ e1 va h1 => ?_
  refine h1.run X hX σ G1 H1 (st.trans s1) (ev.mono s1) _ fun u G2 H2 y s2 r2 h2 => ?_
  obtain ⟨n, j, t', pins', w, rfl, hδ', hu, hk, hj, hp⟩ := h2
  rw [hδ] at hδ'
  cases hδ'
  unfold Rep at r2
  subst r2
  obtain ⟨F, f, _⟩ := ((ev.mono s1).mono s2).fp
  obtain ⟨v0, e0, rr, nd, kk, _⟩ := EnvOk.at0 f hδ
  rw [e1] at e0
  cases e0
  obtain ⟨F1, f1, _⟩ := (ev.mono s1).fp
  obtain ⟨v1, e1', rr1, _, kk1, _⟩ := EnvOk.at0 f1 hδ
  rw [e1] at e1'
  cases e1'
  obtain ⟨x1, pre1, b1, post1, a1, a2, a3, _⟩ := rr1.focus π hu
  have q0 := VAt.uniq a1 va
  subst q0
  have ks : ∀ a ∈ F1 i, H2 a = H1 a := fun a ha => by
    obtain ⟨vs, z⟩ := rr1.own a ha
    obtain ⟨_, q⟩ := s2.own a _ z (kk1 a ha).1
    rcases q with q | ⟨q, _⟩
    · rw [q, z]
    · exact q.elim
  have va2 := va.mo s2.exG rr1 ks
  have a3' := (a3.stp s2 fun a ha => (kk1 a (by rw [a2]; simp [ha])).1).1
  have hix : ∀ {vs : List V} {ts : List MT}, vs.length = ts.length → ixN ts.length n = some j → ∃ z t2, vs[j]? = some z ∧ ts[j]? = some t2 ∧ L2.atI vs n = some z := fun hl hn => ix_of hl hn
  rcases hk with ⟨ts, rfl⟩ | ⟨ts, rfl⟩
  · have m3 := a3'
    unfold MRep at m3
    obtain ⟨p, vs, bs, rfl, b2, b3, b4⟩ := m3
    obtain ⟨z, t2, c1, c2, c3⟩ := hix b4.length (show ixN ts.length n = some j from hj)
    exact IxRw ix_list ⟨p, vs, n, z, rfl, rfl, .inl (.inl b2), c3, k z G2 H2 i _ t pins r (s1.trans s2) hδ e1 (va2.snoc ⟨_, hu, p, vs, ts, t2, z, rfl, c2, c1, .inl ⟨rfl, b2⟩, rfl⟩) hp⟩
  · have m3 := a3'
    unfold MRep at m3
    obtain ⟨p, vs, rfl, b2, b4⟩ := m3
    obtain ⟨z, t2, c1, c2, c3⟩ := hix b4.length (show ixN ts.length n = some j from hj)
    refine IxRw ix_tup ⟨p, vs, n, z, rfl, rfl, ?_, c3, k z G2 H2 i _ t pins r (s1.trans s2) hδ e1 (va2.snoc ⟨_, hu, p, vs, ts, t2, z, rfl, c2, c1, .inr ⟨rfl, b2⟩, rfl⟩) hp⟩
    rw [hX.K]
    exact .inl (.inl (((st.trans s1).trans s2).sub _ _ b2))
end
end Z
set_option Elab.async false
set_option linter.all false
set_option maxRecDepth 100000
set_option maxHeartbeats 4000000
/-! Z34: changes at a path. -/
namespace Z
open PySem L2
variable [tabsI : TabsT]
theorem nd_put {pre b post b' : List Addr} (h : (pre ++ (b ++ post)).Nodup) (nb : b'.Nodup) (f : ∀ a ∈ b', a ∈ b ∨ a ∉ pre ++ (b ++ post)) : (pre ++ (b' ++ post)).Nodup := by
  rw [List.nodup_append] at h ⊢
  obtain ⟨h1, h2, h3⟩ := h
  rw [List.nodup_append] at h2 ⊢
  obtain ⟨h4, h5, h6⟩ := h2
  refine ⟨h1, ⟨nb, h5, fun x hx y hy z => ?_⟩, fun x hx y hy z => ?_⟩
  · subst z
    rcases f x hx with q | q
    · exact h6 x q x hy rfl
    · exact q (by simp [hy])
  · subst z
    rcases List.mem_append.mp hy with hy | hy
    · rcases f x hy with q | q
      · exact h3 x hx x (List.mem_append_left _ q) rfl
      · exact q (by simp [hx])
    · exact h3 x hx x (List.mem_append_right _ hy) rfl
/-- pins that a change at a path leaves -/
def Kept (δ : List Sl) (i : Nat) (π : List Nat) (kp : List (List Nat × Addr)) : Prop := ∀ x ∈ kp, x.1 <+: π ∧ ∀ t pins, δ[i]? = some (.mt t pins) → x ∈ pins
theorem kept_nil {δ : List Sl} {i : Nat} {π : List Nat} : Kept δ i π [] := fun _ h => by cases h
theorem MRep.head {K : PySem.W.Frag} {G H : Hp} {us : List MT} {v : V} {p : Addr} {b c : List Addr} (h : MRep K G H (.ls us) v c) (h2 : MRep K G H (.ls us) v (p :: b)) : p ∈ c := by
  unfold MRep at h h2
  obtain ⟨q, vs, bs, e1, h1, e2, _⟩ := h
  obtain ⟨q2, vs2, bs2, e1b, h1b, e2b, _⟩ := h2
  rw [e1] at e1b
  cases e1b
  cases e2b
  rw [e2]
  exact .head _
theorem VAt.put {K : PySem.W.Frag} {G H H' : Hp} {p : Addr} : ∀ {π0 π : List Nat} {t u' : MT} {us : List MT} {v w vp : V} {as : List Addr}, MRep K G H t v as → as.Nodup → π0 <+: π → MT.sub π t = some (.ls us) → VAt K G H π t v vp → (∃ b, MRep K G H (.ls us) vp (p :: b)) → (∀ a ∈ as, a ≠ p → H' a = H a) → VAt K G H π0 t v w → VAt K G H' π0 (MT.put u' π t) v w
  | [], π, t, u', us, v, w, vp, as, _, _, _, _, _, _, _, h => h
  | i :: π0, [], t, u', us, v, w, vp, as, _, _, hp, _, _, _, _, _ => by
    obtain ⟨z, hz⟩ := hp
    cases hz
  | i :: π0, i' :: π, t, u', us, v, w, vp, as, r, nd, hp, hu, hvp, hb, k, h => by
    obtain ⟨z, hz⟩ := hp
    rw [List.cons_append] at hz
    cases hz
    obtain ⟨p0, vs, ts, t', x, rfl, q1, q2, q3, q4⟩ := h
    obtain ⟨p1, vs1, ts1, t1, x1, e1, w1, w2, w3, w4⟩ := hvp
    cases e1
    have kids : t.kids = ts := by rcases q3 with ⟨rfl, _⟩ | ⟨rfl, _⟩ <;> rfl
    have kids1 : t.kids = ts1 := by rcases w3 with ⟨rfl, _⟩ | ⟨rfl, _⟩ <;> rfl
    have ets : ts1 = ts := kids1.symm.trans kids
    subst ets
    rw [q1] at w1
    cases w1
    have hu' : MT.sub (π0 ++ z) t' = some (.ls us) := by
      unfold MT.sub at hu
      rw [kids, q1] at hu
      exact hu
    have il : i < ts1.length := (List.getElem?_eq_some_iff.mp q1).1
    have eg : (ts1[i]?).getD (.fz .non) = t' := by rw [q1]; rfl
    rcases q3 with ⟨rfl, h1⟩ | ⟨rfl, h1⟩
    · rcases w3 with ⟨_, h1'⟩ | ⟨e, _⟩
      · rw [h1] at h1'
        cases h1'
        rw [q2] at w2
        cases w2
        unfold MRep at r
        obtain ⟨p', vs', bs, e1', r1, e2, r2⟩ := r
        cases e1'
        rw [h1] at r1
        cases r1
        obtain ⟨y, pre, b, post, s1, s2, s3, _⟩ := r2.get q1
        rw [q2] at s1
        cases s1
        have nd' := nd
        rw [e2, s2] at nd
        have ndb : b.Nodup := (List.nodup_append.mp (List.nodup_append.mp (List.nodup_cons.mp nd).2).2.1).1
        have hpb : p ∈ b := by
          obtain ⟨c, pre', b', post', f1, f2, f3, _⟩ := MRep.focus (π0 ++ z) s3 hu'
          have := VAt.uniq f1 w4
          subst this
          obtain ⟨b0, hb0⟩ := hb
          rw [f2]
          have : p ∈ b' := MRep.head f3 hb0
          simp [this]
        have np : p0 ≠ p := fun z => (List.nodup_cons.mp nd).1 (by rw [z]; simp [hpb])
        refine ⟨p0, vs, ts1.set i (MT.put u' (π0 ++ z) t'), MT.put u' (π0 ++ z) t', x, rfl, by rw [List.getElem?_set_self il], q2, .inl ⟨?_, ?_⟩, ?_⟩
        · show MT.ls (ts1.set i (MT.put u' (π0 ++ z) ((ts1[i]?).getD (.fz .non)))) = _
          rw [eg]
        · rw [k p0 (by rw [e2]; exact .head _) np]
          exact h1
        · exact VAt.put s3 ndb ⟨z, rfl⟩ hu' w4 hb (fun a ha n => k a (by rw [e2, s2]; simp [ha]) n) q4
      · cases e
    · rcases w3 with ⟨e, _⟩ | ⟨_, h1'⟩
      · cases e
      · rw [h1] at h1'
        cases h1'
        rw [q2] at w2
        cases w2
        unfold MRep at r
        obtain ⟨p', vs', e1', r1, r2⟩ := r
        cases e1'
        rw [h1] at r1
        cases r1
        obtain ⟨y, pre, b, post, s1, s2, s3, _⟩ := r2.get q1
        rw [q2] at s1
        cases s1
        rw [s2] at nd
        have ndb : b.Nodup := (List.nodup_append.mp (List.nodup_append.mp nd).2.1).1
        refine ⟨p0, vs, ts1.set i (MT.put u' (π0 ++ z) t'), MT.put u' (π0 ++ z) t', x, rfl, by rw [List.getElem?_set_self il], q2, .inr ⟨?_, h1⟩, ?_⟩
        · show MT.tp (ts1.set i (MT.put u' (π0 ++ z) ((ts1[i]?).getD (.fz .non)))) = _
          rw [eg]
        · exact VAt.put s3 ndb ⟨z, rfl⟩ hu' w4 hb (fun a ha n => k a (by rw [s2]; simp [ha]) n) q4
theorem EnvOk.writeM {KK : PySem.W.Frag} {G1 H1 G H H0 : Hp} {σ : St} {δ : List Sl} (h : EnvOk KK G1 H1 H0 σ δ) (s : Stp KK G1 H1 G H) {i : Nat} {t : MT} {pins : List (List Nat × Addr)} {π : List Nat} {r v : V} {ts : List MT} (hδ : δ[i]? = some (.mt t pins)) (e1 : σ[i]? = some (some r)) (va : VAt KK G H π t r v) (hu : t.sub π = some (.ls ts)) :
    ∃ p vs bs, v = .ref p ∧ H p = some (.lst vs) ∧ G p = none ∧ H0 p = none ∧ MRepL KK G H ts vs bs ∧ bs.Nodup ∧ (∀ a ∈ bs, H1 a ≠ none) ∧ (∀ a ∈ bs, G a = none) ∧ ∀ ts' us' bs' kp, Kept δ i π kp → MRepL KK G H ts' us' bs' → bs'.Nodup → (∀ a ∈ bs', a ∈ bs ∨ (H1 a = none ∧ G a = none ∧ H0 a = none)) → EnvOk KK G (upd H p (.lst us')) H0 σ (δ.set i (.mt (MT.put (.ls ts') π t) kp)) := by
  obtain ⟨F, f, dj, hF⟩ := h.fps s
  obtain ⟨v0, e0, rr, nd, kk, pn⟩ := EnvOk.at0 f hδ
  rw [e1] at e0
  cases e0
  obtain ⟨w, pre, b, post, q1, q2, q3, q4⟩ := rr.focus π hu
  have hw := VAt.uniq q1 va
  subst hw
  have q3' := q3
  unfold MRep at q3
  obtain ⟨p, vs, bs, rfl, h1, e2, h2⟩ := q3
  have hnd := nd
  rw [q2] at nd
  have ndb : (p :: bs).Nodup := by
    rw [← e2]
    exact (List.nodup_append.mp (List.nodup_append.mp nd).2.1).1
  have hb : ∀ a ∈ b, a ∈ F i := fun a ha => by rw [q2]; simp [ha]
  have hp : p ∈ F i := hb p (by rw [e2]; exact .head _)
  refine ⟨p, vs, bs, rfl, h1, (kk p hp).1, (kk p hp).2, h2, (List.nodup_cons.mp ndb).2, fun a ha => hF i a (hb a (by rw [e2]; exact .tail _ ha)), fun a ha => (kk a (hb a (by rw [e2]; exact .tail _ ha))).1, fun ts' us' bs' kp hkp hm nb ff => ?_⟩
  have mo : Mo KK G H G (upd H p (.lst us')) := .write h1
  have np : ∀ a ∈ bs', a ≠ p := fun a ha z => by
    subst z
    rcases ff a ha with q | q
    · exact (List.nodup_cons.mp ndb).1 q
    · exact hF i a hp q.1
  have hpre : ∀ a ∈ pre, a ≠ p := fun a ha z => by
    subst z
    exact (List.nodup_append.mp nd).2.2 a ha a (by rw [e2]; simp) rfl
  have hpost : ∀ a ∈ post, a ≠ p := fun a ha z => by
    subst z
    exact (List.nodup_append.mp (List.nodup_append.mp nd).2.1).2.2 a (by rw [e2]; exact .head _) a ha rfl
  have hnew : MRep KK G (upd H p (.lst us')) (.ls ts') (.ref p) (p :: bs') := by
    unfold MRep
    exact ⟨p, us', bs', rfl, upd_same, rfl, hm.mo mo fun a ha => upd_ne (np a ha)⟩
  have fin := q4 G (upd H p (.lst us')) (.ls ts') (p :: bs') mo (fun a ha => upd_ne (hpre a ha)) (fun a ha => upd_ne (hpost a ha)) hnew
  refine EnvOk.anew (as' := pre ++ ((p :: bs') ++ post)) h.len f dj mo (fun j n a ha => ⟨?_, ((f j).own a ha).1⟩) rfl (fun _ _ => rfl) (fun _ => ⟨r, e1, fin, ?_, fun a ha => ?_, fun x hx => VAt.put rr hnd (hkp x hx).1 hu q1 ⟨bs, by rw [← e2]; exact q3'⟩ (fun a _ n => upd_ne n) (pn x ((hkp x hx).2 t pins hδ))⟩) (fun j n a ha => ?_)
  · rw [upd_ne]
    intro z
    subst z
    exact dj j i n a ha hp
  · refine nd_put nd (List.nodup_cons.mpr ⟨fun z => np p z rfl, nb⟩) fun a ha => ?_
    cases ha with
    | head => exact .inl (by rw [e2]; exact .head _)
    | tail _ ha =>
      rcases ff a ha with q | q
      · exact .inl (by rw [e2]; exact .tail _ q)
      · refine .inr fun z => hF i a ?_ q.1
        rw [q2]
        exact z
  · rcases List.mem_append.mp ha with ha | ha
    · exact kk a (by rw [q2]; simp [ha])
    rcases List.mem_append.mp ha with ha | ha
    · cases ha with
      | head => exact kk _ hp
      | tail _ ha =>
        rcases ff a ha with q | q
        · exact kk a (hb a (by rw [e2]; exact .tail _ q))
        · exact ⟨q.2.1, q.2.2⟩
    · exact kk a (by rw [q2]; simp [ha])
  · have inF : ∀ a, a ∈ F i → a ∉ F j := fun a ha => dj i j (fun w => n w.symm) a ha
    rcases List.mem_append.mp ha with ha | ha
    · exact inF a (by rw [q2]; simp [ha])
    rcases List.mem_append.mp ha with ha | ha
    · cases ha with
      | head => exact inF _ hp
      | tail _ ha =>
        rcases ff a ha with q | q
        · exact inF a (hb a (by rw [e2]; exact .tail _ q))
        · exact fun z => hF j a z q.1
    · exact inF a (by rw [q2]; simp [ha])
/-- an own list at a path -/
def OwnAt (δ : List Sl) (i : Nat) (π : List Nat) (P : MT → List MT → Prop) : Prop := ∃ t pins ts, δ[i]? = some (.mt t pins) ∧ t.sub π = some (.ls ts) ∧ P t ts
section
variable {S S' : Scp} {Γ : Cg} {δ : List Sl} {P : D → Prop} {PM : MT → Prop} {PL : List D → Prop} {N B C : List Sl → Prop} {R : D → Prop} {Kp0 : Kp} {a b c e o k : Expr} {es : List Expr} {pos : Pos} {st : Stmt} {sts : List Stmt}
theorem nd_app {as bs : List Addr} {H1 : Hp} (h1 : bs.Nodup) (h2 : as.Nodup) (h3 : ∀ a ∈ bs, H1 a ≠ none) (h4 : ∀ a ∈ as, H1 a = none) : (bs ++ as).Nodup := by
  rw [List.nodup_append]
  exact ⟨h1, h2, fun x hx y hy z => h3 x hx (by rw [z]; exact h4 y hy)⟩
/-- what a method does to a list -/
def Eff (r : V → List V → Hp → VK → Prop) (ts us ts' : List MT) : Prop := ∀ (K : PySem.W.Frag) (G H : Hp) (p : Addr) (vs ws : List V) (bs as : List Addr), H p = some (.lst vs) → MRepL K G H ts vs bs → MRepL K G H us ws as → (bs ++ as).Nodup →
  ∃ us' bs', MRepL K G H ts' us' bs' ∧ bs'.Nodup ∧ (∀ a ∈ bs', a ∈ bs ∨ a ∈ as) ∧ ∀ Q : VK, (∀ x, Q x (upd H p (.lst us'))) → r (.ref p) ws H Q
theorem mrepL_nil {K : PySem.W.Frag} {G H : Hp} {vs : List V} {as : List Addr} (h : MRepL K G H [] vs as) : vs = [] ∧ as = [] := by
  unfold MRepL at h
  exact h
theorem mrepL_one {K : PySem.W.Frag} {G H : Hp} {u : MT} {vs : List V} {as : List Addr} (h : MRepL K G H [u] vs as) : ∃ v, vs = [v] ∧ MRep K G H u v as := by
  unfold MRepL at h
  obtain ⟨v, r, a, b, e1, e2, h1, h2⟩ := h
  obtain ⟨q1, q2⟩ := mrepL_nil h2
  subst q1 q2
  rw [List.append_nil] at e2
  subst e2
  exact ⟨v, e1, h1⟩
theorem eff_append {ts : List MT} {u : MT} (hl : ts.length < sizeLine) : Eff rAppend ts [u] (ts ++ [u]) := by
  intro K G H p vs ws bs as hp hm hu nd
  obtain ⟨v, rfl, hv⟩ := mrepL_one hu
  refine ⟨vs ++ [v], bs ++ as, hm.append (.one hv), nd, fun a ha => List.mem_append.mp ha, fun Q k => ?_⟩
  exact ⟨p, vs, v, rfl, rfl, hp, by rw [hm.length]; exact hl, k _⟩
/-- o.m(e, ..), its value dropped -/
theorem js_mth {m : Str} {id : String} {r : V → List V → Hp → VK → Prop} {p2 p3 : Pos} (sl : PySem.Slot "list" m id) (ty : typeOf (.builtin id) = pure (.type "method_descriptor")) (mt : ∀ X, MtM X id r) (h : JP S Γ o δ fun i π => OwnAt δ i π fun t ts => JMA S Γ (e :: es) δ fun us => ∃ ts' kp, Eff r ts us ts' ∧ Kept δ i π kp ∧ Kp0.nx (δ.set i (.mt (MT.put (.ls ts') π t) kp)))
    (hb : ∀ env, attributeBase o m env (eval o env) = eval o env := by intro _; rfl)
    (hs : ∀ env, starEach (e :: es) env = (false, eval e env) :: starEach es env := by intro _; rfl) (hpl : ∀ env, (backTo p3 (starEach es env)).any (·.1) = false := by intro _; rfl) (hline : (p2.endLine == p3.line) = true := by rfl)
    (hfew : ∀ env, ((backTo p3 (starEach (e :: es) env)).all (fun x => !x.1) && (backToKw p3 (keywordEach [] env)).all (fun x => x.1.isSome) && decide ((e :: es).length + ([] : List Keyword).length + (if ([] : List Keyword).isEmpty then 0 else 1) < 30)) = true := by intro _; rfl)
    (hsw : ∀ env, swapsWith (.Call (.Attribute o m p2) (e :: es) [] p3) none pos.line env = pure false := by intro _; rfl) :
    JS S Γ (.Expr (.Call (.Attribute o m p2) (e :: es) [] p3) pos) δ Kp0 := by
  refine ⟨fun X hX σ G H De s ev en => ?_⟩
  refine PSw (ps_expr (pe_bm PySem.F.plainAttrs_list sl ty (mt X) wE_pe wA_pa (hb _) (hfew _) hline (hs _) (hpl _)) (hsw _)) ?_
  refine h.run X hX σ G H s ev _ fun v G1 H1 i π t pins r1 s1 hδ e1 va q => ?_
  obtain ⟨t', pins', ts, hδ', hu, q⟩ := q
  rw [hδ] at hδ'
  cases hδ'
  obtain ⟨p, vs, bs, rfl, hp, _⟩ := (ev.mono s1).writeM (.refl (s.trans s1).sub) hδ e1 va hu
  refine ⟨.inl ⟨rfl, vs, .inl (.inl hp)⟩, ?_⟩
  refine q.run X hX σ G1 H1 (s.trans s1) (ev.mono s1) _ fun ws G2 H2 us as s2 ru nd f q => ?_
  obtain ⟨ts', kp, ef, hkp, q⟩ := q
  have ev1 := ev.mono s1
  obtain ⟨F1, f1, _⟩ := ev1.fp
  obtain ⟨v1, e1', rr1, _, kk1, _⟩ := EnvOk.at0 f1 hδ
  rw [e1] at e1'
  cases e1'
  have va2 : VAt Γ.K G2 H2 π t r1 (.ref p) := va.mo s2.exG rr1 fun a ha => by
    obtain ⟨vs, z⟩ := rr1.own a ha
    obtain ⟨_, q⟩ := s2.own a _ z (kk1 a ha).1
    rcases q with q | ⟨q, _⟩
    · rw [q, z]
    · exact q.elim
  obtain ⟨p', vs', bs', ep, hp', g', h0', hm', nb', k1, k2, fin⟩ := ev1.writeM s2 hδ e1 va2 hu
  cases ep
  obtain ⟨us', cs, c1, c2, c3, c4⟩ := ef Γ.K G2 H2 p vs' ws bs' as hp' hm' ru (nd_app nb' nd k1 fun a ha => (f a ha).1)
  refine c4 _ fun x => ?_
  refine en.nx σ G2 _ _ (((s.trans s1).trans s2).write (o := .lst vs') g' h0') ((s1.trans s2).mo.trans (.write hp')) (fin ts' us' cs kp hkp c1 c2 fun a ha => ?_) q
  rcases c3 a ha with z | z
  · exact .inl z
  · exact .inr ⟨(f a z).1, (f a z).2, (s.trans s1).free (f a z).1⟩
end
end Z
set_option Elab.async false
set_option linter.all false
set_option maxRecDepth 100000
set_option maxHeartbeats 4000000
/-! Z35: comprehensions of own lists, defs that hand back data with own lists in it, names for a part, back to a plain own list. -/
namespace Z
open PySem L2
variable [tabsI : TabsT]
abbrev CtM := List D → (MT → Prop) → (Value → List Str → List D → Prop) → Prop
def KM (K : PySem.W.Frag) (G H : Hp) (Q : VK) (t : MT) : Prop := ∀ v as G' H', Stp K G H G' H' → MRep K G' H' t v as → as.Nodup → (∀ a ∈ as, G' a = none ∧ H a = none) → Q v H'
def spCM (K : PySem.W.Frag) (c : CtM) : Sp := fun vs H Q E => ∃ G ds, Same G H ∧ TOk G H ∧ RepL K G H ds vs ∧ c ds (KM K G H Q) fun cls ns es => ∀ d G' H', Stp K G H G' H' → XdOk K G' H' d ns es → E cls d H'
abbrev MonoM (c : CtM) : Prop := ∀ ds (P P' : MT → Prop) (E E' : Value → List Str → List D → Prop), (∀ d, P d → P' d) → (∀ v ns es, E v ns es → E' v ns es) → c ds P E → c ds P' E'
structure DefOkM (P : Program) (w : World) (K : PySem.W.Frag) (mg : Str → Option Value) (base : Heap) (x : Str) (lv : Nat) (df : List D) (c : CtM) : Prop where
  mono : MonoM c
  ex : ∃ f fd ps ds dvs, FnOk P w K mg base (L2N.CX P w) lv f fd ps (spCM K c) ∧ mg x = some (.ref f) ∧ PySem.W.keepIn K (.ref f) = true ∧ Binds K fd ps ds ∧ Vals dvs ds ∧ ∀ G H, RepL K G H df dvs
abbrev Env1.DefM (U : Env1) (x : Str) (lv : Nat) (df : List D) (c : CtM) : Prop := DefOkM U.P U.w U.K U.mg U.base x lv df c
section
variable {S S' : Scp} {Γ : Cg} {δ : List Sl} {P : D → Prop} {PM : MT → Prop} {PL : List D → Prop} {N B C : List Sl → Prop} {R : D → Prop} {Kp0 : Kp} {a b c e o k tg : Expr} {es : List Expr} {pos : Pos} {st : Stmt} {sts : List Stmt}
/-! ### comprehensions -/
theorem lcm_t {scope : Scope} {S' : Scp} {elt iter : Expr} {ifs : List Expr} {own : List (Str × Nat)} (B : BlkS S S' scope own)
    (h : JI S Γ tg iter δ fun n f => ∃ A : Nat → List MT → Prop, A 0 [] ∧ (∀ i acc, i < n → A i acc → JGW S' Γ.inBlk (own.map (·.2)) tg (f i) (wipeD δ (own.map (·.2))) fun δ2 => JTs S' Γ.inBlk ifs δ2 fun t => if t = true then JM S' Γ.inBlk elt δ2 fun d => acc.length < sizeLine ∧ A (i + 1) (acc ++ [d]) else A (i + 1) acc) ∧ ∀ acc, A n acc → PM (.ls acc))
    {X : Cx} (hX : COk S Γ X) {σ : L2.St} {G H : Hp} (s : Stp Γ.K Γ.G0 Γ.H0 G H) (ev : EnvOk Γ.K G H Γ.H0 σ δ) {Q : VK} (k : ∀ v G' H' t as, Stp Γ.K G H G' H' → MRep Γ.K G' H' t v as → as.Nodup → (∀ a ∈ as, H a = none ∧ G' a = none) → PM t → Q v H') :
    tLc (wI X tg iter) (fun v σ H Q => ∀ s H0 C cl fp, wG (X.blk s H0 scope (compEnvC scope cl C X.env) fp) tg v σ H Q) (fun σ H Q => ∀ s H0 C cl fp, wTs (X.blk s H0 scope (compEnvC scope cl C X.env) fp) ifs σ H Q) (fun σ H Q => ∀ s H0 C cl fp, wE (X.blk s H0 scope (compEnvC scope cl C X.env) fp) elt σ H Q) (own.map (·.2)) σ H Q := by
  refine h.run X hX σ G H s ev _ fun J G1 H1 n f s1 it q => ?_
  obtain ⟨A, a0, turn, fin⟩ := q
  intro p hp
  have g1 : G1 p = none := s1.sub.free hp
  have h0 : H p = none := s1.free hp
  refine ⟨fun i m H' => m = n - i ∧ i ≤ n ∧ ∃ G' acc ts as, Stp Γ.K G1 H1 G' H' ∧ G' p = none ∧ H' p = some (.lst acc) ∧ MRepL Γ.K G' H' ts acc as ∧ as.Nodup ∧ (∀ a ∈ as, H1 a = none ∧ G' a = none ∧ a ≠ p) ∧ A i ts, ⟨n, by simp, Nat.zero_le _, G1, [], [], [], .newM s1.sub hp, g1, upd_same, .nil, by simp, (fun _ z => by cases z), a0⟩, ?_⟩
  rintro i m H' ⟨rfl, hi, G', acc, ts, as, s', g', hp', r', nd', f', ai⟩
  have st' := (s.trans s1).trans s'
  by_cases hlt : i < n
  · refine .inr ⟨it.go i G' H' s'.sub s'.mo hlt, fun H2 => ∃ G2 acc2 ts2 as2, Stp Γ.K G1 H1 G2 H2 ∧ G2 p = none ∧ H2 p = some (.lst acc2) ∧ MRepL Γ.K G2 H2 ts2 acc2 as2 ∧ as2.Nodup ∧ (∀ a ∈ as2, H1 a = none ∧ G2 a = none ∧ a ≠ p) ∧ A (i + 1) ts2, fun H2 h2 => ⟨n - (i + 1), by omega, rfl, hlt, h2⟩, fun x H2 y => ?_⟩
    obtain ⟨G2, s2, rx⟩ := it.yld i G' H' x H2 s'.sub s'.mo hlt y
    have own2 := s2.own p _ hp' g'
    intro s0 H0 C cl fp
    refine (turn i ts hlt ai).run _ (COk.blk B hX s0 H0 C cl fp) x _ G2 H2 (st'.trans s2) ((((ev.mono s1).mono s').mono s2).wipe _) rx _ fun σ3 G3 H3 δ3 w3 s3 ev3 q3 => ?_
    refine ⟨?_, ?_⟩
    · rw [w3]
      exact wipe_wipe fun _ z => z
    intro s0 H0 C cl fp pins s00 I
    refine q3.run _ (COk.blk B hX s0 H0 C cl fp) σ3 G3 H3 ((st'.trans s2).trans s3) ev3 pins s00 I _ fun t G4 H4 s4 q4 => ?_
    have s24 := (s2.trans s3).trans s4
    have own4 := s24.own p _ hp' g'
    have hp4 : H4 p = some (.lst acc) := own4.2.elim id fun z => z.1.elim
    obtain ⟨r4, g4⟩ := r'.stp s24 fun a ha => (f' a ha).2.1
    cases t with
    | false =>
      refine L2.iteF ⟨G4, acc, ts, as, s'.trans s24, own4.1, hp4, r4, nd', fun a ha => ⟨(f' a ha).1, g4 a ha, (f' a ha).2.2⟩, ?_⟩
      exact q4
    | true =>
      refine L2.iteT ?_
      intro s0 H0 C cl fp
      refine (show JM _ _ _ _ _ from q4).run _ (COk.blk B hX s0 H0 C cl fp) σ3 G4 H4 (st'.trans s24) (ev3.mono s4) _ fun y5 G5 H5 d5 as5 s5 r5 nd5 f5 q5 => ?_
      have own5 := s5.own p _ hp4 own4.1
      have hp5 : H5 p = some (.lst acc) := own5.2.elim id fun z => z.1.elim
      obtain ⟨r6, g6⟩ := r4.stp s5 g4
      have np : ∀ a ∈ as ++ as5, a ≠ p := fun a ha z => by
        rcases List.mem_append.mp ha with h | h
        · exact (f' a h).2.2 z
        · rw [z] at h
          rw [(f5 p h).1] at hp4
          cases hp4
      refine ⟨acc, hp5, by rw [r'.length]; exact q5.1, G5, acc ++ [y5], ts ++ [d5], as ++ as5, ((s'.trans s24).trans s5).write (o := .lst acc) own5.1 hp, own5.1, upd_same, ?_, ?_, ?_, q5.2⟩
      · exact (r6.append (.one r5)).mo (.write hp5) fun a ha => upd_ne (np a ha)
      · refine nd_app (H1 := H4) nd' nd5 (fun a ha z => ?_) fun a ha => (f5 a ha).1
        obtain ⟨vs, w⟩ := r4.own a ha
        rw [z] at w
        cases w
      · intro a ha
        refine ⟨?_, ?_, np a ha⟩
        · rcases List.mem_append.mp ha with h | h
          · exact (f' a h).1
          · exact (s'.trans s24).free (f5 a h).1
        · rcases List.mem_append.mp ha with h | h
          · exact g6 a h
          · exact (f5 a h).2
  · have e : i = n := by omega
    subst e
    refine .inl ⟨it.stop G' H' s'.sub s'.mo, k (.ref p) G' H' (.ls ts) (p :: as) (s1.trans s') ?_ ?_ ?_ (fin ts ai)⟩
    · unfold MRep
      exact ⟨p, acc, as, rfl, hp', rfl, r'⟩
    · exact List.nodup_cons.mpr ⟨fun z => (f' p z).2.2 rfl, nd'⟩
    · intro a ha
      cases ha with
      | head => exact ⟨h0, g'⟩
      | tail _ ha => exact ⟨s1.free (f' a ha).1, (f' a ha).2.1⟩
/-- name = [..] on one line, own lists in it -/
theorem zs_setLcM [Calm Γ] {elt iter : Expr} {ifs : List Expr} {scope : Scope} {own : List (Str × Nat)} {x : Str} {i : Nat} {py sp pos : Pos} (hv : Has S.ss x i) (hB : BlkS S S' scope own) (hx : (S.sc.names.lookup x == some .local && S.sc.kind == .function && py.line == pos.line && !(scope.names.any fun (n, k) => n == x && (k == .local || k == .cell))) = true)
    (h : JI S Γ tg iter δ fun n f => ∃ A : Nat → List MT → Prop, A 0 [] ∧ (∀ i acc, i < n → A i acc → JGW S' Γ.inBlk (own.map (·.2)) tg (f i) (wipeD δ (own.map (·.2))) fun δ2 => JTs S' Γ.inBlk ifs δ2 fun t => if t = true then JM S' Γ.inBlk elt δ2 fun d => acc.length < sizeLine ∧ A (i + 1) (acc ++ [d]) else A (i + 1) acc) ∧ ∀ acc, A n acc → N (δ.set i (.mt (.ls acc) [])))
    (hs : ∀ env x, foldedSetIterable iter env x = pure x := by intros; rfl) : JS S Γ (.Assign [.Name x py] (.ListComp elt [⟨tg, iter, ifs, 0⟩] scope pos) sp) δ ⟨N, R, B, C⟩ := by
  simp only [Bool.and_eq_true, beq_iff_eq, Bool.not_eq_true'] at hx
  refine ⟨fun X hX σ G H De s ev en => ?_⟩
  obtain ⟨h1, h2, h3⟩ := hX.loc hv.mem
  refine PSw (ps_setLc (g := fun v σ H Q => ∀ s H0 C cl fp, wG (X.blk s H0 scope (compEnvC scope cl C X.env) fp) tg v σ H Q) (tt := fun σ H Q => ∀ s H0 C cl fp, wTs (X.blk s H0 scope (compEnvC scope cl C X.env) fp) ifs σ H Q) (te := fun σ H Q => ∀ s H0 C cl fp, wE (X.blk s H0 scope (compEnvC scope cl C X.env) fp) elt σ H Q) (hX.calm Calm.hx) (by rw [hX.N]; exact hX.so.nd) h1 (by rw [hX.sc]; exact hx.1.1.1) (sw_true (by rw [hX.sc]; exact hx.1.1.2) (by rw [hX.sc]; exact hx.1.1.1) (by simpa using hx.1.2) hx.2) (wI_pi (hX.calm Calm.hx)) (by rw [hX.N, hX.sc]; exact hB.ok) ?_ ?_ ?_ (hs _)) ?_
  · exact fun s H C cl fp => ⟨fun pins s0 σ H0 v u Q I r q => q s H C cl fp pins s0 u I r⟩
  · exact fun s H C cl fp => ⟨fun pins s0 σ H0 Q I q => q s H C cl fp pins s0 I⟩
  · exact fun s H C cl fp => ⟨fun pins s0 σ H0 Q I q => q s H C cl fp pins s0 I⟩
  refine lcm_t (PM := fun t => N (δ.set i (.mt t []))) hB h hX s ev fun v G1 H1 t as s1 r nd f q => ?_
  exact en.nx _ G1 H1 _ (s.trans s1) s1.mo (ev.setM s1 r nd f fun a ha => s.free (f a ha).1) q
end
/-! from the facts of the top -/
section
variable {U : Env1} {m qual x : Str} {st : Stmt} {S : Scp} {ps : List Str} {n j : Nat} {f C : Addr} {fd : FuncData} {c : CtM} {dvs : List V} {df : List D}
end
end Z
set_option Elab.async false
set_option linter.all false
set_option maxRecDepth 100000
set_option maxHeartbeats 4000000
/-! Z36: set(a list of ints), sorted(set(..)). -/
namespace Z
open PySem L2
variable [tabsI : TabsT]
theorem call_set_listI {P : Program} {w : World} {A : Around} {E : Value → Shared → Prop} {s : Shared} {l : Addr} {items : Array Value} (ns : List Int) {Q : Value → Shared → Prop} (hh : A.handled = none) (hl : s.heap.IsList l items) (hit : PyProof.Rows.IntsAre items.toList ns) (hb : ns.length + 1 < scanBound)
    (h : ∀ (h' : Heap) (tk c : Nat), SetR w h' s.heap.objs.size (fun j => decide (j ∈ ns)) c → c ≤ ns.length → (∀ (b : Addr) (o : Obj), s.heap.get? b = some o → h'.get? b = some o) → Q (Value.ref s.heap.objs.size) { heap := h', gens := s.gens, drawn := s.drawn, toks := tk, os := s.os }) :
    wpAny (model P w) A (call (Value.type "set") [Value.ref l]) Q E s := by
  have hisz : items.size = ns.length := by simpa using hit.length
  obtain ⟨c, tl, hmro⟩ := F.called_set.mro
  have hmade := F.called_set.made
  have hsub := F.called_set.sub
  refine wpAny_call (codeAny_of_tree ?_)
  refine wpAny_pure ⟨Code.quiet_builtin _ (by decide +kernel), codeAny_builtin F.entry_type_call ?_⟩
  rw [Around.under_plain (weight_type_call_type "set" [.ref l] []) rfl]
  have h1 := F.called_set.notType
  have h2 := F.called_set.canCreate
  have hct := F.typeCall_set_1 (.ref l)
  unfold Builtin.«type.__call__»
  dsimp only
  refine wpAny_ite_false (by simp only [h1]; rfl) ?_
  refine wpAny_ite_false (by simp only [h2]; rfl) ?_
  refine wpAny_bind (wpAny_of_eq hct ?_)
  refine wpAny_bind (wpAny_of_eq hmro ?_)
  refine wpAny_ite_false rfl ?_
  refine wpAny_bind (wpAny_of_eq hmade ?_)
  refine wpAny_bind (wpAny_pure ?_)
  refine wpAny_bind (wpAny_holding ?_)
  refine wpAny_call (codeAny_mono (code_set_led1 (P := P) (w := w) (A := A.in1) (E := fun e s' => E e s') (s := s) (Q₁ := fun obj s₁ => obj = Value.ref s.heap.objs.size ∧ s₁ = { heap := s.heap.push { cls := Value.type "set", data := Data.set #[] 0 (SetTable.fresh 0 0 !w.params.followText "set-order") }, gens := s.gens, drawn := s.drawn, toks := s.toks, os := s.os }) (.ref l) ⟨rfl, rfl⟩) fun r s₁ hr => ?_)
  match r, hr with
  | .error e, hr => exact hr
  | .ok .next, hr => exact hr.elim
  | .ok .brk, hr => exact hr.elim
  | .ok .cont, hr => exact hr.elim
  | .ok (.ret v), hr =>
  obtain ⟨rfl, rfl⟩ := hr
  have hS := Heap.get?_push_size (o := { cls := Value.type "set", data := Data.set #[] 0 (SetTable.fresh 0 0 !w.params.followText "set-order") }) s.heap rfl
  have hT : Shared.TypeIs { heap := s.heap.push { cls := Value.type "set", data := Data.set #[] 0 (SetTable.fresh 0 0 !w.params.followText "set-order") }, gens := s.gens, drawn := s.drawn, toks := s.toks, os := s.os } (.ref s.heap.objs.size) "set" := ⟨_, hS, rfl⟩
  have hli := F.called_set.init.lookup
  have hbi := F.called_set.init.bind (Value.ref s.heap.objs.size)
  refine wpAny_bind (wpAny_isInstance hT hsub ?_)
  refine wpAny_ite_false rfl ?_
  refine wpAny_bind (wpAny_holding ?_)
  unfold callSpecial?
  refine wpAny_bind (wpAny_specialOf hT hli ?_)
  refine wpAny_holding ?_
  refine wpAny_bind (wpAny_of_eq hbi ?_)
  refine wpAny_bind (wpAny_call (codeAny_mono (R := wants (fun v s2 => v = .none ∧ ∃ h' tk c, s2 = { heap := h', gens := s.gens, drawn := s.drawn, toks := tk, os := s.os } ∧ SetR w h' s.heap.objs.size (fun j => decide (j ∈ ns)) c ∧ c ≤ ns.length ∧ ∀ (b : Addr) (o : Obj), s.heap.get? b = some o → h'.get? b = some o) (fun e s' => E e s')) (codeAny_call_builtin F.called_set.init.plain F.entry_set_init (check_set_init_1 hT ?_)) ?_))
  rotate_left
  · intro r s2 hr
    match r, hr with
    | .error e, hr => exact hr
    | .ok .next, hr => exact hr.elim
    | .ok .brk, hr => exact hr.elim
    | .ok .cont, hr => exact hr.elim
    | .ok (.ret v), hr =>
    obtain ⟨rfl, h', tk, c', rfl, q1, q2, q3⟩ := hr
    exact wpAny_pure (wpAny_ite_false rfl (wpAny_pure (h h' tk c' q1 q2 q3)))
  · obtain ⟨ol, hol, hcl, nl, hdl⟩ := hl
    have hset := F.sub_list_set
    have hfz := F.sub_list_frozenset
    have hT2 : Shared.TypeIs { heap := s.heap.push { cls := Value.type "set", data := Data.set #[] 0 (SetTable.fresh 0 0 !w.params.followText "set-order") }, gens := s.gens, drawn := s.drawn, toks := s.toks, os := s.os } (.ref l) "list" := ⟨_, Heap.get?_push_of_some _ hol, hcl⟩
    unfold Builtin.«set.__init__»
    refine wpAny_bind ?_
    unfold noKeywords
    refine wpAny_ite_true rfl (wpAny_pure ?_)
    show wpAny _ _ (Bind.bind (typeNameOfCut 200 _) _) _ _ _
    refine wpAny_bind ?_
    unfold typeNameOfCut
    refine wpAny_bind ?_
    unfold shownTypeOf
    refine wpAny_bind (wpAny_typeOf hT ?_)
    refine wpAny_ite_false rfl (wpAny_pure ?_)
    refine wpAny_pure ?_
    refine wpAny_bind ?_
    unfold checkCount
    refine wpAny_ite_false rfl (wpAny_ite_false rfl (wpAny_ite_false rfl (wpAny_pure ?_)))
    refine wpAny_bind ?_
    refine wpAny_pure ?_
    refine wpAny_bind ?_
    refine wpAny_bind ?_
    refine wpAny_bind (wpAny_load' hS ?_)
    refine wpAny_ite_false rfl ?_
    refine wpAny_pure (wpAny_pure ?_)
    refine wpAny_ite_false rfl ?_
    show wpAny _ _ (Bind.bind (Builtin.Frozenset.updateFrom _ _ _) _) _ _ _
    refine wpAny_bind ?_
    unfold Builtin.Frozenset.updateFrom
    refine wpAny_bind ?_
    unfold Builtin.Frozenset.isAnySet
    show wpAny _ _ (Bind.bind _ _) _ _ _
    refine wpAny_bind (wpAny_isInstance hT2 hset ?_)
    show wpAny _ _ (isInstance _ _) _ _ _
    refine wpAny_isInstance hT2 hfz ?_
    refine wpAny_ite_false rfl ?_
    refine wpAny_bind (wpAny_typeOf hT2 ?_)
    refine wpAny_ite_false rfl ?_
    have hl1 : Heap.IsList (s.heap.push { cls := Value.type "set", data := Data.set #[] 0 (SetTable.fresh 0 0 !w.params.followText "set-order") }) l items := ⟨ol, Heap.get?_push_of_some _ hol, hcl, nl, hdl⟩
    refine wpAny_bind (wpAny_pyIter_list hl1 ?_)
    refine wpAny_bind (wpAny_runValue ?_)
    have hls : l < s.heap.objs.size := Heap.lt_size hol
    have hz1 := Heap.size_push s.heap { cls := Value.type "set", data := Data.set #[] 0 (SetTable.fresh 0 0 !w.params.followText "set-order") }
    have hI := Heap.get?_push_size (o := { cls := Value.type "list_iterator", data := Data.fields #[Value.ref l, Value.int 0 0] }) (s.heap.push { cls := Value.type "set", data := Data.set #[] 0 (SetTable.fresh 0 0 !w.params.followText "set-order") }) rfl
    have hh3 : A.in1.in1.in1.handled = none := hh
    refine set_update_ints (St := fun i s => s.heap.IsListIter _ l i ∧ s.heap.IsList l items) (Walks.toS (Walks.list hh3 _ l ?_ items)) s.heap.objs.size ?_ ns hisz hb ?_ ns.length 0 _ ?_ (Nat.zero_le _) ?_ ?_ ?_
    · show (l : Nat) ≠ (s.heap.push _).objs.size
      rw [hz1]
      exact Nat.ne_of_lt (Nat.lt_succ_of_lt hls)
    · intro z
      rcases List.mem_cons.mp z with z | z
      · exact absurd z (Nat.ne_of_lt (by rw [hz1]; exact Nat.lt_succ_self _))
      · rcases List.mem_cons.mp z with z | z
        · exact absurd z (Nat.ne_of_gt hls)
        · cases z
    · intro i v hv
      have hi : i < items.size := (Array.getElem?_eq_some_iff.mp hv).1
      obtain ⟨t, ht⟩ := hit.int_at i v (by rw [Array.getElem?_toList]; exact hv)
      refine ⟨ns[i]'(by omega), t, List.getElem?_eq_getElem _, ?_⟩
      rw [ht]
      simp [List.getD, List.getElem?_eq_getElem (show i < ns.length by omega)]
    · rw [hisz]; rfl
    · refine ⟨⟨_, hI, rfl, rfl⟩, ol, Heap.get?_push_of_some _ (Heap.get?_push_of_some _ hol), hcl, nl, hdl⟩
    · exact ⟨0, Nat.le_refl _, setR_new_at (Heap.get?_push_of_some _ hS)⟩
    · intro s' c' mv hc hr
      obtain ⟨hp, gn, dr, tk, os⟩ := s'
      obtain ⟨m1, m2, m3, m4, m5⟩ := mv
      cases m2
      cases m3
      cases m4
      refine wpAny_pure (wpAny_pure ⟨rfl, hp, tk, c', rfl, hr, by omega, fun b o hb => ?_⟩)
      have hbl : b < s.heap.objs.size := Heap.lt_size hb
      refine m1 b o (fun z => ?_) (Heap.get?_push_of_some _ (Heap.get?_push_of_some _ hb))
      rcases List.mem_cons.mp z with z | z
      · exact absurd z (Nat.ne_of_lt hbl)
      · rcases List.mem_cons.mp z with z | z
        · exact absurd z (Nat.ne_of_lt (by rw [hz1]; exact Nat.lt_succ_of_lt hbl))
        · cases z

theorem cr_setI {X : Cx} (hc : X.calm = true) : CallR X (.type "set") (fun vs H Q => ∃ a, ∃ ns : List Int, vs = [.ref a] ∧ (SqL X.K H a (ns.map V.int) ∨ SqT X.K H a (ns.map V.int)) ∧ ns.length + 1 < scanBound ∧ ∀ p c, H p = none → (∃ ks : List Int, ks.Nodup ∧ ks.length = c ∧ ∀ k, k ∈ ks ↔ k ∈ ns) → Q (.ref p) (upd H p (SetO X.w p (fun j => decide (j ∈ ns)) c))) := by
  intro pins s σ H xs us Q I hv h
  obtain ⟨a, ns, rfl, hs, hb, k⟩ := h
  have hu : us = [.ref a] := by
    cases hv with
    | cons h1 h2 => cases h2; cases h1; rfl
  subst hu
  have fin : ∀ (h' : Heap) (tk c : Nat), SetR X.w h' s.heap.objs.size (fun j => decide (j ∈ ns)) c → c ≤ ns.length → (∀ (b : Addr) (o : Obj), s.heap.get? b = some o → h'.get? b = some o) → EP X pins σ Q (Value.ref s.heap.objs.size) { heap := h', gens := s.gens, drawn := s.drawn, toks := tk, os := s.os } := by
    intro h' tk c hr hc hk
    obtain ⟨o, es, ep, t, q1, q2⟩ := id hr
    refine ⟨.ref s.heap.objs.size, _, Inv.laid I hk (Nat.le_refl _) ?_, rfl, k _ c (I.hok.fresh (Nat.le_refl _)) ⟨es.toList.map keyOf, q2.2.2.2.1, ?_, fun k => ?_⟩⟩
    rotate_left
    · rw [List.length_map, Array.length_toList]; exact q2.2.2.2.2.2.2.2.1
    · rw [← q2.2.2.2.2.1 k]; simp
    refine ⟨hr, ⟨o, q1⟩, fun h1 h2 z w => ?_⟩
    obtain ⟨o1, es1, ep1, t1, z1, z2⟩ := z
    exact ⟨o1, es1, ep1, t1, w _ z1, z2⟩
  rcases hs with hs | hs
  · obtain ⟨its, q1, q2, _⟩ := I.list hs
    obtain ⟨n, m, w1, w2, _, w3⟩ := q2
    exact call_set_listI ns (I.ok.hd hc) ⟨n, w1, w2, m, w3⟩ (by simpa using ints_of_vals q1) hb fin
  · obtain ⟨its, q1, q2, _⟩ := I.tuple hs
    exact call_set_tupI ns (I.ok.hd hc) q2 (by simpa using ints_of_vals q1) hb fin
/-- sorted(set(e)) -/
theorem jf_sortedSet {S : Scp} {Γ : Cg} {δ : List Sl} {e : Expr} {pos p p2 q2 : Pos} {PL : List D → Prop} [Calm Γ] (hg : HasG S.gl "sorted") (hm : Γ.mg "sorted" = none) (hg2 : HasG S.gl "set") (hm2 : Γ.mg "set" = none)
    (h : JE S Γ e δ fun d => ∃ ns : List Int, (d = .lst (ns.map .int) ∨ d = .tup (ns.map .int)) ∧ ns.length < 4000 ∧ (∀ ks : List Int, ks.Nodup → (∀ k ∈ ks, k ∈ ns) → ks.length < 64) ∧ ∀ ms : List Int, ms.Pairwise (· < ·) → (∀ k, k ∈ ms ↔ k ∈ ns) → PL (ms.map .int))
    (hs : ∀ env, starEach [e] env = (false, eval e env) :: starEach [] env := by intro _; rfl) : JF S Γ (.Call (.Name "sorted" p) [.Call (.Name "set" p2) [e] [] q2] [] pos) δ PL := by
  refine ⟨fun X hX σ G H st ev Q k => ?_⟩
  have hk : Gl X "sorted" := by show X.env.scope.names.lookup _ = _; rw [hX.sc]; exact hX.so.gl _ hg.mem
  have hk2 : Gl X "set" := by show X.env.scope.names.lookup _ = _; rw [hX.sc]; exact hX.so.gl _ hg2.mem
  have hc : X.calm = true := hX.calm Calm.hx
  refine PEw (pe_callB wC_r hk (by rw [hX.mg]; exact hm) rfl (pa_cons (pe_callTy wC_r hk2 (by rw [hX.mg]; exact hm2) rfl (pa_cons wE_pe pa_nil (hs _)) (by decide) (by decide) (hs _)) pa_nil) (by decide) (by decide)) ?_
  refine h.run X hX σ G H st ev _ fun v G1 H1 d s1 r1 h1 => ?_
  obtain ⟨ns, hd, hl, hks, kk⟩ := h1
  have key : ∃ a, v = .ref a ∧ (SqL X.K H1 a (ns.map V.int) ∨ SqT X.K H1 a (ns.map V.int)) := by
    rcases hd with rfl | rfl
    · unfold Rep at r1
      obtain ⟨a, vs, rfl, q1, q2⟩ := r1
      rw [q2.ints] at q1
      exact ⟨a, rfl, .inl (.inl (.inl (s1.sub _ _ q1)))⟩
    · unfold Rep at r1
      obtain ⟨a, vs, rfl, q1, q2⟩ := r1
      rw [q2.ints] at q1
      exact ⟨a, rfl, .inr (by rw [hX.K]; exact Same.tup s1.sub q1)⟩
  obtain ⟨a, rfl, hsq⟩ := key
  refine CallRw (cr_setI hc) ⟨a, ns, rfl, hsq, ?_, fun p1 c hp ⟨ks, hk1, hk2, hk3⟩ => ?_⟩
  · exact Nat.lt_trans (Nat.succ_lt_succ hl) (by decide)
  refine CallRw (cr_sortedSet hc) ⟨p1, _, c, rfl, upd_same, (by have := hks ks hk1 fun k q => (hk3 k).mp q; omega), fun ms p3 hms hmem hlen hp3 => ?_⟩
  have s2 : Stp Γ.K G1 H1 G1 (upd H1 p1 (SetO X.w p1 (fun j => decide (j ∈ ns)) c)) := .newM s1.sub hp
  have s3 : Stp Γ.K G1 (upd H1 p1 (SetO X.w p1 (fun j => decide (j ∈ ns)) c)) G1 (upd (upd H1 p1 (SetO X.w p1 (fun j => decide (j ∈ ns)) c)) p3 (.lst (ms.map V.int))) := .newM s2.sub hp3
  exact k p3 _ G1 _ (ms.map .int) ((s1.trans s2).trans s3) ((s1.trans s2).free hp3) (s2.sub.free hp3) upd_same .ofInts (kk ms hms fun k => by rw [hmem k]; simp)
end Z
set_option Elab.async false
set_option linter.all false
set_option maxRecDepth 100000
set_option maxHeartbeats 4000000
/-! Z37: the rules of Z33 to Z36 in the form that the walk takes. -/
namespace Z
open PySem L2
variable [tabsI : TabsT]
section
variable {S S' : Scp} {Γ Γ' : Cg} {δ δ' : List Sl} {N B C : List Sl → Prop} {R : D → Prop} {P : D → Prop} {PB : Bool → Prop} {PM PM' : MT → Prop} {PT : List MT → Prop} {tg elt e o k : Expr} {es as : List Expr} {ks : List Keyword} {ifs : List Expr} {own : List Nat} {body : List Stmt} {α : Type} {xs : List α} {g : α → D} {n : Nat} {f : Nat → D} {pos : Pos} {st : Stmt}
theorem JM.imp (h : JM S Γ e δ PM) (k : ∀ t, PM t → PM' t) : JM S Γ e δ PM' := ⟨fun X hX σ G H s ev Q q => h.run X hX σ G H s ev Q fun v G' H' t as s' r nd f p => q v G' H' t as s' r nd f (k t p)⟩
/-- a comprehension of data with own lists in it -/
theorem lcFM (F : α → Option MT) (sr : Src n f xs g) (hl : xs.length ≤ 1000000)
    (step : ∀ x, x ∈ xs → JGW S' Γ' own tg (g x) δ' fun δ2 => JTs S' Γ' ifs δ2 fun t => if t = true then JM S' Γ' elt δ2 fun d => F x = some d else F x = none) (fin : PT (xs.filterMap F)) :
    ∃ A : Nat → List MT → Prop, A 0 [] ∧ (∀ i acc, i < n → A i acc → JGW S' Γ' own tg (f i) δ' fun δ2 => JTs S' Γ' ifs δ2 fun t => if t = true then JM S' Γ' elt δ2 fun d => acc.length < sizeLine ∧ A (i + 1) (acc ++ [d]) else A (i + 1) acc) ∧ ∀ acc, A n acc → PT acc := by
  have hs : 1000000 < sizeLine := by decide
  refine ⟨fun i acc => acc = (xs.take i).filterMap F, by simp, fun i acc hi ha => ?_, fun acc ha => ?_⟩
  · rw [sr.len] at hi
    rw [sr.at_ i hi]
    have e2 : xs.take (i + 1) = xs.take i ++ [xs[i]] := by rw [List.take_add_one, List.getElem?_eq_getElem hi]; rfl
    refine (step _ (List.getElem_mem _)).imp fun δ2 h => h.imp fun b h => ?_
    cases b with
    | false =>
      have h : F xs[i] = none := by simpa using h
      refine L2.iteF ?_
      show acc = _
      rw [e2, List.filterMap_append, ha]
      simp [h]
    | true =>
      have h : JM S' Γ' elt δ2 fun d => F xs[i] = some d := by simpa using h
      refine L2.iteT (h.imp fun d hd => ⟨?_, ?_⟩)
      · have l1 := List.length_filterMap_le F (xs.take i)
        have l2 : (xs.take i).length ≤ xs.length := List.length_take_le' i xs
        rw [ha]
        omega
      · show acc ++ [d] = _
        rw [e2, List.filterMap_append, ha]
        simp [hd]
  · have e2 : xs.take n = xs := List.take_of_length_le (by rw [sr.len]; exact Nat.le_refl _)
    simp only [e2] at ha
    rw [ha]
    exact fin
theorem lcMM (F : α → MT) (sr : Src n f xs g) (hl : xs.length ≤ 1000000) (step : ∀ x, x ∈ xs → JGW S' Γ' own tg (g x) δ' fun δ2 => JM S' Γ' elt δ2 fun d => d = F x) (fin : PT (xs.map F)) :
    ∃ A : Nat → List MT → Prop, A 0 [] ∧ (∀ i acc, i < n → A i acc → JGW S' Γ' own tg (f i) δ' fun δ2 => JTs S' Γ' [] δ2 fun t => if t = true then JM S' Γ' elt δ2 fun d => acc.length < sizeLine ∧ A (i + 1) (acc ++ [d]) else A (i + 1) acc) ∧ ∀ acc, A n acc → PT acc :=
  lcFM (fun x => some (F x)) sr hl (fun x hx => (step x hx).imp fun δ2 h => jts_nil (L2.iteT (h.imp fun d e => by rw [e]))) (by rw [show xs.filterMap (fun x => some (F x)) = xs.map F by simp]; exact fin)
theorem zs_setM {x : Str} {i : Nat} {p : Pos} (hv : Has S.ss x i) (h : JM S Γ e δ fun t => N (δ.set i (.mt t []))) (hs : ∀ env, swapsWith e (some (.Name x p)) pos.line env = pure false := by intro _; rfl) : JS S Γ (.Assign [.Name x p] e pos) δ ⟨N, R, B, C⟩ := js_setM hv.mem h hs
/-- o.append(e) -/
theorem zs_app {p2 p3 : Pos} (h : JP S Γ o δ fun i π => OwnAt δ i π fun t ts => JM S Γ e δ fun u => ts.length < sizeLine ∧ N (δ.set i (.mt (MT.put (.ls (ts ++ [u])) π t) [])))
    (hb : ∀ env, attributeBase o "append" env (eval o env) = eval o env := by intro _; rfl)
    (hs : ∀ env, starEach [e] env = (false, eval e env) :: starEach [] env := by intro _; rfl) (hline : (p2.endLine == p3.line) = true := by rfl)
    (hfew : ∀ env, ((backTo p3 (starEach [e] env)).all (fun x => !x.1) && (backToKw p3 (keywordEach [] env)).all (fun x => x.1.isSome) && decide (([e] : List Expr).length + ([] : List Keyword).length + (if ([] : List Keyword).isEmpty then 0 else 1) < 30)) = true := by intro _; rfl)
    (hsw : ∀ env, swapsWith (.Call (.Attribute o "append" p2) [e] [] p3) none pos.line env = pure false := by intro _; rfl) :
    JS S Γ (.Expr (.Call (.Attribute o "append" p2) [e] [] p3) pos) δ ⟨N, R, B, C⟩ := by
  refine js_mth (Kp0 := ⟨N, R, B, C⟩) PySem.F.slot_list_append PySem.F.type_list_append (fun _ => mt_append) ?_ hb hs (by intro _; rfl) hline hfew hsw
  refine ⟨fun X hX σ G H st ev Q q => h.run X hX σ G H st ev Q fun v G' H' i π t pins r s hδ e1 va p => q v G' H' i π t pins r s hδ e1 va ?_⟩
  obtain ⟨t', pins', ts, q1, q2, q3⟩ := p
  refine ⟨t', pins', ts, q1, q2, jma_cons hs (q3.imp fun u w => jma_nil ⟨_, [], eff_append w.1, kept_nil, w.2⟩)⟩
/-- the member at an index -/
theorem ixM_at {i : Nat} {π : List Nat} {k : Int} {j : Nat} {t : MT} {pins : List (List Nat × Addr)} {ts : List MT} {PP : List Nat → Prop} (hδ : δ[i]? = some (.mt t pins)) (hu : t.sub π = some (.ls ts)) (hk : ixN ts.length k = some j) (h : PP (π ++ [j])) : IxM δ i π (.int k) PP := ⟨k, j, t, pins, _, rfl, hδ, hu, .inl ⟨_, rfl⟩, hk, h⟩
theorem ixN_in {n : Nat} {k : Int} (h0 : 0 ≤ k) (h1 : k < n) : ixN n k = some k.toNat := by
  unfold ixN
  rw [if_pos h0, if_pos h1]
theorem ownAt {i : Nat} {π : List Nat} {t : MT} {pins : List (List Nat × Addr)} {ts : List MT} {PP : MT → List MT → Prop} (hδ : δ[i]? = some (.mt t pins)) (hu : t.sub π = some (.ls ts)) (h : PP t ts) : OwnAt δ i π PP := ⟨t, pins, ts, hδ, hu, h⟩
theorem sub_one {ts : List MT} {j : Nat} : MT.sub [j] (.ls ts) = ts[j]? := by
  unfold MT.sub MT.kids
  cases ts[j]? <;> rfl
theorem put_one {ts : List MT} {j : Nat} {u : MT} : MT.put u [j] (.ls ts) = .ls (ts.set j u) := rfl
theorem mapRange_set {β : Type} {m j : Nat} {f : Nat → β} {x : β} : ((List.range m).map f).set j x = (List.range m).map fun n => if n = j then x else f n := by
  refine List.ext_getElem (by simp) fun i h1 h2 => ?_
  rw [List.getElem_set]
  simp only [List.getElem_map, List.getElem_range]
  by_cases e : j = i
  · rw [if_pos e, if_pos e.symm]
  · rw [if_neg e, if_neg (fun z => e z.symm)]
/-- the first argument of a call is looked at -/
theorem ze_viewA {f : Expr} {x : Str} {p q : Pos} {i : Nat} {t : MT} {pins : List (List Nat × Addr)} {d : D} (hv : Has S.vs x i) (hδ : δ[i]? = some (.mt t pins)) (ht : t.flat = d) (h : JE S Γ (.Call f (.Name x p :: as) ks q) (δ.set i (.fz d)) fun d => flatD d ∧ P d) : JE S Γ (.Call f (.Name x p :: as) ks q) δ P := je_view i hδ (by rw [ht]; exact h)
theorem flat_fzs {ds : List D} : (MT.fzs ds).flat = .lst ds := by
  unfold MT.flat
  rw [flatL_fz]
end
theorem nodup_len : ∀ {n : Nat} {l : List Int} {lo : Int}, l.Nodup → (∀ a ∈ l, lo ≤ a ∧ a < lo + n) → l.length ≤ n
  | 0, l, lo, h, hb => by
    cases l with
    | nil => exact Nat.le_refl _
    | cons a l => have := hb a (.head _); omega
  | n + 1, l, lo, h, hb => by
    have h2 := nodup_len (n := n) (l := l.erase (lo + n)) (lo := lo) (h.erase _) fun a ha => by
      have h3 := hb a (List.mem_of_mem_erase ha)
      have h4 : a ≠ lo + n := fun z => by
        subst z
        exact (List.Nodup.not_mem_erase h) ha
      omega
    rw [List.length_erase] at h2
    split at h2 <;> omega
theorem flat_obj2 {C : Addr} {ns : List Str} {xs ys : List (List Int)} : flatD (.obj C ns [.tup (xs.map fun r => .tup (r.map .int)), .tup (ys.map fun r => .tup (r.map .int))]) := by
  unfold flatD flatL flatL flatL
  refine ⟨?_, ?_, trivial⟩
  · unfold flatD
    exact flat_rows fun x _ => flat_tup
  · unfold flatD
    exact flat_rows fun x _ => flat_tup
end Z
set_option Elab.async false
set_option linter.all false
set_option maxRecDepth 100000
set_option maxHeartbeats 4000000
/-! Z38: name = a comprehension of two clauses. -/
namespace Z
open PySem L2
variable [tabsI : TabsT]
section
variable {S S' : Scp} {Γ : Cg} {δ : List Sl} {N B C : List Sl → Prop} {R : D → Prop} {tg tg1 elt iter iter1 : Expr} {ifs ifs1 : List Expr} {scope : Scope} {own : List (Str × Nat)} {x : Str} {i : Nat} {py sp pos : Pos}
end
section
variable {S' : Scp} {Γ' : Cg} {δ' : List Sl} {tg elt : Expr} {ifs : List Expr} {own : List Nat} {α : Type} {xs : List α} {g : α → D} {n : Nat} {f : Nat → D}
/-- the inner clause, by the length of what it gives -/
theorem lcI2 {acc : List D} {k : List D → Prop} (F : α → Option D) (sr : Src n f xs g) (hl : acc.length + (xs.filterMap F).length ≤ 1000000)
    (step : ∀ x, x ∈ xs → JGW S' Γ' own tg (g x) δ' fun δ2 => JTs S' Γ' ifs δ2 fun t => if t = true then JE S' Γ' elt δ2 fun d => F x = some d else F x = none) (fin : k (acc ++ xs.filterMap F)) :
    ∃ A : Nat → List D → Prop, A 0 acc ∧ (∀ i acc, i < n → A i acc → JGW S' Γ' own tg (f i) δ' fun δ2 => JTs S' Γ' ifs δ2 fun t => if t = true then JE S' Γ' elt δ2 fun d => acc.length < sizeLine ∧ A (i + 1) (acc ++ [d]) else A (i + 1) acc) ∧ ∀ acc, A n acc → k acc := by
  have hs : 1000000 < sizeLine := by decide
  refine ⟨fun i a => a = acc ++ (xs.take i).filterMap F, by simp, fun i a hi ha => ?_, fun a ha => ?_⟩
  · rw [sr.len] at hi
    rw [sr.at_ i hi]
    have e2 : xs.take (i + 1) = xs.take i ++ [xs[i]] := by rw [List.take_add_one, List.getElem?_eq_getElem hi]; rfl
    have hle : ((xs.take i).filterMap F).length ≤ (xs.filterMap F).length := by
      have : xs.filterMap F = (xs.take i).filterMap F ++ (xs.drop i).filterMap F := by rw [← List.filterMap_append, List.take_append_drop]
      rw [this, List.length_append]
      omega
    refine (step _ (List.getElem_mem _)).imp fun δ2 h => h.imp fun b h => ?_
    cases b with
    | false =>
      have h : F xs[i] = none := by simpa using h
      refine L2.iteF ?_
      show a = _
      rw [e2, List.filterMap_append, ha]
      simp [h]
    | true =>
      have h : JE S' Γ' elt δ2 fun d => F xs[i] = some d := by simpa using h
      refine L2.iteT (h.imp fun d hd => ⟨?_, ?_⟩)
      · rw [ha, List.length_append]
        omega
      · show a ++ [d] = _
        rw [e2, List.filterMap_append, ha]
        simp [hd]
  · have e2 : xs.take n = xs := List.take_of_length_le (by rw [sr.len]; exact Nat.le_refl _)
    simp only [e2] at ha
    rw [ha]
    exact fin
end
end Z
set_option Elab.async false
set_option linter.all false
set_option maxRecDepth 100000
set_option maxHeartbeats 4000000
/-! Z39: in and not in, of encoded data. -/
namespace Z
open PySem L2
variable [tabsI : TabsT]
section
variable {α : Type} [DecidableEq α] {f : α → D} {k : Nat} {S : Scp} {Γ : Cg} {P : D → Prop}
theorem encL_any (h : EncOk f k) (x : α) : ∀ xs : List α, (pyL (xs.map f)).any (fun z => PyData.eqv z (pyD (f x))) = decide (x ∈ xs)
  | [] => rfl
  | y :: ys => by
    rw [List.map_cons]
    unfold pyL
    rw [List.any_cons, encL_any h x ys, h.eq, ← Bool.decide_or]
    refine decide_eq_decide.mpr ?_
    rw [List.mem_cons]
    constructor
    · rintro (e | e)
      · exact .inl e.symm
      · exact .inr e
    · rintro (e | e)
      · exact .inl e.symm
      · exact .inr e
theorem encL_anyI (h : EncOk f k) (x : α) (xs : List α) (i : Decidable (x ∈ xs)) : (pyL (xs.map f)).any (fun z => PyData.eqv z (pyD (f x))) = @decide (x ∈ xs) i := by
  rw [encL_any h]
  exact decide_eq_decide.mpr Iff.rfl
theorem unH65 {k : Nat} {A : Around} (r : L2H.RoomH k A) : A.units + 65 < cLine := by have := r.un; omega
theorem od_inE (h : EncOk f k) (hk : k + 1 ≤ 64) {x : α} {xs : List α} {i : Decidable (x ∈ xs)} (p : P (.bl (decide (x ∈ xs)))) : OpD S Γ (compareOp .In) (f x) (.lst (xs.map f)) P := by
  refine ⟨fun X hX v u G H st r1 r2 Q k => ?_⟩
  exact OpRw (op_inD (unH65 hX.roomH)) ⟨_, _, by rw [hX.K]; exact dp_rep st.sub (h.pln x) r1, by rw [hX.K]; exact dp_rep st.sub ((enc_lst h).pln xs) r2, h.shaped (by omega) x, (enc_lst h).shaped hk xs, by rw [encL_anyI h x xs i]; exact k _ G H _ (.refl st.sub) rep_bl p⟩
theorem od_ninE (h : EncOk f k) (hk : k + 1 ≤ 64) {x : α} {xs : List α} {i : Decidable (x ∈ xs)} (p : P (.bl (!decide (x ∈ xs)))) : OpD S Γ (compareOp .NotIn) (f x) (.lst (xs.map f)) P := by
  refine ⟨fun X hX v u G H st r1 r2 Q k => ?_⟩
  exact OpRw (op_notInD (unH65 hX.roomH)) ⟨_, _, by rw [hX.K]; exact dp_rep st.sub (h.pln x) r1, by rw [hX.K]; exact dp_rep st.sub ((enc_lst h).pln xs) r2, h.shaped (by omega) x, (enc_lst h).shaped hk xs, by rw [encL_anyI h x xs i]; exact k _ G H _ (.refl st.sub) rep_bl p⟩
end
section
variable {S : Scp} {Γ : Cg} {P : D → Prop}
abbrev pairD (p : Int × Int) : D := .tup [.int p.1, .int p.2]
theorem od_inP {a b : Int} {xs : List (Int × Int)} (p : P (.bl (decide ((a, b) ∈ xs)))) : OpD S Γ (compareOp .In) (.tup [.int a, .int b]) (.lst (xs.map fun p => .tup [.int p.1, .int p.2])) P := od_inE (enc_pair enc_int enc_int) (by decide) (x := (a, b)) p
theorem od_ninP {a b : Int} {xs : List (Int × Int)} (p : P (.bl (!decide ((a, b) ∈ xs)))) : OpD S Γ (compareOp .NotIn) (.tup [.int a, .int b]) (.lst (xs.map fun p => .tup [.int p.1, .int p.2])) P := od_ninE (enc_pair enc_int enc_int) (by decide) (x := (a, b)) p
theorem od_neP {a b c d : Int} (p : P (.bl (!decide ((a, b) = (c, d))))) : OpD S Γ (compareOp .NotEq) (.tup [.int a, .int b]) (.tup [.int c, .int d]) P := od_neE (enc_pair enc_int enc_int) (by decide) (x := (a, b)) (y := (c, d)) p
end
end Z
set_option Elab.async false
set_option linter.all false
set_option maxRecDepth 100000
set_option maxHeartbeats 4000000
/-! Z40: for x in own lists: its body changes them; fresh lists out of a look; methods that hand back own lists; changes in the form that the walk takes. -/
namespace Z
open PySem L2
variable [tabsI : TabsT]
structure MethOkM (P : Program) (w : World) (K : PySem.W.Frag) (mg : Str → Option Value) (base : Heap) (C : Addr) (m : Str) (lv : Nat) (c : CtM) : Prop where
  mono : MonoM c
  ex : ∃ f fd ps, FnOk P w K mg base (L2N.CX P w) lv f fd ps (spCM K c) ∧ Meth K C m f ∧ Binds K fd ps []
section
variable {S S' : Scp} {Γ : Cg} {δ : List Sl} {P : D → Prop} {PM : MT → Prop} {PL : List D → Prop} {N B C : List Sl → Prop} {R : D → Prop} {Kp0 : Kp} {a b c e o k tg : Expr} {es : List Expr} {pos : Pos} {st : Stmt} {sts : List Stmt}
end
section
variable {U : Env1} {m qual : Str} {st : Stmt} {S : Scp} {ps : List Str} {n : Nat} {f C : Addr} {fd : FuncData} {c : CtM}
end
section
variable {S : Scp} {Γ : Cg} {P : D → Prop} {PL : List D → Prop}
end
end Z
set_option Elab.async false
set_option linter.all false
set_option maxRecDepth 100000
set_option maxHeartbeats 4000000
/-! Z41: sorted(xs, key=lambda z: (.., ..)) of pairs of ints: the key at work. -/
namespace Z
open PySem L2
section
open PySem.Spec PyProof.Rows
variable {prog : Program} {w : World} {A : Around} {env : Env} {zn : Str} {pa : Addr} {a b n n1 n2 : Int} {e1 e2 : Expr} {p1 p2 p3 : Pos}
/-- the pair that the lambda got -/
structure AtP (env : Env) (zn : Str) (pa : Addr) (a b : Int) (h : Heap) : Prop where
  ns : ∃ m, h.Ns env.locals m ∧ m zn = some (.ref pa)
  tp : ∃ ta tb, IsTup h pa #[.int a ta, .int b tb]
/-- an int of its members -/
def EvI (prog : Program) (w : World) (A : Around) (env : Env) (zn : Str) (pa : Addr) (a b : Int) (e : Expr) (n : Int) : Prop :=
  ∀ (s : Shared) (Q E : Value → Shared → Prop), AtP env zn pa a b s.heap → (∀ t k, Q (.int n t) { s with toks := k }) → wpAny (model prog w) A (eval e env) Q E s
theorem ev_ix0 {j : Nat} (hk : env.scope.kind = .function) (hl : env.kindOf zn = some .local) (hd : (zn == ("__debug__" : Str)) = false) : EvI prog w A env zn pa a b (.Subscript (.Name zn p1) (.Constant (.int 0) j p2) p3) a := by
  intro s Q E h q
  obtain ⟨m, hm, hz⟩ := h.ns
  obtain ⟨ta, tb, ht⟩ := h.tp
  refine Subscript_ (wpAny_Name (wpAny_loadName_local hk hl hm hz (wpAny_Constant_int ?_)) hd)
  exact subscriptTail_builtinR (x := .int a ta) (s := { s with toks := s.toks + 1 }) (IsTup.typeIs ht) slot_tuple_getitem.lookup (getItem_tuple (j := 0) (Q := fun r s' => r = .int a ta ∧ Q r s') ht (by decide) (by decide) rfl rfl ⟨rfl, q _ _⟩)
theorem ev_ix1 {j : Nat} (hk : env.scope.kind = .function) (hl : env.kindOf zn = some .local) (hd : (zn == ("__debug__" : Str)) = false) : EvI prog w A env zn pa a b (.Subscript (.Name zn p1) (.Constant (.int 1) j p2) p3) b := by
  intro s Q E h q
  obtain ⟨m, hm, hz⟩ := h.ns
  obtain ⟨ta, tb, ht⟩ := h.tp
  refine Subscript_ (wpAny_Name (wpAny_loadName_local hk hl hm hz (wpAny_Constant_int ?_)) hd)
  exact subscriptTail_builtinR (x := .int b tb) (s := { s with toks := s.toks + 1 }) (IsTup.typeIs ht) slot_tuple_getitem.lookup (getItem_tuple (j := 1) (Q := fun r s' => r = .int b tb ∧ Q r s') ht (by decide) (by decide) rfl rfl ⟨rfl, q _ _⟩)
theorem ev_add (h1 : EvI prog w A env zn pa a b e1 n1) (h2 : EvI prog w A env zn pa a b e2 n2) : EvI prog w A env zn pa a b (.BinOp e1 .Add e2 p1) (n1 + n2) := by
  intro s Q E h q
  exact wpAny_BinOp (h1 s _ _ h fun t k => h2 { s with toks := k } _ _ h fun t2 k2 => PyProof.Rows.add_int (q _ _))
theorem ev_pair {kt : Nat} {s : Shared} {Q E : Value → Shared → Prop} (h1 : EvI prog w A env zn pa a b e1 n1) (h2 : EvI prog w A env zn pa a b e2 n2) (h : AtP env zn pa a b s.heap)
    (hs : starEach [e1, e2] env = (false, eval e1 env) :: starEach [e2] env := by rfl) (hs2 : starEach [e2] env = (false, eval e2 env) :: starEach [] env := by rfl)
    (q : ∀ t1 t2 k, Q (.ref s.heap.objs.size) { s with heap := s.heap.push { cls := .type "tuple", data := .seq #[.int n1 t1, .int n2 t2] }, toks := k }) : wpAny (model prog w) A (eval (.Tuple [e1, e2] kt p1) env) Q E s := by
  refine wpAny_Tuple_spliced ?_
  rw [hs, hs2]
  show wpAny _ _ (spliced ((false, eval e1 env) :: (false, eval e2 env) :: [])) _ _ s
  refine Calls.spliced_cons (h1 s _ _ h fun t1 k1 => ?_)
  refine Calls.spliced_cons (h2 { s with toks := k1 } _ _ h fun t2 k2 => ?_)
  exact Calls.spliced_nil ⟨(by show 2 ≤ sizeLine; decide), q t1 t2 k2⟩
/-- f(v): f a lambda of one parameter -/
theorem call_lam {s : Shared} {f c' : Addr} {params : Arguments} {body : Expr} {scope : Scope} {cl : List (Str × Addr)} {pm ctv v : Value} {qual : Str} {Q : Value → Shared → Prop}
    (ho : s.heap.get? f = some (PySem.W.kla_obj "<lambda>" qual params body scope cl pm c' ctv)) (hcd : s.heap.CodeRec (.ref c') qual) (hroom : A.depth < recursionLimit) (lim : s.heap.NoLimit)
    (hbind : bindArgs (PySem.W.kla_fn "<lambda>" qual params body scope cl pm (.ref c') ctv) ⟨[v], []⟩ = pure [(zn, v)]) (hloc : scope.names.lookup zn = some .local) (hcell : ∀ y ∈ scope.names, y.2 ≠ .cell) (hk : scope.kind = .function) (hco : scope.isCoroutine = false) (hgen : scope.isGenerator = false)
    (hbody : ∀ (h₁ : Heap) (tk : Tok), h₁.Ns s.heap.objs.size (fun y => ([(zn, v)] : List (Str × Value)).reverse.lookup y) → (∀ b o, s.heap.get? b = some o → h₁.get? b = some o) →
      wpAny (model prog w) (A.deeper (PySem.W.envX qual scope s.heap.objs.size f (.ref c') cl)) (eval body (PySem.W.envX qual scope s.heap.objs.size f (.ref c') cl)) Q (fun _ _ => False) { s with heap := h₁, toks := tk }) :
    wpAny (model prog w) A (call (.ref f) [v]) Q (fun _ _ => False) s := by
  refine wpAny_call (PySem.W.kla_callFunE hroom ho rfl hco hgen rfl hcd ?_)
  rw [hbind]
  refine wpAny_pure (wpAny_newFunctionEnv hcell (fun y hy => by rw [List.mem_singleton.mp hy]; exact hloc) (fun h₁ hns hsb => ⟨lim.fresh _ hsb, ?_⟩) hk)
  have kp : ∀ b o, s.heap.get? b = some o → h₁.get? b = some o := fun b o e => hsb.extBut b o (Nat.ne_of_lt (Heap.lt_size e)) (Heap.get?_push_of_some _ e)
  show codeAny _ _ (.expr body (PySem.W.envX qual scope s.heap.objs.size f (.ref c') cl)) _ _
  exact PySem.W.kla_codeExpr (wpAny_mono (hbody h₁ _ hns kp) (fun u s' q => q) fun _ _ z => z.elim)
end
variable [tabsI : TabsT]
/-! ### the lambda made -/
section
open PySem.Spec PyProof.Rows LamX
variable {X : Cx} {pins : List (Addr × Obj)} {σ : L2.St} {G H : Hp} {s : Shared} {c P : Addr} {q : Str} {params : Arguments} {body : Expr} {scope : Scope} {pos : Pos}
/-- a function object that the heap has, apart from all that is told of it -/
def FnAt (X : Cx) (params : Arguments) (body : Expr) (scope : Scope) (q : Str) (H : Hp) (s : Shared) (f c' : Addr) : Prop :=
  ∃ pm ctv, s.heap.get? f = some (PySem.W.kla_obj "<lambda>" q params body scope [] pm c' ctv) ∧ s.heap.CodeRec (.ref c') q
theorem codeRec_of {h : Heap} {c' : Addr} {q : Str} {P2 : Program} {w2 : World} (e : ∃ oc vs t, h.get? c' = some oc ∧ oc.data = .fields vs ∧ vs[1]? = some (.str q t)) : h.CodeRec (.ref c') q := by
  obtain ⟨oc, vs, t, h1, h2, h3⟩ := e
  exact ⟨c', oc, vs, t, rfl, h1, h2, h3⟩
/-- a table with one more row -/
theorem tabs_more {ps : Array Value} {c' : Addr} {r1 r2 : Value} (hu : ∀ x ∈ tabsI.T, x.1 = P → x.2 = q) (t : Tabs tabsI.T H) (hP : H P = some (.tbl ps)) (nc : H c' = none) (am : ∀ (p' : Pos) cv, codeAmong p' (ps ++ #[r1, r2, .ref c']).toList = some cv → codeAmong p' ps.toList = some cv ∨ cv = .ref c') (ok : TriplesOk (ps ++ #[r1, r2, .ref c']).toList) :
    Tabs tabsI.T (upd (upd H P (.tbl (ps ++ #[r1, r2, .ref c']))) c' (CodeO c' q)) := by
  have nPc : P ≠ c' := fun z => by rw [z, nc] at hP; cases hP
  have keepC : ∀ d q', H d = some (CodeO d q') → upd (upd H P (.tbl (ps ++ #[r1, r2, .ref c']))) c' (CodeO c' q) d = some (CodeO d q') := fun d q' e => by
    have n1 : d ≠ c' := fun z => by rw [z, nc] at e; cases e
    have n2 : d ≠ P := fun z => by
      rw [z, hP] at e
      exact codeO_ne _ (Option.some.inj e).symm
    rw [upd_ne n1, upd_ne n2]
    exact e
  intro x hx
  obtain ⟨qs, a1, a2, a3⟩ := t x hx
  have n3 : x.1 ≠ c' := fun z => by rw [z, nc] at a1; cases a1
  by_cases z : x.1 = P
  · have e2 := hu x hx z
    rw [z] at a1 ⊢
    rw [hP] at a1
    cases a1
    refine ⟨_, by rw [upd_ne nPc, upd_same], ok, fun p' cv hc => ?_⟩
    rcases am p' cv hc with w1 | w1
    · obtain ⟨d, b1, b2⟩ := a3 p' cv w1
      exact ⟨d, b1, keepC _ _ b2⟩
    · exact ⟨c', w1, by rw [e2, upd_same]⟩
  · refine ⟨qs, by rw [upd_ne n3, upd_ne z]; exact a1, a2, fun p' cv hc => ?_⟩
    obtain ⟨d, b1, b2⟩ := a3 p' cv hc
    exact ⟨d, b1, keepC _ _ b2⟩
theorem stp_table {K : PySem.W.Frag} {ps more : Array Value} {c' : Addr} (e : Same G H) (hP : H P = some (.tbl ps)) (hm : (P, q) ∈ tabsI.T) (nc : H c' = none) (tk : Tabs tabsI.T H → Tabs tabsI.T (upd (upd H P (.tbl (ps ++ more))) c' (CodeO c' q))) (t0 : TOk G H) :
    Stp K G H G (upd (upd H P (.tbl (ps ++ more))) c' (CodeO c' q)) := by
  have gP : G P = none := t0.gn _ hm
  have gc : G c' = none := e.free nc
  refine ⟨Same.refl G, fun b u w => ?_, fun b u w n => ⟨n, ?_⟩, fun t => ⟨tk t.tb, t.gn⟩⟩
  · rw [upd_ne (ne_of_none w gc), upd_ne (ne_of_none w gP)]
    exact e b u w
  · have n1 : b ≠ c' := ne_of_none w nc
    by_cases z : b = P
    · subst z
      rw [hP] at w
      cases w
      refine .inr ⟨True.intro, .tbl (ps ++ more), by rw [upd_ne n1, upd_same], ⟨True.intro, rfl⟩, fun cells so => ?_⟩
      obtain ⟨kvs, k1, _⟩ := so
      rw [hP] at k1
      cases k1
    · exact .inl (by rw [upd_ne n1, upd_ne z]; exact w)
theorem lam_made {K : PySem.W.Frag} {E Q : Value → Shared → Prop} (I : Inv X pins σ H s) (e : Same G H) (t0 : TOk G H) (TB : TabB X.base X.mg c P) (hcode : X.env.code = .ref c) (hq : X.env.qual ++ "<lambda>" = q) (hm : (P, q) ∈ tabsI.T) (hu : ∀ x ∈ tabsI.T, x.1 = P → x.2 = q)
    (hdef : defaultsOf params X.env = ([], [])) (hcl : closureFor scope X.env = pure [])
    (h : ∀ (f c' : Addr) (H1 : Hp) (s' : Shared), Inv X pins σ H1 s' → Stp K G H G H1 → FnAt X params body scope q H1 s' f c' → Q (.ref f) s') : wpAny (model X.prog X.w) X.A (eval (.Lambda params body scope pos) X.env) Q E s := by
  subst hq
  obtain ⟨ps, hP, ht, ha⟩ := t0.tb _ hm
  have bP : s.heap.BuiltinsAt X.mg P := TB.bm.keeps I.bk
  have hP' := I.hok P _ hP
  refine PySem.W.kla_eval hdef ?_
  cases hc : codeAmong pos ps.toList with
  | none =>
    refine PySem.W.kla_makeFunction (mg := X.mg) (c := c) (P := P) (ps := ps) hcl I.ok.glob (I.mod.glob.keeps I.bk) hcode (TB.code.keeps I.bk) hP' ht hc TB.gP bP ?_
    intro c' ctv h' tk hx hge hlt hrec htb
    have hr0 := hrec
    obtain ⟨c2, oc, vs, t, e2, hoc, hd, hv⟩ := hrec
    cases e2
    have up := fun b o (hb : b ≠ P) (w : s.heap.get? b = some o) => Heap.get?_push_of_some (PySem.W.kla_obj "<lambda>" (X.env.qual ++ "<lambda>") params body scope [] ((X.mg "__name__").getD .none) c' ctv) (hx b o hb w)
    have J := inv_table (t' := tk) (q := X.env.qual ++ "<lambda>") (more := #[rawInt pos.line, rawInt pos.col, .ref c']) I hP up (Heap.get?_push_of_some _ htb) hge ⟨oc, vs, t, Heap.get?_push_of_some _ hoc, hd, hv⟩
    have nC : H c' = none := I.hok.fresh hge
    have el : (ps ++ #[rawInt pos.line, rawInt pos.col, .ref c']).toList = ps.toList ++ [rawInt pos.line, rawInt pos.col, .ref c'] := by simp
    refine h h'.objs.size c' _ _ J (stp_table e hP hm nC (fun t => tabs_more hu t hP nC (fun p' cv w => ?_) ?_) t0) ⟨_, _, Heap.get?_push_size _ rfl, ?_⟩
    · rw [el] at w
      exact among_app _ ht w
    · rw [el]
      exact PySem.TriplesOk_snoc _ _ _ _ ht
    · exact ⟨c', oc, vs, t, rfl, Heap.get?_push_of_some _ hoc, hd, hv⟩
  | some cv =>
    obtain ⟨c', ec, hco⟩ := ha pos cv hc
    subst ec
    refine PySem.W.kla_makeFunctionHit (mg := X.mg) (c := c) (P := P) (ps := ps) hcl I.ok.glob (I.mod.glob.keeps I.bk) hcode (TB.code.keeps I.bk) hP' ht hc bP ?_
    intro ctv h' tk hx hsz
    obtain ⟨⟨oc, vs, t, a1, a2, a3⟩, _, _⟩ := I.hok c' _ hco
    exact h h'.objs.size c' H _ (I.kept (t' := tk) fun b o w => Heap.get?_push_of_some _ (hx b o w)) (.refl e) ⟨_, _, Heap.get?_push_size _ rfl, c', oc, vs, t, rfl, Heap.get?_push_of_some _ (hx _ _ a1), a2, a3⟩
end
/-! ### sorted(xs, key=lambda z: (.., ..)) -/
abbrev prD (z : Int × Int) : D := .tup [.int z.1, .int z.2]
section
open PySem.Spec PyProof.Rows
/-- the lambda gives the pair (k1 z, k2 z) -/
structure KeyB (params : Arguments) (body : Expr) (scope : Scope) (zn : Str) (k1 k2 : Int × Int → Int) : Prop where
  bind : ∀ (q : Str) (pm cv ctv v : Value), bindArgs (PySem.W.kla_fn "<lambda>" q params body scope [] pm cv ctv) ⟨[v], []⟩ = pure [(zn, v)]
  loc : scope.names.lookup zn = some .local
  cell : ∀ y ∈ scope.names, y.2 ≠ .cell
  kind : scope.kind = .function
  co : scope.isCoroutine = false
  gen : scope.isGenerator = false
  clo : ∀ env, closureFor scope env = pure []
  dfl : ∀ env, defaultsOf params env = ([], [])
  run : ∀ (prog : Program) (w : World) (A : Around) (env : Env) (pa : Addr) (z : Int × Int) (s : Shared) (Q E : Value → Shared → Prop), env.scope = scope → AtP env zn pa z.1 z.2 s.heap → (∀ t1 t2 k, Q (.ref s.heap.objs.size) { s with heap := s.heap.push { cls := .type "tuple", data := .seq #[.int (k1 z) t1, .int (k2 z) t2] }, toks := k }) → wpAny (model prog w) A (eval body env) Q E s
variable {X : Cx} {pins : List (Addr × Obj)} {σ : L2.St} {G H : Hp} {s : Shared}
/-- a value that is a pair of ints -/
def PairAt (K : PySem.W.Frag) (G : Hp) (h : Heap) (v : Value) (z : Int × Int) : Prop := ∃ pa ta tb, v = .ref pa ∧ IsTup h pa #[.int z.1 ta, .int z.2 tb] ∧ SqT K G pa [.int z.1, .int z.2]
theorem pairs_of (I : Inv X pins σ H s) (e : Same G H) : ∀ {zs : List (Int × Int)} {xs : List V} {its : List Value}, RepL X.K G H (zs.map prD) xs → Vals xs its → PySem.W.EachIs (PairAt X.K G s.heap) its zs
  | [], xs, its, r, v => by
    unfold List.map RepL at r
    subst r
    cases v
    exact .nil
  | z :: zs, xs, its, r, v => by
    rw [List.map_cons] at r
    unfold RepL at r
    obtain ⟨x, rest, rfl, r1, r2⟩ := r
    cases v with
    | cons v1 v2 =>
      refine .cons ?_ (pairs_of I e r2 v2)
      unfold Rep at r1
      obtain ⟨pa, vs, rfl, g1, g2⟩ := r1
      have ev : vs = [V.int z.1, V.int z.2] := RepL.ints (ns := [z.1, z.2]) g2
      subst ev
      cases v1
      obtain ⟨ks, w1, w2, _⟩ := I.tuple (Same.tup e g1)
      obtain ⟨u1, u2, rfl, q1, q2⟩ := w1.two
      obtain ⟨ta, rfl⟩ := q1
      obtain ⟨tb, rfl⟩ := q2
      exact ⟨pa, ta, tb, rfl, w2, g1⟩
theorem of_pairs {K : PySem.W.Frag} (H : Hp) {h : Heap} : ∀ {zs : List (Int × Int)} {its : List Value}, PySem.W.EachIs (PairAt K G h) its zs → ∃ xs, Vals xs its ∧ RepL K G H (zs.map prD) xs
  | [], _, .nil => ⟨[], .nil, .nil⟩
  | z :: zs, _, .cons r t => by
    obtain ⟨xs, q1, q2⟩ := of_pairs H t
    obtain ⟨pa, ta, tb, rfl, _, g1⟩ := r
    refine ⟨.ref pa :: xs, .cons rfl q1, .cons ?_ q2⟩
    unfold Rep
    exact ⟨pa, _, rfl, g1, RepL.ofInts (ns := [z.1, z.2])⟩
variable {S : Scp} {Γ : Cg} {δ : List Sl} {PL : List D → Prop} {e : Expr} {pos p lpos kpos : Pos} {c P : Addr} {q zn : Str} {params : Arguments} {body : Expr} {scope : Scope} {k1 k2 : Int × Int → Int}
theorem jf_sortedLam [Calm Γ] (hcd : Γ.cd = some (c, P, q)) (TB : LamX.TabB Γ.base Γ.mg c P) (hmem : (P, q ++ "<lambda>") ∈ tabsI.T) (hu : ∀ x ∈ tabsI.T, x.1 = P → x.2 = q ++ "<lambda>") (hg : HasG S.gl "sorted") (hm : Γ.mg "sorted" = none) (hlv : 3 ≤ S.lv) (KB : KeyB params body scope zn k1 k2)
    (h : JA S Γ [e] δ fun ds => ∃ zs : List (Int × Int), ds = [.lst (zs.map prD)] ∧ zs.length ≤ 1000000 ∧ PL ((zs.mergeSort fun x y => decide (k1 x < k1 y ∨ (k1 x = k1 y ∧ k2 x ≤ k2 y))).map prD))
    (he : ∀ env, backTo pos (starEach [e] env) = (false, eval e env) :: backTo pos (starEach [] env) := by intro _; rfl) (hpl : ∀ env, (backTo pos (starEach [e] env)).any (·.1) = false := by intro _; rfl) :
    JF S Γ (.Call (.Name "sorted" p) [e] [⟨some "key", .Lambda params body scope lpos, kpos⟩] pos) δ PL := by
  refine ⟨fun X hX σ G H st ev Q k => ?_⟩
  intro pins s I
  have hk : Gl X "sorted" := by show X.env.scope.names.lookup _ = _; rw [hX.sc]; exact hX.so.gl _ hg.mem
  obtain ⟨cc, cq⟩ := hX.cd c P q hcd
  have hr : Room 3 X.A := (hX.room Calm.hx).mono hlv
  refine wpAny_Call_Name_kw (ld_blt I hk (by rw [hX.mg]; exact hm) cb_sorted ?_)
  refine callWith_kw (thn ((h.run X hX σ G H st ev (fun vs H1 => ∃ (G1 : Hp) (zs : List (Int × Int)), Stp Γ.K G H G1 H1 ∧ RepL Γ.K G1 H1 [.lst (zs.map prD)] vs ∧ zs.length ≤ 1000000 ∧ PL ((zs.mergeSort fun x y => decide (k1 x < k1 y ∨ (k1 x = k1 y ∧ k2 x ≤ k2 y))).map prD)) (fun vs G1 H1 ds s1 r1 q1 => ?_)) pos pins s I) fun us s1 y => ?_) (he _) (hpl _) (by rfl) (by rfl)
  · obtain ⟨zs, rfl, q1⟩ := q1
    exact ⟨G1, zs, s1, r1, q1⟩
  obtain ⟨vs, H1, I1, r1, G1, zs, s1', rr, hl, hp⟩ := y
  have hs : 1000000 < sizeLine := by decide
  show wpAny _ _ (evalAll ((do let v ← eval (.Lambda params body scope lpos) X.env; standAt pos; pure v) :: [])) _ _ s1
  refine wpAny_evalAll_cons (wpAny_bind ?_)
  refine lam_made (K := Γ.K) I1 s1'.sub ((st.trans s1').tab hX.tb) (by rw [hX.base, hX.mg]; exact TB) cc (by rw [cq]) hmem hu (KB.dfl _) (KB.clo _) fun f c' H2 s2 I2 s2' hf => ?_
  refine wpAny_bind (wpAny_standAt (wpAny_pure (wpAny_evalAll_nil ?_)))
  obtain ⟨v, rfl, rv⟩ := repL1 rr
  unfold Rep at rv
  obtain ⟨a, xs, rfl, ga, rx⟩ := rv
  obtain ⟨u, rfl, ru⟩ := Vals.one r1
  cases ru
  have rx2 : RepL X.K G1 H2 (zs.map prD) xs := by rw [hX.K]; exact rx.mono s2'
  obtain ⟨its, w1, w2, w3⟩ := I2.list (.inl (.inl (s2'.sub _ _ ga)))
  have each := pairs_of I2 s2'.sub rx2 w1
  obtain ⟨pm, ctv, hfo, hcr⟩ := hf
  show wpAny (model X.prog X.w) X.A (call (.builtin "sorted") [.ref a] [(Str.ofString "key", .ref f)]) _ _ s2
  refine PySem.W.sorted_key_data (b := false) (fun z : Int × Int => .tuple [.int (k1 z), .int (k2 z)]) w2.isList each (PySem.W.AllAlike.of fun _ _ => by simp [PySem.W.alike, PySem.W.alikeAll]) (PySem.W.Sortable.tuples fun _ => ⟨_, _, rfl⟩) (by omega) (fun z _ => ?_) (PyProof.Rows.ksk_s1 _ _) (fun _ => PyProof.Rows.ksk_l1 _ _) (fun _ => PyProof.Rows.ksk_t1 _ _) (fun v z hz _ hp tk keep => ?_) fun out cn h' tk keep _ hD hlen eo => ?_
  · have hd : (PyData.tuple [.int (k1 z), .int (k2 z)]).depth = 1 := by simp [PyData.depth, PyData.depthAll]
    have := hr.un
    omega
  · obtain ⟨pa, ta, tb, rfl, tp, _⟩ := hz
    obtain ⟨c2, oc, ws, t, e1, e2, e3, e4⟩ := hcr
    refine call_lam (s := { s2 with heap := hp, toks := tk }) (keep _ _ hfo) ⟨c2, oc, ws, t, e1, keep _ _ e2, e3, e4⟩ hr.in1.in1.depth (I2.nolimit.keeps keep) (KB.bind _ _ _ _ _) KB.loc KB.cell KB.kind KB.co KB.gen fun h₁ tk1 hns kp => ?_
    refine KB.run _ _ _ _ pa z _ _ _ rfl ⟨⟨_, hns, by simp⟩, ta, tb, (IsTup.keeps tp keep).keeps kp⟩ fun t1 t2 k => ?_
    exact ⟨_, k, rfl, fun b o w => Heap.get?_push_of_some _ (kp b o w), .tuple (Heap.get?_push_size _ rfl) rfl rfl (.cons (.int _ _) (.cons (.int _ _) .nil))⟩
  · rw [PySem.W.dataLe_ii] at eo
    obtain ⟨ys, y1, y2⟩ := of_pairs H2 eo
    have nf : H2 (s2.heap.objs.size + 1) = none := I2.hok.fresh (Nat.le_succ _)
    have s3 : Stp Γ.K G1 H2 G1 (upd H2 (s2.heap.objs.size + 1) (.lst ys)) := .newM s2'.sub nf
    refine ⟨.ref _, upd H2 (s2.heap.objs.size + 1) (.lst ys), I2.laid (t' := tk) keep (Nat.le_succ _) ⟨?_, out, cn, y1, hD⟩, rfl, ?_⟩
    · rw [y1.length, hlen]
      omega
    · rw [hX.K] at y2
      exact k _ ys G1 _ _ ((s1'.trans s2').trans s3) ((s1'.trans s2').free nf) (s2'.sub.free nf) upd_same (y2.mono s3) hp
end
end Z
set_option Elab.async false
set_option linter.all false
set_option maxRecDepth 100000
set_option maxHeartbeats 4000000
/-! Z42: defs with a lambda in them; the law's walk with tables of code objects. -/
namespace Z
open PySem L2
variable [tabsI : TabsT]
abbrev Env1.cgL (U : Env1) (cd : Addr × Addr × Str) (G H : Hp) (ex : List Sl → Value → List Str → List D → Prop) : Cg := { U.cg G H ex with cd := some cd }
instance calm_L {U : Env1} {cd : Addr × Addr × Str} {G H : Hp} {ex : List Sl → Value → List Str → List D → Prop} : Calm (U.cgL cd G H ex) := ⟨rfl⟩
/-- .. of the def x: its code object, its table -/
structure LamC (U : Env1) (x : Str) (c P : Addr) : Prop where
  tb : LamX.TabB U.base U.mg c P
  mem : (P, (x ++ ".<locals>.") ++ "<lambda>") ∈ tabsI.T
  uq : ∀ y ∈ tabsI.T, y.1 = P → y.2 = (x ++ ".<locals>.") ++ "<lambda>"
structure FunAtC (U : Env1) (x : Str) (st : Stmt) (c : Addr) : Prop where
  ex : ∃ f fd, FunD U.K x x (defArgs st) (defBody st) (defScope st) [] [] f fd ∧ U.mg x = some (.ref f) ∧ fd.code = .ref c
theorem funAtC {U : Env1} {h : Heap} {x : Str} {st : Stmt} {f c : Addr} {oc kV dc pm ct : Value} {od an : Option Addr} {sl : Array (Option Value)} (X : U.K.In h) (G : h.Ns mainGlobals U.mg) (a : PySem.W.nsIn U.K mainGlobals x = some (some (.ref f)))
    (l : U.K.lookup f = some ⟨oc, od, .func (PySem.W.fnOf x x (defArgs st) (defBody st) (defScope st) .none kV dc pm an (.ref c) ct), sl⟩) (cc : PySem.W.codeIn U.K (.ref c) x = true) (k : PySem.W.keepIn U.K (.ref f) = true) : FunAtC U x st c :=
  ⟨f, _, ⟨⟨oc, od, .none, kV, dc, pm, an, .ref c, ct, sl, rfl, l, cc, .inl ⟨rfl, rfl⟩, .inl rfl⟩, k⟩, PySem.W.mg_of X G a, rfl⟩
theorem def_okL {U : Env1} {x : Str} {st : Stmt} {S : Scp} {ps : List Str} {c : Ct} {n : Nat} {cc P : Addr} (F : FunAtC U x st cc) (so : S.Ok) (sc : S.sc = defScope st) (fs : FnScope S.N ps (defScope st)) (hn : ps.length = n) (hN : n ≤ S.N.length)
    (hb : ∀ f fd, FunD U.K x x (defArgs st) (defBody st) (defScope st) [] [] f fd → ∃ ds, Vals [] ds ∧ Binds U.K fd ps ds)
    (len : ∀ ds P E, c ds P E → ds.length = n)
    (mono : ∀ ds (P P' : D → Prop) (E E' : Value → List Str → List D → Prop), (∀ d, P d → P' d) → (∀ v ns es, E v ns es → E' v ns es) → c ds P E → c ds P' E')
    (body : ∀ (G H : Hp) ds P0 E, c ds P0 E → JSs S (U.cgL (cc, P, x ++ ".<locals>.") G H fun _ => E) (defBody st) (startD S.N ds) { nx := fun _ => P0 .non, rt := P0 }) : U.Def x (S.lv + 1) [] c := by
  refine ⟨mono, ?_⟩
  obtain ⟨f, fd, Fu, hm, hcode⟩ := F.ex
  obtain ⟨ds, hv, hbi⟩ := hb f fd Fu
  refine ⟨f, fd, ps, ds, [], ?_, hm, Fu.kp, hbi, hv, fun _ _ => .nil⟩
  obtain ⟨oc, od, dV, kV, doc, pm, an, cdv, ct, osl, rfl, lk, hcd, _, _⟩ := Fu.ex
  have e0 : cdv = .ref cc := hcode
  refine fn_of lk hcd fs (fun vs H Q E h => ?_) (fun A outer s H vs Q E hr h => ?_)
  · obtain ⟨G, ds, _, _, r, h⟩ := h
    rw [r.length, len _ _ _ h, hn]
  · obtain ⟨G, ds, e, tb, r, h⟩ := h
    have hl := len _ _ _ h
    refine ⟨_, wSs_pss, ?_⟩
    refine (body G H ds _ _ h).run _ ⟨so, rfl, rfl, rfl, rfl, rfl, rfl, sc.symm, fun _ => rfl, fun _ => hr, L2H.roomH_of hr, (fun _ z => by cases z), fun _ _ => .inl rfl, fun _ => ⟨rfl, rfl, rfl, passes_of rfl⟩, ?_, tb, ?_⟩ _ G H _ (.refl e) (EnvOk.start r _ (by omega)) ⟨?_, ?_, ?_, ?_, fun _ _ _ _ _ _ _ _ _ q => q.elim⟩
    · refine L2N.Takes.imp (L2N.takes_of rfl rfl rfl rfl) ?_
      rintro cls d σ' H' ⟨G', δ', ns, es, s', ev', x', q⟩
      exact q d G' H' s' x'
    · intro c1 P1 q1 z
      cases z
      exact ⟨e0, rfl⟩
    · exact fun σ' G' H' δ' s' _ _ q => q .non G' H' s' rep_non
    · exact fun _ _ _ _ _ _ _ q => q.elim
    · exact fun _ _ _ _ _ _ _ q => q.elim
    · exact fun v G' H' d s' r' q => q v G' H' s' r'
/-- name = sorted(xs, key=lambda ..), in the form that the walk takes -/
theorem zf_sortedLam {U : Env1} {x : Str} {c P : Addr} {G H : Hp} {ex : List Sl → Value → List Str → List D → Prop} {S : Scp} {δ : List Sl} {PL : List D → Prop} {e : Expr} {pos p lpos kpos : Pos} {zn : Str} {params : Arguments} {body : Expr} {scope : Scope} {k1 k2 : Int × Int → Int}
    (L : LamC U x c P) (hg : HasG S.gl "sorted") (hm : U.mg "sorted" = none) (hlv : 3 ≤ S.lv) (KB : KeyB params body scope zn k1 k2)
    (h : JA S (U.cgL (c, P, x ++ ".<locals>.") G H ex) [e] δ fun ds => ∃ zs : List (Int × Int), ds = [.lst (zs.map prD)] ∧ zs.length ≤ 1000000 ∧ PL ((zs.mergeSort fun x y => decide (k1 x < k1 y ∨ (k1 x = k1 y ∧ k2 x ≤ k2 y))).map prD))
    (he : ∀ env, backTo pos (starEach [e] env) = (false, eval e env) :: backTo pos (starEach [] env) := by intro _; rfl) (hpl : ∀ env, (backTo pos (starEach [e] env)).any (·.1) = false := by intro _; rfl) :
    JF S (U.cgL (c, P, x ++ ".<locals>.") G H ex) (.Call (.Name "sorted" p) [e] [⟨some "key", .Lambda params body scope lpos, kpos⟩] pos) δ PL := jf_sortedLam rfl L.tb L.mem L.uq hg hm hlv KB h he hpl
/-- the name of the code objects that a def's lambdas bear -/
abbrev lamQ (x : Str) : Str := (x ++ ".<locals>.") ++ "<lambda>"
omit tabsI in
theorem law_walkT {l : PySem.W.OpenLaw} {k : Nat} {q : Program} {loose : List Str} {XP : (Str → Option Value) → Heap → Prop} {YP : World → Heap → Prop} {d : DefRec} {K : Params → PySem.W.Frag} {x : Str} {T : List Addr}
    (hn : l.most = some 63) (hdf : d.params.defaults = []) (hr : Room k callerA) (hY : ∀ (w : World) (h : Heap), YP w h → (K w.params).In h ∧ ∀ P ∈ T, h.get? P = some (PySem.W.tabObj #[]))
    (F : ∀ (w : World) (mg : Str → Option Value) (fa : Addr) (h : Heap), (K w.params).In h → h.Ns mainGlobals mg → mg d.name = some (.ref fa) →
      ∃ cs : List (Str × Addr × Addr), (∀ y ∈ cs, PySem.W.codeHdIn (K w.params) y.2.1 y.2.2 = true ∧ y.2.2 ∈ T ∧ (K w.params).lookup y.2.2 = none) ∧ ∃ fd : FuncData, (∀ (s : Shared) (u : Value), BindsTo s fd ⟨[u], []⟩ [(x, u)]) ∧
        ∀ base : Heap, (K w.params).In base → base.Ns mainGlobals mg → (∀ y ∈ cs, LamX.TabB base mg y.2.1 y.2.2) → FnOk l.prog w (K w.params) mg base (L2N.CX l.prog w) k fa fd [x] (spC (tabsI := ⟨cs.map fun y => (y.2.2, lamQ y.1)⟩) (K w.params) cLaw)) :
    PySem.W.WalkO q loose XP YP l.row.toRowW d [] (fun f vs => PySem.call f vs) := by
  refine Att.attach_callB hn hdf fun w s₀ s₁ mg mb fa o pm cd doc a vs ns G Y ho hd hcd hmg hobj hints hlen hbits hg => ?_
  obtain ⟨KX, hTT⟩ := hY w _ Y
  obtain ⟨cs, hcs, fd, hb, hF⟩ := F w mg fa _ KX G.T.g hmg
  letI : TabsT := ⟨cs.map fun y => (y.2.2, lamQ y.1)⟩
  have tabs : ∀ y ∈ cs, PySem.W.CodeHd s₁.heap y.2.1 y.2.2 ∧ s₁.heap.get? y.2.2 = some (PySem.W.tabObj #[]) := fun y hy => by
    obtain ⟨h1, h2, _⟩ := hcs y hy
    exact ⟨PySem.W.codeHd_of_K KX h1, hTT _ h2⟩
  have each : ∀ p ∈ cs.map (fun y => y.2), ∃ y ∈ cs, y.2 = p := fun p hp => List.mem_map.mp hp
  refine LamX.law_callTs (cs := cs.map fun y => y.2) KX G.T.g G.T.b G.T.builtins G.T.nolimit hg (fun p hp => ?_) (fun p hp => ?_) (fun p hp => ?_) G.T.bmain hobj hints (Nat.le_trans hlen (by decide)) hr (fun base h1 h2 h3 => hF base h1 h2 fun y hy => h3 _ (List.mem_map.mpr ⟨y, hy, rfl⟩)) hb (fun H hH hS => ?_) fun H e s' hx => ?_
  · obtain ⟨y, hy, rfl⟩ := each p hp
    exact (tabs y hy).2
  · obtain ⟨y, hy, rfl⟩ := each p hp
    exact (hcs y hy).2.2
  · obtain ⟨y, hy, rfl⟩ := each p hp
    exact (tabs y hy).1
  · have hP : ∀ y ∈ cs, H y.2.2 = some (.tbl #[]) := fun y hy => hH _ (List.mem_map.mpr ⟨y, hy, rfl⟩)
    let G0 : Hp := fun b => if b ∈ cs.map (fun y => y.2.2) then none else H b
    have g0 : ∀ b, (∀ ps, H b ≠ some (.tbl ps)) → G0 b = H b := fun b n => if_neg fun z => by
      obtain ⟨y, hy, e⟩ := List.mem_map.mp z
      exact n #[] (by rw [← e]; exact hP y hy)
    have sm : Same G0 H := fun b u z => by
      by_cases w : b ∈ cs.map (fun y => y.2.2)
      · rw [show G0 b = none from if_pos w] at z
        cases z
      · rwa [show G0 b = H b from if_neg w] at z
    refine ⟨G0, [.scr ns], sm, ⟨fun y hy => ?_, fun y hy => ?_⟩, .cons ?_ .nil, .mk ns hlen hbits fun v G' H' s r => ?_⟩
    · obtain ⟨z, hz, rfl⟩ := List.mem_map.mp hy
      exact LamX.TabS.nil (hP z hz)
    · obtain ⟨z, hz, rfl⟩ := List.mem_map.mp hy
      exact if_pos (List.mem_map.mpr ⟨z, hz, rfl⟩)
    · unfold Rep
      refine ⟨a, rfl, ?_⟩
      rcases hS with (z | ⟨ob, z⟩) | z
      · exact .inl (.inl (by rw [g0 a fun ps w => by rw [z] at w; cases w]; exact z))
      · exact .inl (.inr ⟨ob, by rw [g0 a fun ps w => by rw [z] at w; cases w]; exact z⟩)
      · exact .inr z
    · unfold Rep at r
      exact r
  · obtain ⟨_, _, _, _, _, _, _, _, _, _, _, _, z⟩ := hx
    exact z
end Z
set_option linter.all false
set_option maxRecDepth 100000
namespace Z
open PySem L2
variable [tabsI : TabsT]
variable {S : Scp} {Γ : Cg} {δ : List Sl} {P : D → Prop}
end Z
set_option Elab.async false
set_option linter.all false
set_option maxRecDepth 100000
set_option maxHeartbeats 4000000
/-! Z44: for y in o: y.append(e), at any path of own lists. -/
namespace Z
open PySem L2
variable [tabsI : TabsT]
/-- e put behind a list -/
def apM (d : D) : MT → MT
  | .ls us => .ls (us ++ [.fz d])
  | t => t
def spK (d : D) (k : Nat) (ts : List MT) : List MT := (ts.take k).map (apM d) ++ ts.drop k
section
variable {S : Scp} {Γ : Cg} {δ : List Sl} {N B C : List Sl → Prop} {R : D → Prop} {o e : Expr}
end
end Z
set_option Elab.async false
set_option linter.all false
set_option maxRecDepth 100000
set_option maxHeartbeats 4000000
/-! Z45: an object beside a list or a tuple: ==, !=. -/
namespace Z
open PySem L2
variable [tabsI : TabsT]
/-- a list or a tuple: its class -/
def seqT (x : D) (T : String) : Prop := (∃ ds, x = .lst ds ∧ T = "list") ∨ (∃ ds, x = .tup ds ∧ T = "tuple")
section
variable {S : Scp} {Γ : Cg} {P : D → Prop}
end
section
variable {S : Scp} {Γ : Cg} {δ : List Sl} {N B C : List Sl → Prop} {R : D → Prop} {o e : Expr} {pos : Pos}
end
theorem od_neB {S : Scp} {Γ : Cg} {P : D → Prop} {i j : Bool} (h : P (.bl (!decide (i = j)))) : OpD S Γ (compareOp .NotEq) (.bl i) (.bl j) P := by
  refine ⟨fun X hX v u G H st r1 r2 Q k => ?_⟩
  unfold Rep at r1 r2
  subst r1 r2
  exact OpRw op_ne ⟨rfl, by rw [dec_V_bl]; exact k _ G H _ (.refl st.sub) rep_bl h⟩
end Z
set_option Elab.async false
set_option linter.all false
set_option maxRecDepth 100000
set_option maxHeartbeats 4000000
/-! Z46: name = [..] where a comprehension takes the name (a cell). -/
namespace Z
open PySem L2
variable [tabsI : TabsT]
theorem sw_cellF {elt : Expr} {gs : List Comprehension} {scope : Scope} {pos py : Pos} {y : Str} {l : Nat} {env : Env} (hy : env.scope.names.lookup y = some .cell) : swapsWith (.ListComp elt gs scope pos) (some (.Name y py)) l env = pure false := by
  have ky : env.kindOf y = some .cell := hy
  unfold swapsWith
  simp only [ky, show ((some NameKind.cell == some NameKind.local) = false) from rfl, Bool.and_false, Bool.false_and]
theorem zs_setLcC {S S' : Scp} {Γ : Cg} [Calm Γ] {δ : List Sl} {N B C : List Sl → Prop} {R : D → Prop} {elt tg iter : Expr} {ifs : List Expr} {scope : Scope} {own : List (Str × Nat)} {x : Str} {i : Nat} {py sp pos : Pos} (hv : Has S.ss x i) (hB : BlkS S S' scope own) (hx : (S.sc.names.lookup x == some .cell) = true)
    (h : JI S Γ tg iter δ fun n f => ∃ A : Nat → List D → Prop, A 0 [] ∧ (∀ i acc, i < n → A i acc → JGW S' Γ.inBlk (own.map (·.2)) tg (f i) (wipeD δ (own.map (·.2))) fun δ2 => JTs S' Γ.inBlk ifs δ2 fun t => if t = true then JE S' Γ.inBlk elt δ2 fun d => acc.length < sizeLine ∧ A (i + 1) (acc ++ [d]) else A (i + 1) acc) ∧ ∀ acc, A n acc → N (δ.set i (.fz (.lst acc))))
    (hs : ∀ env x, foldedSetIterable iter env x = pure x := by intros; rfl) : JS S Γ (.Assign [.Name x py] (.ListComp elt [⟨tg, iter, ifs, 0⟩] scope pos) sp) δ ⟨N, R, B, C⟩ := by
  have hj : JF S Γ (.ListComp elt [⟨tg, iter, ifs, 0⟩] scope pos) δ fun acc => N (δ.set i (.fz (.lst acc))) := jf_lc hB h hs
  refine ⟨fun X hX σ G H De s ev en => ?_⟩
  obtain ⟨h1, h2, h3⟩ := hX.loc hv.mem
  refine PSw (ps_set (by rw [hX.N]; exact hX.so.nd) h1 h2 wE_pe (sw_cellF (by rw [hX.sc]; exact eq_of_beq hx)) h3) ?_
  refine hj.run X hX σ G H s ev _ fun p vs G1 H1 ds s1 hp gp h1 r q => ?_
  have s2 := s1.freeze hp h1 gp
  exact en.nx _ _ H1 _ (s.trans s2) s2.mo ((ev.mono s2).set (by unfold Rep; exact ⟨p, vs, rfl, upd_same, r.mo (.freeze h1 gp)⟩)) q
end Z
set_option Elab.async false
set_option linter.all false
set_option maxRecDepth 100000
set_option maxHeartbeats 4000000
namespace Z
open PySem L2
variable [tabsI : TabsT]
def top (i : Nat) : Stmt := PySem.Challenge.pw_onetelling_k19_opened_and_closed.main.body.getD i (.Pass ⟨0, 0, 0, 0⟩)
def clsBody : Stmt → List Stmt
  | .ClassDef _ _ _ b _ _ _ _ _ _ _ => b
  | _ => []
def mtop (i j : Nat) : Stmt := (clsBody (top i)).getD j (.Pass ⟨0, 0, 0, 0⟩)
abbrev EK := Value → List Str → List D → Prop
end Z
set_option Elab.async false
set_option linter.all false
set_option maxRecDepth 100000
set_option maxHeartbeats 4000000
namespace Z
open PySem L2
variable [tabsI : TabsT]
class HasI (l : List (Str × Nat)) (x : Str) (i : outParam Nat) : Prop where
  h : Has l x i
instance HasI.tl {x : Str} {i : Nat} {y : Str × Nat} {l : List (Str × Nat)} [c : HasI l x i] : HasI (y :: l) x i := ⟨.tail c.h⟩
instance (priority := 2000) HasI.hd {x : Str} {i : Nat} {l : List (Str × Nat)} : HasI ((x, i) :: l) x i := ⟨.head⟩
theorem hasI {l : List (Str × Nat)} {x : Str} {i : Nat} [c : HasI l x i] : Has l x i := c.h
class HasGI (l : List Str) (x : Str) : Prop where
  h : HasG l x
instance HasGI.tl {x : Str} {y : Str} {l : List Str} [c : HasGI l x] : HasGI (y :: l) x := ⟨.tail c.h⟩
instance (priority := 2000) HasGI.hd {x : Str} {l : List Str} : HasGI (x :: l) x := ⟨.head⟩
theorem hasGI {l : List Str} {x : Str} [c : HasGI l x] : HasG l x := c.h
theorem at_1 {x1 : _} {x2 : _} {x3 : _} {x4 : _} {x5 : _} {x6 : _} (h : JE x1 x2 (Expr.Name x3 x4) x5 x6) : JE x1 x2 (Expr.Name x3 x4) x5 x6 := h
theorem at_2 {x1 : _} {x2 : _} {x3 : _} {x4 : _} {x5 : _} {x6 : _} {x7 : _} (h : JE x1 x2 (Expr.Constant x3 x4 x5) x6 x7) : JE x1 x2 (Expr.Constant x3 x4 x5) x6 x7 := h
theorem at_3 {x1 : _} {x2 : _} {x3 : _} {x4 : _} {x5 : _} {x6 : _} {x7 : _} {x8 : _} (h : JE x1 x2 (Expr.Call x3 x4 x5 x6) x7 x8) : JE x1 x2 (Expr.Call x3 x4 x5 x6) x7 x8 := h
theorem at_4 {x1 : _} {x2 : _} {x3 : _} {x4 : _} {x5 : _} {x6 : _} {x7 : _} {x8 : _} {x9 : _} (h : JE x1 x2 (Expr.Call (Expr.Name x3 x4) x5 x6 x7) x8 x9) : JE x1 x2 (Expr.Call (Expr.Name x3 x4) x5 x6 x7) x8 x9 := h
theorem at_5 {x1 : _} {x2 : _} {x3 : _} {x4 : _} {x5 : _} {x6 : _} {x7 : _} (h : JE x1 x2 (Expr.Subscript x3 x4 x5) x6 x7) : JE x1 x2 (Expr.Subscript x3 x4 x5) x6 x7 := h
theorem at_6 {x1 : _} {x2 : _} {x3 : _} {x4 : _} {x5 : _} {x6 : _} {x7 : _} {x8 : _} (h : JE x1 x2 (Expr.BinOp x3 x4 x5 x6) x7 x8) : JE x1 x2 (Expr.BinOp x3 x4 x5 x6) x7 x8 := h
theorem at_7 {x1 : _} {x2 : _} {x3 : _} {x4 : _} {x5 : _} {x6 : _} {x7 : _} {x8 : _} (h : JE x1 x2 (Expr.Compare x3 x4 x5 x6) x7 x8) : JE x1 x2 (Expr.Compare x3 x4 x5 x6) x7 x8 := h
theorem at_8 {x1 : _} {x2 : _} {x3 : _} {x4 : _} {x5 : _} {x6 : _} {x7 : _} (h : JE x1 x2 (Expr.Attribute x3 x4 x5) x6 x7) : JE x1 x2 (Expr.Attribute x3 x4 x5) x6 x7 := h
theorem at_9 {x1 : _} {x2 : _} {x3 : _} {x4 : _} {x5 : _} {x6 : _} {x7 : _} (h : JE x1 x2 (Expr.Tuple x3 x4 x5) x6 x7) : JE x1 x2 (Expr.Tuple x3 x4 x5) x6 x7 := h
theorem at_10 {x1 : _} {x2 : _} {x3 : _} {x4 : _} {x5 : _} {x6 : _} (h : JE x1 x2 (Expr.List x3 x4) x5 x6) : JE x1 x2 (Expr.List x3 x4) x5 x6 := h
theorem at_11 {x1 : _} {x2 : _} {x3 : _} {x4 : _} {x5 : _} {x6 : _} {x7 : _} (h : JE x1 x2 (Expr.UnaryOp x3 x4 x5) x6 x7) : JE x1 x2 (Expr.UnaryOp x3 x4 x5) x6 x7 := h
theorem at_12 {x1 : _} {x2 : _} {x3 : _} {x4 : _} {x5 : _} {x6 : _} {x7 : _} (h : JE x1 x2 (Expr.BoolOp x3 x4 x5) x6 x7) : JE x1 x2 (Expr.BoolOp x3 x4 x5) x6 x7 := h
theorem at_13 {x1 : _} {x2 : _} {x3 : _} {x4 : _} {x5 : _} {x6 : _} {x7 : _} {x8 : _} (h : JE x1 x2 (Expr.IfExp x3 x4 x5 x6) x7 x8) : JE x1 x2 (Expr.IfExp x3 x4 x5 x6) x7 x8 := h
theorem at_14 {x1 : _} {x2 : _} {x3 : _} {x4 : _} {x5 : _} {x6 : _} {x7 : _} {x8 : _} (h : JF x1 x2 (Expr.Call x3 x4 x5 x6) x7 x8) : JF x1 x2 (Expr.Call x3 x4 x5 x6) x7 x8 := h
theorem at_15 {x1 : _} {x2 : _} {x3 : _} {x4 : _} {x5 : _} {x6 : _} {x7 : _} {x8 : _} {x9 : _} (h : JF x1 x2 (Expr.Call (Expr.Name x3 x4) x5 x6 x7) x8 x9) : JF x1 x2 (Expr.Call (Expr.Name x3 x4) x5 x6 x7) x8 x9 := h
theorem at_16 {x1 : _} {x2 : _} {x3 : _} {x4 : _} {x5 : _} {x6 : _} {x7 : _} (h : JF x1 x2 (Expr.Attribute x3 x4 x5) x6 x7) : JF x1 x2 (Expr.Attribute x3 x4 x5) x6 x7 := h
theorem at_17 {x1 : _} {x2 : _} {x3 : _} {x4 : _} {x5 : _} {x6 : _} (h : JF x1 x2 (Expr.List x3 x4) x5 x6) : JF x1 x2 (Expr.List x3 x4) x5 x6 := h
theorem at_18 {x1 : _} {x2 : _} {x3 : _} {x4 : _} {x5 : _} {x6 : _} {x7 : _} {x8 : _} {x9 : _} {x10 : _} (h : JF x1 x2 (Expr.Subscript x3 (Expr.Slice x4 x5 x6 x7) x8) x9 x10) : JF x1 x2 (Expr.Subscript x3 (Expr.Slice x4 x5 x6 x7) x8) x9 x10 := h
theorem at_19 {x1 : _} {x2 : _} {x3 : _} {x4 : _} {x5 : _} {x6 : _} {x7 : _} {x8 : _} (h : JF x1 x2 (Expr.BinOp x3 x4 x5 x6) x7 x8) : JF x1 x2 (Expr.BinOp x3 x4 x5 x6) x7 x8 := h
theorem at_20 {x1 : _} {x2 : _} {x3 : _} {x4 : _} {x5 : _} {x6 : _} {x7 : _} {x8 : _} (h : JT x1 x2 (Expr.Compare x3 x4 x5 x6) x7 x8) : JT x1 x2 (Expr.Compare x3 x4 x5 x6) x7 x8 := h
theorem at_21 {x1 : _} {x2 : _} {x3 : _} {x4 : _} {x5 : _} {x6 : _} {x7 : _} (h : JT x1 x2 (Expr.BoolOp x3 x4 x5) x6 x7) : JT x1 x2 (Expr.BoolOp x3 x4 x5) x6 x7 := h
theorem at_22 {x1 : _} {x2 : _} {x3 : _} {x4 : _} {x5 : _} {x6 : _} {x7 : _} (h : JT x1 x2 (Expr.UnaryOp x3 x4 x5) x6 x7) : JT x1 x2 (Expr.UnaryOp x3 x4 x5) x6 x7 := h
theorem at_23 {x1 : _} {x2 : _} {x3 : _} {x4 : _} {x5 : _} {x6 : _} (h : JT x1 x2 (Expr.Name x3 x4) x5 x6) : JT x1 x2 (Expr.Name x3 x4) x5 x6 := h
theorem at_24 {x1 : _} {x2 : _} {x3 : _} {x4 : _} {x5 : _} {x6 : _} (h : OpD x1 x2 (binaryOp x3) (D.int x4) (D.int x5) x6) : OpD x1 x2 (binaryOp x3) (D.int x4) (D.int x5) x6 := h
theorem at_25 {x1 : _} {x2 : _} {x3 : _} {x4 : _} {x5 : _} (h : OpD x1 x2 (binaryOp Operator.Mult) x3 x4 x5) : OpD x1 x2 (binaryOp Operator.Mult) x3 x4 x5 := h
theorem at_26 {x1 : _} {x2 : _} {x3 : _} {x4 : _} {x5 : _} (h : OpD x1 x2 (binaryOp Operator.Mod) x3 x4 x5) : OpD x1 x2 (binaryOp Operator.Mod) x3 x4 x5 := h
theorem at_27 {x1 : _} {x2 : _} {x3 : _} {x4 : _} {x5 : _} (h : OpD x1 x2 (binaryOp Operator.FloorDiv) x3 x4 x5) : OpD x1 x2 (binaryOp Operator.FloorDiv) x3 x4 x5 := h
theorem at_28 {x1 : _} {x2 : _} {x3 : _} {x4 : _} {x5 : _} (h : OpD x1 x2 (binaryOp Operator.Pow) x3 x4 x5) : OpD x1 x2 (binaryOp Operator.Pow) x3 x4 x5 := h
theorem at_29 {x1 : _} {x2 : _} {x3 : _} {x4 : _} {x5 : _} (h : OpD x1 x2 (binaryOp Operator.Add) (D.lst x3) (D.lst x4) x5) : OpD x1 x2 (binaryOp Operator.Add) (D.lst x3) (D.lst x4) x5 := h
theorem at_30 {x1 : _} {x2 : _} {x3 : _} {x4 : _} {x5 : _} {x6 : _} {x7 : _} {x8 : _} (h : OpD x1 x2 (compareOp x3) x4 (D.obj x5 x6 x7) x8) : OpD x1 x2 (compareOp x3) x4 (D.obj x5 x6 x7) x8 := h
theorem at_31 {x1 : _} {x2 : _} {x3 : _} {x4 : _} {x5 : _} {x6 : _} (h : CallD x1 x2 (Value.builtin "len") [D.obj x3 x4 x5] x6) : CallD x1 x2 (Value.builtin "len") [D.obj x3 x4 x5] x6 := h
theorem at_32 {x1 : _} {x2 : _} {x3 : _} {x4 : _} {x5 : _} {x6 : _} {x7 : _} {x8 : _} {x9 : _} (h : CallD x1 x2 x3 [D.exc x4 x5 x6 x7, x8] x9) : CallD x1 x2 x3 [D.exc x4 x5 x6 x7, x8] x9 := h
theorem at_33 {x1 : _} {x2 : _} {x3 : _} {x4 : _} {x5 : _} {x6 : _} {x7 : _} {x8 : _} {x9 : _} {x10 : _} (h : JS x1 (Env1.cgF x2 x3 x4 x5 x6) (Stmt.Return x7 x8) x9 x10) : JS x1 (Env1.cgF x2 x3 x4 x5 x6) (Stmt.Return x7 x8) x9 x10 := h
theorem at_34 {x1 : _} {x2 : _} {x3 : _} {x4 : _} {x5 : _} {x6 : _} (h : JS x1 x2 (Stmt.Return x3 x4) x5 x6) : JS x1 x2 (Stmt.Return x3 x4) x5 x6 := h
theorem at_35 {x1 : _} {x2 : _} {x3 : _} {x4 : _} {x5 : _} {x6 : _} {x7 : _} {x8 : _} {x9 : _} {x10 : _} (h : JS x1 x2 (Stmt.Raise (some (Expr.Call (Expr.Name x3 x4) [] x5 x6)) x7 x8) x9 x10) : JS x1 x2 (Stmt.Raise (some (Expr.Call (Expr.Name x3 x4) [] x5 x6)) x7 x8) x9 x10 := h
theorem at_36 {x1 : _} {x2 : _} {x3 : _} {x4 : _} {x5 : _} {x6 : _} {x7 : _} (h : JS x1 x2 (Stmt.Raise x3 x4 x5) x6 x7) : JS x1 x2 (Stmt.Raise x3 x4 x5) x6 x7 := h
theorem at_37 {x1 : _} {x2 : _} {x3 : _} {x4 : _} {x5 : _} {x6 : _} {x7 : _} {x8 : _} {x9 : _} (h : JS x1 x2 (Stmt.Try x3 x4 x5 x6 x7) x8 x9) : JS x1 x2 (Stmt.Try x3 x4 x5 x6 x7) x8 x9 := h
theorem at_38 {x1 : _} {x2 : _} {x3 : _} {x4 : _} {x5 : _} {x6 : _} {x7 : _} {x8 : _} {x9 : _} (h : JS x1 x2 (Stmt.Assign [Expr.Name x3 x4] (Expr.List x5 x6) x7) x8 x9) : JS x1 x2 (Stmt.Assign [Expr.Name x3 x4] (Expr.List x5 x6) x7) x8 x9 := h
theorem at_39 {x1 : _} {x2 : _} {x3 : _} {x4 : _} {x5 : _} {x6 : _} {x7 : _} {x8 : _} {x9 : _} (h : JS x1 x2 (Stmt.Assign [Expr.Attribute x3 x4 x5] x6 x7) x8 x9) : JS x1 x2 (Stmt.Assign [Expr.Attribute x3 x4 x5] x6 x7) x8 x9 := h
theorem at_40 {x1 : _} {x2 : _} {x3 : _} {x4 : _} {x5 : _} {x6 : _} {x7 : _} {x8 : _} {x9 : _} {x10 : _} {x11 : _} {x12 : _} (h : JS x1 x2 (Stmt.Expr (Expr.Call (Expr.Attribute x3 x4 x5) [Expr.Name x6 x7] x8 x9) x10) x11 x12) : JS x1 x2 (Stmt.Expr (Expr.Call (Expr.Attribute x3 x4 x5) [Expr.Name x6 x7] x8 x9) x10) x11 x12 := h
theorem at_41 {x1 : _} {x2 : _} {x3 : _} {x4 : _} {x5 : _} {x6 : _} {x7 : _} {x8 : _} {x9 : _} {x10 : _} (h : JS x1 x2 (Stmt.Expr (Expr.Call (Expr.Attribute x3 "append" x4) [x5] x6 x7) x8) x9 x10) : JS x1 x2 (Stmt.Expr (Expr.Call (Expr.Attribute x3 "append" x4) [x5] x6 x7) x8) x9 x10 := h
theorem at_42 {x1 : _} {x2 : _} {x3 : _} {x4 : _} {x5 : _} {x6 : _} {x7 : _} {x8 : _} {x9 : _} (h : JS x1 x2 (Stmt.Expr (Expr.Call (Expr.Attribute x3 "reverse" x4) [] x5 x6) x7) x8 x9) : JS x1 x2 (Stmt.Expr (Expr.Call (Expr.Attribute x3 "reverse" x4) [] x5 x6) x7) x8 x9 := h
theorem at_43 {x1 : _} {x2 : _} {x3 : _} {x4 : _} {x5 : _} {x6 : _} {x7 : _} {x8 : _} {x9 : _} (h : JS x1 x2 (Stmt.Expr (Expr.Call (Expr.Attribute x3 "clear" x4) [] x5 x6) x7) x8 x9) : JS x1 x2 (Stmt.Expr (Expr.Call (Expr.Attribute x3 "clear" x4) [] x5 x6) x7) x8 x9 := h
theorem at_44 {x1 : _} {x2 : _} {x3 : _} {x4 : _} {x5 : _} {x6 : _} {x7 : _} {x8 : _} {x9 : _} {x10 : _} (h : JS x1 x2 (Stmt.Expr (Expr.Call (Expr.Attribute x3 "extend" x4) [x5] x6 x7) x8) x9 x10) : JS x1 x2 (Stmt.Expr (Expr.Call (Expr.Attribute x3 "extend" x4) [x5] x6 x7) x8) x9 x10 := h
theorem at_45 {x1 : _} {x2 : _} {x3 : _} {x4 : _} {x5 : _} {x6 : _} {x7 : _} {x8 : _} {x9 : _} {x10 : _} {x11 : _} (h : JS x1 x2 (Stmt.Expr (Expr.Call (Expr.Attribute x3 "insert" x4) [x5, x6] x7 x8) x9) x10 x11) : JS x1 x2 (Stmt.Expr (Expr.Call (Expr.Attribute x3 "insert" x4) [x5, x6] x7 x8) x9) x10 x11 := h
theorem at_46 {x1 : _} {x2 : _} {x3 : _} {x4 : _} {x5 : _} {x6 : _} {x7 : _} {x8 : _} {x9 : _} {x10 : _} (h : JS x1 x2 (Stmt.For x3 (Expr.Name x4 x5) x6 x7 x8) x9 x10) : JS x1 x2 (Stmt.For x3 (Expr.Name x4 x5) x6 x7 x8) x9 x10 := h
theorem at_47 {x1 : _} {x2 : _} {x3 : _} {x4 : _} {x5 : _} {x6 : _} {x7 : _} {x8 : _} {x9 : _} (h : JS x1 x2 (Stmt.Assign [Expr.Subscript x3 x4 x5] x6 x7) x8 x9) : JS x1 x2 (Stmt.Assign [Expr.Subscript x3 x4 x5] x6 x7) x8 x9 := h
theorem at_48 {x1 : _} {x2 : _} {x3 : _} {x4 : _} {x5 : _} {x6 : _} (h : JM x1 x2 (Expr.List x3 x4) x5 x6) : JM x1 x2 (Expr.List x3 x4) x5 x6 := h
theorem at_49 {x1 : _} {x2 : _} {x3 : _} {x4 : _} {x5 : _} {x6 : _} {x7 : _} (h : JM x1 x2 (Expr.Tuple x3 x4 x5) x6 x7) : JM x1 x2 (Expr.Tuple x3 x4 x5) x6 x7 := h
theorem at_50 {x1 : _} {x2 : _} {x3 : _} {x4 : _} {x5 : _} {x6 : _} {x7 : _} {x8 : _} {x9 : _} (h : JM x1 x2 (Expr.Call (Expr.Name x3 x4) x5 x6 x7) x8 x9) : JM x1 x2 (Expr.Call (Expr.Name x3 x4) x5 x6 x7) x8 x9 := h
theorem at_51 {x1 : _} {x2 : _} {x3 : _} {x4 : _} {x5 : _} {x6 : _} {x7 : _} {x8 : _} {x9 : _} (h : JM x1 x2 (Expr.Call (Expr.Attribute x3 x4 x5) [] x6 x7) x8 x9) : JM x1 x2 (Expr.Call (Expr.Attribute x3 x4 x5) [] x6 x7) x8 x9 := h
theorem at_52 {x1 : _} {x2 : _} {x3 : _} {x4 : _} {x5 : _} {x6 : _} {x7 : _} {x8 : _} {x9 : _} {x10 : _} (h : JM x1 x2 (Expr.Call (Expr.Attribute x3 x4 x5) x6 x7 x8) x9 x10) : JM x1 x2 (Expr.Call (Expr.Attribute x3 x4 x5) x6 x7 x8) x9 x10 := h
theorem at_53 {x1 : _} {x2 : _} {x3 : _} {x4 : _} {x5 : _} {x6 : _} {x7 : _} {x8 : _} (h : JM x1 x2 (Expr.Call x3 x4 x5 x6) x7 x8) : JM x1 x2 (Expr.Call x3 x4 x5 x6) x7 x8 := h
theorem at_54 {x1 : _} {x2 : _} {x3 : _} {x4 : _} {x5 : _} {x6 : _} {x7 : _} {x8 : _} {x9 : _} {x10 : _} (h : JM x1 x2 (Expr.Subscript x3 (Expr.Slice x4 x5 x6 x7) x8) x9 x10) : JM x1 x2 (Expr.Subscript x3 (Expr.Slice x4 x5 x6 x7) x8) x9 x10 := h
theorem at_55 {x1 : _} {x2 : _} {x3 : _} {x4 : _} {x5 : _} {x6 : _} {x7 : _} (h : JM x1 x2 (Expr.Attribute x3 x4 x5) x6 x7) : JM x1 x2 (Expr.Attribute x3 x4 x5) x6 x7 := h
theorem at_56 {x1 : _} {x2 : _} {x3 : _} {x4 : _} {x5 : _} {x6 : _} {x7 : _} {x8 : _} (h : JM x1 x2 (Expr.ListComp x3 x4 x5 x6) x7 x8) : JM x1 x2 (Expr.ListComp x3 x4 x5 x6) x7 x8 := h
theorem at_57 {x1 x2 : Prop} (h : And x1 x2) : And x1 x2 := h
theorem at_58 {x1 : _} {x2 : Prop} (h : x1 ≤ sizeLine ∧ x2) : x1 ≤ sizeLine ∧ x2 := h
theorem at_59 {x1 : _} {x2 : Prop} (h : flatD x1 ∧ x2) : flatD x1 ∧ x2 := h
theorem at_60 {x1 : _} {x2 : Prop} (h : TolD x1 ∧ x2) : TolD x1 ∧ x2 := h
theorem at_61 {α : Type} {x1 : α → Prop} (h : Exists x1) : Exists x1 := h
theorem at_62 {x1 : _} {x2 : _} {x3 : _} {x4 : _} (h : OwnAt x1 x2 x3 x4) : OwnAt x1 x2 x3 x4 := h
theorem at_63 {x1 : _} {x2 : _} {x3 : _} {x4 : _} {x5 : _} (h : IxM x1 x2 x3 x4 x5) : IxM x1 x2 x3 x4 x5 := h
theorem at_64 {x1 : _} {x2 : _} {x3 : _} {x4 : _} (h : cutA x1 x2 x3 (D.lst x4)) : cutA x1 x2 x3 (D.lst x4) := h
theorem at_65 {x1 : _} {x2 : _} (h : seqD x1 x2) : seqD x1 x2 := h
theorem at_66 {x1 : _} {x2 : _} (h : enumD x1 x2) : enumD x1 x2 := h
theorem at_67 {x1 : _} {x2 : _} (h : zipD x1 x2) : zipD x1 x2 := h
theorem at_68 {x1 : _} {x2 : _} {x3 : _} {x4 : _} (h : ObjC x1 x2 x3 x4) : ObjC x1 x2 x3 x4 := h
theorem at_69 {x1 : _} {x2 : _} (h : ansB x1 x2) : ansB x1 x2 := h
theorem at_70 {x1 : _} {x2 : _} (h : ansL x1 x2) : ansL x1 x2 := h
theorem at_71 {x1 : _} {x2 : _} {x3 : _} (h : StoGet x1 x2 x3) : StoGet x1 x2 x3 := h
theorem at_72 {x1 : _} {x2 : _} {x3 : _} {x4 : _} {x5 : _} (h : JE x1 x2 x3 x4 x5) : JE x1 x2 x3 x4 x5 := h
theorem at_73 {x1 : _} {x2 : _} {x3 : _} {x4 : _} {x5 : _} (h : JA x1 x2 x3 x4 x5) : JA x1 x2 x3 x4 x5 := h
theorem at_74 {x1 : _} {x2 : _} {x3 : _} {x4 : _} {x5 : _} (h : JSs x1 x2 x3 x4 x5) : JSs x1 x2 x3 x4 x5 := h
theorem at_75 {x1 : _} {x2 : _} {x3 : _} {x4 : _} {x5 : _} (h : JS x1 x2 x3 x4 x5) : JS x1 x2 x3 x4 x5 := h
theorem at_76 {x1 : _} {x2 : _} {x3 : _} {x4 : _} {x5 : _} {x6 : _} (h : OpD x1 x2 x3 x4 x5 x6) : OpD x1 x2 x3 x4 x5 x6 := h
theorem at_77 {x1 : _} {x2 : _} {x3 : _} {x4 : _} {x5 : _} (h : JT x1 x2 x3 x4 x5) : JT x1 x2 x3 x4 x5 := h
theorem at_78 {c : Bool} {i : Decidable (c = true)} {a b : Prop} (h : @ite Prop (c = true) i a b) : @ite Prop (c = true) i a b := h
theorem at_79 {x1 : _} {x2 : _} (h : isBl x1 x2) : isBl x1 x2 := h
theorem at_80 {x1 : _} {x2 : _} {x3 : _} {x4 : _} {x5 : _} (h : IxD x1 x2 x3 x4 x5) : IxD x1 x2 x3 x4 x5 := h
theorem at_81 {x1 : _} {x2 : _} {x3 : _} {x4 : _} {x5 : _} (h : CallD x1 x2 x3 x4 x5) : CallD x1 x2 x3 x4 x5 := h
theorem at_82 {x1 : _} {x2 : _} {x3 : _} {x4 : _} {x5 : _} {x6 : _} (h : JG x1 x2 x3 x4 x5 x6) : JG x1 x2 x3 x4 x5 x6 := h
theorem at_83 {x1 : _} {x2 : _} {x3 : _} {x4 : _} {x5 : _} {x6 : _} (h : JI x1 x2 x3 x4 x5 x6) : JI x1 x2 x3 x4 x5 x6 := h
theorem at_84 {x1 : _} {x2 : _} {x3 : _} {x4 : _} {x5 : _} (h : JTs x1 x2 x3 x4 x5) : JTs x1 x2 x3 x4 x5 := h
theorem at_85 {x1 : _} {x2 : _} {x3 : _} {x4 : _} {x5 : _} {x6 : _} {x7 : _} (h : JGW x1 x2 x3 x4 x5 x6 x7) : JGW x1 x2 x3 x4 x5 x6 x7 := h
theorem at_86 {x1 : _} {x2 : _} {x3 : _} {x4 : _} {x5 : _} (h : JW x1 x2 x3 x4 x5) : JW x1 x2 x3 x4 x5 := h
theorem at_87 {x1 : _} {x2 : _} {x3 : _} {x4 : _} {x5 : _} (h : JF x1 x2 x3 x4 x5) : JF x1 x2 x3 x4 x5 := h
theorem at_88 {x1 : _} {x2 : _} {x3 : _} {x4 : _} {x5 : _} {x6 : _} (h : OpF x1 x2 x3 x4 x5 x6) : OpF x1 x2 x3 x4 x5 x6 := h
theorem at_89 {x1 : _} {x2 : _} {x3 : _} {x4 : _} {x5 : _} (h : JM x1 x2 x3 x4 x5) : JM x1 x2 x3 x4 x5 := h
theorem at_90 {x1 : _} {x2 : _} {x3 : _} {x4 : _} {x5 : _} (h : JP x1 x2 x3 x4 x5) : JP x1 x2 x3 x4 x5 := h
theorem at_91 {x1 : _} {x2 : _} {x3 : _} {x4 : _} {x5 : _} (h : JMA x1 x2 x3 x4 x5) : JMA x1 x2 x3 x4 x5 := h
theorem at_92 {x1 : _} {x2 : _} {x3 : _} {x4 : _} {x5 : _} (h : UnD x1 x2 x3 x4 x5) : UnD x1 x2 x3 x4 x5 := h
theorem at_93 {x1 : _} {x2 : _} {x3 : _} {x4 : _} {x5 : _} (h : CallF x1 x2 x3 x4 x5) : CallF x1 x2 x3 x4 x5 := h
theorem at_94 {x1 : _} {x2 : _} {x3 : _} {x4 : _} {x5 : _} {x6 : _} (h : JGs x1 x2 x3 x4 x5 x6) : JGs x1 x2 x3 x4 x5 x6 := h
theorem at_95 {x1 : _} {x2 : _} {x3 : _} {x4 : _} {x5 : _} {x6 : _} {x7 : _} (h : JGWs x1 x2 x3 x4 x5 x6 x7) : JGWs x1 x2 x3 x4 x5 x6 x7 := h
theorem at_96 {x1 : _} {x2 : _} {x3 : _} {x4 : _} {x5 : _} (h : JO x1 x2 x3 x4 x5) : JO x1 x2 x3 x4 x5 := h
theorem at_97 {x1 : _} {x2 : _} {x3 : _} {x4 : _} {x5 : _} {x6 : _} {x7 : _} {x8 : _} {x9 : _} {x10 : _} (h : JSs x1 x2 (Stmt.If x3 x4 x5 x6 :: x7 :: x8) x9 x10) : JSs x1 x2 (Stmt.If x3 x4 x5 x6 :: x7 :: x8) x9 x10 := h
theorem at_98 {x1 : _} {x2 : _} {x3 : _} {x4 : _} {x5 : _} {x6 : _} {x7 : _} {x8 : _} (h : JE x1 x2 (Expr.ListComp x3 x4 x5 x6) x7 x8) : JE x1 x2 (Expr.ListComp x3 x4 x5 x6) x7 x8 := h
theorem at_99 {x1 : _} {x2 : _} {x3 : _} {x4 : _} {x5 : _} {x6 : _} {x7 : _} {x8 : _} (h : JF x1 x2 (Expr.ListComp x3 x4 x5 x6) x7 x8) : JF x1 x2 (Expr.ListComp x3 x4 x5 x6) x7 x8 := h
theorem at_100 {x1 : _} {x2 : _} {x3 : _} {x4 : _} {x5 : _} {x6 : _} {x7 : _} {x8 : _} {x9 : _} {x10 : _} {x11 : _} (h : JS x1 x2 (Stmt.Assign [Expr.Name x3 x4] (Expr.ListComp x5 x6 x7 x8) x9) x10 x11) : JS x1 x2 (Stmt.Assign [Expr.Name x3 x4] (Expr.ListComp x5 x6 x7 x8) x9) x10 x11 := h
theorem at_101 {x1 : _} {x2 : _} {x3 : _} {x4 : _} {x5 : _} {x6 : _} {x7 : _} {x8 : _} (h : JS x1 x2 (Stmt.Assign [Expr.Name "goods" x3] (Expr.List x4 x5) x6) x7 x8) : JS x1 x2 (Stmt.Assign [Expr.Name "goods" x3] (Expr.List x4 x5) x6) x7 x8 := h
theorem at_102 {x1 : _} {x2 : _} {x3 : _} {x4 : _} {x5 : _} {x6 : _} {x7 : _} {x8 : _} {x9 : _} {x10 : _} (h : JS x1 x2 (Stmt.Assign [Expr.Name "rows" x3] (Expr.Call x4 x5 x6 x7) x8) x9 x10) : JS x1 x2 (Stmt.Assign [Expr.Name "rows" x3] (Expr.Call x4 x5 x6 x7) x8) x9 x10 := h
theorem at_103 {x1 : _} {x2 : _} {x3 : _} {x4 : _} {x5 : _} {x6 : _} {x7 : _} {x8 : _} (h : JS x1 x2 (Stmt.Assign [Expr.Name "lows" x3] (Expr.List x4 x5) x6) x7 x8) : JS x1 x2 (Stmt.Assign [Expr.Name "lows" x3] (Expr.List x4 x5) x6) x7 x8 := h
theorem at_104 {x1 : _} {x2 : _} {x3 : _} {x4 : _} {x5 : _} {x6 : _} {x7 : _} {x8 : _} {x9 : _} {x10 : _} (h : JS x1 x2 (Stmt.Assign [Expr.Name "table" x3] (Expr.ListComp x4 x5 x6 x7) x8) x9 x10) : JS x1 x2 (Stmt.Assign [Expr.Name "table" x3] (Expr.ListComp x4 x5 x6 x7) x8) x9 x10 := h
theorem at_105 {x1 : _} {x2 : _} {x3 : _} {x4 : _} {x5 : _} {x6 : _} {x7 : _} {x8 : _} (h : JS x1 x2 (Stmt.Assign [Expr.Name "reached" x3] (Expr.List x4 x5) x6) x7 x8) : JS x1 x2 (Stmt.Assign [Expr.Name "reached" x3] (Expr.List x4 x5) x6) x7 x8 := h
theorem at_106 {x1 : _} {x2 : _} {x3 : _} {x4 : _} {x5 : _} {x6 : _} {x7 : _} (h : JSs x1 x2 (Stmt.Expr x3 x4 :: x5) x6 x7) : JSs x1 x2 (Stmt.Expr x3 x4 :: x5) x6 x7 := h
theorem at_107 {x1 : _} {x2 : _} {x3 : _} {x4 : _} {x5 : _} {x6 : _} {x7 : _} (h : JS x1 x2 (Stmt.Assign [Expr.Name "rows" x3] x4 x5) x6 x7) : JS x1 x2 (Stmt.Assign [Expr.Name "rows" x3] x4 x5) x6 x7 := h
theorem at_108 {x1 : _} {x2 : _} {x3 : _} {x4 : _} {x5 : _} {x6 : _} {x7 : _} {x8 : _} (h : JS x1 x2 (Stmt.Assign [Expr.Name "told" x3] (Expr.List x4 x5) x6) x7 x8) : JS x1 x2 (Stmt.Assign [Expr.Name "told" x3] (Expr.List x4 x5) x6) x7 x8 := h
theorem at_109 {x1 : _} {x2 : _} {x3 : _} {x4 : _} {x5 : _} {x6 : _} {x7 : _} {x8 : _} (h : JS x1 x2 (Stmt.Assign [Expr.Name "marks" x3] (Expr.List x4 x5) x6) x7 x8) : JS x1 x2 (Stmt.Assign [Expr.Name "marks" x3] (Expr.List x4 x5) x6) x7 x8 := h
theorem at_110 {x1 : _} {x2 : _} {x3 : _} {x4 : _} {x5 : _} {x6 : _} {x7 : _} {x8 : _} (h : JS x1 x2 (Stmt.Assign [Expr.Name "far" x3] (Expr.List x4 x5) x6) x7 x8) : JS x1 x2 (Stmt.Assign [Expr.Name "far" x3] (Expr.List x4 x5) x6) x7 x8 := h
theorem at_111 {x1 : _} {x2 : _} {x3 : _} {x4 : _} {x5 : _} {x6 : _} {x7 : _} {x8 : _} {x9 : _} {x10 : _} (h : JS x1 x2 (Stmt.Assign [Expr.Name "full" x3] (Expr.Call x4 x5 x6 x7) x8) x9 x10) : JS x1 x2 (Stmt.Assign [Expr.Name "full" x3] (Expr.Call x4 x5 x6 x7) x8) x9 x10 := h
theorem at_112 {x1 : _} {x2 : _} {x3 : _} {x4 : _} {x5 : _} {x6 : _} {x7 : _} {x8 : _} (h : JS x1 x2 (Stmt.Assign [Expr.Name "plans" x3] (Expr.List x4 x5) x6) x7 x8) : JS x1 x2 (Stmt.Assign [Expr.Name "plans" x3] (Expr.List x4 x5) x6) x7 x8 := h
theorem at_113 {x1 : _} {x2 : _} {x3 : _} {x4 : _} {x5 : _} {x6 : _} {x7 : _} {x8 : _} (h : JSs x1 x2 (Stmt.Assign [Expr.Name "rows" x3] x4 x5 :: x6) x7 x8) : JSs x1 x2 (Stmt.Assign [Expr.Name "rows" x3] x4 x5 :: x6) x7 x8 := h
local macro_rules | `(tactic| lsm_bools) => `(tactic| fail)
local macro_rules | `(tactic| ktu_offI) => `(tactic| exact hasI)
local macro_rules | `(tactic| ktu_offL) => `(tactic| exact hasGI)
local macro_rules | `(tactic| lcg_off) => `(tactic| exact Blt.h (by assumption) _ (by ktu_offL))
local macro_rules | `(tactic| lcg_sub) => `(tactic| first | assumption | omega | decide +kernel)
local macro_rules | `(tactic| lcg_src) => `(tactic| first | exact Bd.ok (n := 3000) (m := 3000) (by unfold Bd; decide +kernel) (by unfold Bd; decide +kernel) (by decide) | exact mulok_r (by omega) | exact mulok_l (by omega) | exact Bd.ok (by mem_news) (by mem_news) (by omega))
local macro_rules | `(tactic| mem_news) => `(tactic| with_reducible (first | assumption | exact Bd.neg (by mem_news) | exact Bd.mul (by mem_news) (by mem_news) | exact Bd.add (by mem_news) (by mem_news) | exact Bd.sub (by mem_news) (by mem_news)))
local macro_rules | `(tactic| nest_cls) => `(tactic| first | exact PyProof.noPylong_small (by decide) | exact nopy_i (by mem_news) (by omega) | exact nopy_j (by mem_news) (by omega))
local macro_rules | `(tactic| kt_len) => `(tactic| first
  | refine zt_int (by ktu_offL) (by lcg_off) ?_
  | refine zt_bool (by ktu_offL) (by lcg_off) ?_
  | refine zt_str (by ktu_offL) (by lcg_off) ?_
  | refine zt_tuple (by ktu_offL) (by lcg_off) ?_
  | refine zt_list (by ktu_offL) (by lcg_off) ?_
  | refine zt_dict (by ktu_offL) (by lcg_off) ?_
  | refine zt_VE (by ktu_offL) (by lcg_off) ?_)
local macro_rules | `(tactic| tlg_ne) => `(tactic| first
  | refine ze_own (by ktu_offI) (by rfl) ?_
  | refine ze_viewA (by ktu_offI) (by rfl) (by kcj_has) ?_
  | refine ze_call (by assumption) (by first | decide | exact Nat.le_refl _) (by ktu_offL) ?_
  | refine jf_je (jf_callF (by assumption) (by first | decide | exact Nat.le_refl _) (by ktu_offL) ?_)
  | refine je_make (by assumption) (by decide) (by ktu_offL) ?_
  | refine zb_len (by ktu_offL) (by lcg_off) ?_
  | refine zb_isi (by ktu_offL) (by lcg_off) ?_
  | refine zb_int (by ktu_offL) (by lcg_off) ?_
  | refine jf_je (jf_rg1 (by ktu_offL) (by lcg_off) (by ktu_offL) (by lcg_off) ?_)
  | refine jf_je (jf_rg2 (by ktu_offL) (by lcg_off) (by ktu_offL) (by lcg_off) ?_)
  | refine zb_list (by ktu_offL) (by lcg_off) ?_
  | refine jf_je (jf_sortedSet (by ktu_offL) (by lcg_off) (by ktu_offL) (by lcg_off) ?_)
  | refine zb_tuple (by ktu_offL) (by lcg_off) ?_
  | refine zb_max (by ktu_offL) (by lcg_off) ?_
  | refine zb_min (by ktu_offL) (by lcg_off) ?_
  | refine zb_abs (by ktu_offL) (by lcg_off) ?_
  | refine zb_sum (by ktu_offL) (by lcg_off) ?_
  | refine zb_all (by ktu_offL) (by lcg_off) ?_
  | refine zb_any (by ktu_offL) (by lcg_off) ?_
  | refine zb_bool (by ktu_offL) (by lcg_off) ?_)
local macro_rules | `(tactic| k_offL) => `(tactic| first
  | ((with_reducible apply at_1); first | refine ze_name (by ktu_offI) (by rfl) ?_ | refine je_globA (HasG.mem (by ktu_offL)) (by assumption) ?_ | refine je_globI (HasG.mem (by ktu_offL)) (by assumption) ?_ | refine ze_err (by assumption) rfl (by ktu_offL) (by decide +kernel) ?_ (by decide +kernel) | kt_len)
  | ((with_reducible apply at_2); first | refine je_int ?_ | refine je_str ?_ | refine je_bl ?_ | refine je_non ?_)
  | ((with_reducible apply at_3); first
     | ((with_reducible apply at_4); tlg_ne)
     | refine je_meth0 (by assumption) (by assumption) (by decide) ?_
     | refine je_meth (by assumption) (by assumption) (by decide) ?_
     | refine jf_je (jf_meth0F (by assumption) (by assumption) (by decide) ?_)
     | refine jf_je (jf_methF (by assumption) (by assumption) (by decide) ?_))
  | ((with_reducible apply at_5); first
     | refine je_ixOw (by ktu_offI) (by rfl) ?_ (fun _ _ => rfl)
     | refine je_stoGet ?_
     | refine je_ix (fun _ _ => rfl) ?_
     | refine je_cutA ?_)
  | ((with_reducible apply at_6); refine je_bin ?_)
  | ((with_reducible apply at_7); first | refine je_ownC (by ktu_offI) (by rfl) ?_ | refine je_cmp (by rfl) ?_ | refine je_cmp (nomark _) ?_ | refine je_chain (by with_unfolding_all rfl) ?_)
  | ((with_reducible apply at_8); first | refine ze_excF (by assumption) rfl rfl (by decide +kernel) (by decide +kernel) (by decide +kernel) ?_ | refine je_fld (by assumption) (by assumption) ?_ | refine je_prop (by assumption) (by assumption) (by decide) ?_ | refine jf_je (jf_propF (by assumption) (by assumption) (by decide) ?_))
  | ((with_reducible apply at_9); refine je_tup ?_)
  | ((with_reducible apply at_10); refine jf_je (jf_lst ?_))
  | ((with_reducible apply at_11); first | refine je_not ?_ | refine je_un ?_)
  | ((with_reducible apply at_12); first | refine je_one ?_ | refine je_and ?_ | refine je_or ?_)
  | ((with_reducible apply at_13); refine je_if ?_))
local macro_rules | `(tactic| nest_fact) => `(tactic| first
  | ((with_reducible apply at_14); first
     | ((with_reducible apply at_15); first
        | refine jf_callF (by assumption) (by first | decide | exact Nat.le_refl _) (by ktu_offL) ?_
        | refine jf_rg1 (by ktu_offL) (by lcg_off) (by ktu_offL) (by lcg_off) ?_
        | refine jf_rg2 (by ktu_offL) (by lcg_off) (by ktu_offL) (by lcg_off) ?_
        | refine zf_list (by ktu_offL) (by lcg_off) ?_
        | refine jf_sortedSet (by ktu_offL) (by lcg_off) (by ktu_offL) (by lcg_off) ?_
        | refine zf_sorted (by ktu_offL) (by lcg_off) ?_)
     | refine jf_meth0F (by assumption) (by assumption) (by decide) ?_
     | refine jf_methF (by assumption) (by assumption) (by decide) ?_)
  | ((with_reducible apply at_16); refine jf_propF (by assumption) (by assumption) (by decide) ?_)
  | ((with_reducible apply at_17); refine jf_lst ?_)
  | ((with_reducible apply at_18); refine jf_cut ?_)
  | ((with_reducible apply at_19); refine jf_bin ?_))
local macro_rules | `(tactic| k_subL) => `(tactic| first
  | ((with_reducible apply at_20); first | refine jt_ownC (by ktu_offI) (by rfl) ?_ | refine jt_cmp (by rfl) ?_ | refine jt_cmp (nomark _) ?_ | refine jt_chain (by with_unfolding_all rfl) ?_)
  | ((with_reducible apply at_21); refine jw_t ?_)
  | ((with_reducible apply at_22); refine jt_not ?_)
  | ((with_reducible apply at_23); first | refine jt_truOw (by ktu_offI) (by rfl) ?_ | refine jt_tru ?_ (fun _ _ => rfl))
  | refine jt_val ?_ (fun _ _ => rfl))
local macro_rules | `(tactic| k_clsL) => `(tactic| first
  | refine jw_and1 ?_
  | refine jw_or1 ?_
  | refine jw_and ?_
  | refine jw_or ?_)
local macro_rules | `(tactic| kct_strs) => `(tactic| first
  | (with_reducible refine od_add ?_)
  | (with_reducible refine od_sub ?_)
  | (with_reducible refine od_eq ?_)
  | (with_reducible refine od_ne ?_)
  | (with_reducible refine od_lt ?_)
  | (with_reducible refine od_le ?_)
  | (with_reducible refine od_gt ?_)
  | (with_reducible refine od_ge ?_)
  | (with_reducible refine od_eqS ?_)
  | (with_reducible refine od_neS ?_)
  | (with_reducible refine od_eqB ?_)
  | (with_reducible refine od_isN ?_)
  | (with_reducible refine od_notN ?_)
  | (with_reducible refine od_inL ?_)
  | (with_reducible refine od_ninL ?_)
  | (with_reducible refine od_inT ?_)
  | (with_reducible refine od_ninT ?_)
  | ((with_reducible apply at_24); first
     | ((with_reducible apply at_25); refine od_mul (by lcg_src) ?_)
     | ((with_reducible apply at_26); refine od_mod (by lcg_sub) ?_)
     | ((with_reducible apply at_27); refine od_fdiv (by lcg_sub) (by nest_cls) ?_)
     | ((with_reducible apply at_28); first | (with_reducible refine od_p2_32 ?_) | (with_reducible refine od_p10_3 ?_) | (with_reducible refine od_p10_6 ?_) | (with_reducible refine od_p10_9 ?_) | (with_reducible refine od_p10_12 ?_) | (with_reducible refine od_p10_18 ?_) | (with_reducible refine od_p10_19 ?_) | (with_reducible refine od_p10_20 ?_) | (with_reducible refine od_p10_30 ?_) | (with_reducible refine od_p10_39 ?_) | (with_reducible refine od_p10_40 ?_) | (with_reducible refine od_p10_64 ?_)))
  | ((with_reducible apply at_29); refine of_od (of_cat (by lcg_sub) ?_))
  | (with_reducible refine od_iadd ?_)
  | (with_reducible refine od_isub ?_)
  | ((with_reducible apply at_30); first
     | (refine od_inO (by assumption) (by decide) ?_)
     | (refine od_ninO (by assumption) (by decide) ?_)
     | (refine od_eqO (by assumption) (by decide) ?_)
     | (refine od_neO (by assumption) (by assumption) (by assumption) (by decide) ?_)))
local macro_rules | `(tactic| kd_addB) => `(tactic| first
  | (with_reducible refine cd_lenL ?_)
  | (with_reducible refine cd_lenT ?_)
  | (with_reducible refine cd_int ?_)
  | (with_reducible refine cd_intB ?_)
  | (with_reducible refine cd_abs ?_)
  | (with_reducible refine cd_max ?_)
  | (with_reducible refine cd_min ?_)
  | (with_reducible refine ci_bool (by with_unfolding_all rfl) ?_)
  | (with_reducible refine ci_int (by with_unfolding_all rfl) ?_)
  | (with_reducible refine ci_str (by with_unfolding_all rfl) ?_)
  | (with_reducible refine ci_tup (by with_unfolding_all rfl) ?_)
  | (with_reducible refine ci_lst (by with_unfolding_all rfl) ?_)
  | (with_reducible refine ci_dict (by with_unfolding_all rfl) ?_)
  | (with_reducible refine cd_tupL ?_)
  | (with_reducible refine cd_tupT ?_)
  | (with_reducible refine cd_sumL ?_)
  | (with_reducible refine cd_allL ?_)
  | (with_reducible refine cd_anyL ?_)
  | (with_reducible refine cd_lenScr ?_)
  | (with_reducible refine cd_sumH ?_)
  | ((with_reducible apply at_31); refine cd_lenO (by assumption) (by decide) ?_)
  | ((with_reducible apply at_32); first | refine cd_isEF (by assumption) rfl rfl (by decide +kernel) (by decide +kernel) (by decide +kernel) ?_ | refine cd_isET (by assumption) rfl rfl (by decide +kernel) (by decide +kernel) (by decide +kernel) ?_ | refine cd_isEV (by assumption) rfl rfl (by decide +kernel) ?_)
  | (refine cd_isO (by assumption) ?_))
local macro_rules | `(tactic| kd_addW) => `(tactic| first
  | ((with_reducible apply at_33); first | refine zs_retOwF (by ktu_offI) (by rfl) ?_ | refine zs_retJF ?_ | refine zs_retMv (by ktu_offI) (by rfl) ?_ | refine zs_retMo (by ktu_offI) (by rfl) ?_ | refine zs_retJM ?_)
  | ((with_reducible apply at_34); first | refine zs_retOw (by ktu_offI) (by rfl) ?_ | refine zs_ret ?_ | refine zs_retN ?_)
  | refine zs_if ?_
  | ((with_reducible apply at_35); refine zs_raise0 (by assumption) rfl rfl (by decide +kernel) (by decide +kernel) (by ktu_offL) ?_)
  | ((with_reducible apply at_36); refine zs_raise (by assumption) rfl rfl rfl (by decide +kernel) (by decide) (by ktu_offL) ?_)
  | ((with_reducible apply at_37); refine zs_try (by assumption) rfl rfl (by ktu_offI) (by decide +kernel) (by ktu_offL) (by decide +kernel) (by decide +kernel) ?_)
  | ((with_reducible apply at_38); refine zs_setFL (by ktu_offI) (jf_lst ?_))
  | ((with_reducible apply at_39); refine zs_fld (by ktu_offI) (by rfl) (oneOb (by first | rfl | (simp only [List.all_cons, *]; rfl))) (by assumption) (by assumption) (by first | decide +kernel | simp) (by simp) ?_)
  | refine zs_set (by ktu_offI) ?_
  | ((with_reducible apply at_40); refine zs_appendF (by ktu_offI) (by ktu_offI) (by decide) (by rfl) (by rfl) ?_)
  | refine zs_append (by ktu_offI) (by rfl) ?_
  | ((with_reducible apply at_41); refine zs_app ?_)
  | ((with_reducible apply at_42); refine zs_rev ?_)
  | ((with_reducible apply at_43); refine zs_clr ?_)
  | ((with_reducible apply at_44); refine zs_ext ?_)
  | ((with_reducible apply at_45); refine zs_ins ?_)
  | ((with_reducible apply at_46); refine zs_fzN (by ktu_offI) (by rfl) ?_)
  | refine zs_for rfl ?_
  | refine zs_pop (by ktu_offI) (by rfl) (by first | assumption | omega | (simp; done) | (simp; omega)) ?_
  | refine zs_expr ?_
  | refine zs_break ?_
  | refine zs_aug (by ktu_offI) (by rfl) ?_
  | refine zs_par (by ktu_offI) (by ktu_offI) (by decide) (by decide +kernel) (by decide +kernel) ?_ (fun env h => by cases env; cases h; rfl)
  | refine zs_setIx (by ktu_offI) (by rfl) ?_
  | refine zs_stoPut ?_
  | ((with_reducible apply at_47); refine zs_setAt ?_)
  | refine zs_asg ?_)
local macro_rules | `(tactic| one_place) => `(tactic| first
  | refine zi_rng1 (by ktu_offL) (by lcg_off) (fun _ => rfl) ?_
  | refine zi_rng2 (by ktu_offL) (by lcg_off) (fun _ => rfl) (fun _ => rfl) ?_
  | refine ji_enumA (by ktu_offL) (by lcg_off) ?_
  | refine ji_zipA (by ktu_offL) (by lcg_off) ?_
  | refine ji_seq ?_
  | refine ji_list ?_)
local macro_rules | `(tactic| kcj_in) => `(tactic| first
  | refine zg_name (by ktu_offI) ?_
  | refine jg_tup (by rfl) ?_)
local macro_rules | `(tactic| krn_off) => `(tactic| first
  | refine L2.iteT ?_
  | refine L2.iteF ?_
  | refine ite_dT (by lcg_sub) ?_
  | refine ite_dF (by lcg_sub) ?_
  | refine ite_ndT (by lcg_sub) ?_
  | refine ite_ndF (by lcg_sub) ?_)
local macro_rules | `(tactic| kcj_has) => `(tactic| first | exact flat_fzs | (simp only [MT.flat, MT.flatL, flatL_fz, flatL_app, flatL_map]; rfl) | rfl)
local macro_rules | `(tactic| kcu_rest) => `(tactic| first
  | refine jp_name (by ktu_offI) (by rfl) ?_
  | refine jp_ix (fun _ _ => rfl) ?_)
local macro_rules | `(tactic| kcu_lt) => `(tactic| first
  | ((with_reducible apply at_48); refine jm_lst ?_)
  | ((with_reducible apply at_49); refine jm_tup ?_)
  | ((with_reducible apply at_50); refine jm_callM (by assumption) (by first | decide | exact Nat.le_refl _) (by ktu_offL) ?_)
  | ((with_reducible apply at_51); refine jm_meth0M (by assumption) (by assumption) (by decide) ?_)
  | ((with_reducible apply at_52); refine jm_methM (by assumption) (by assumption) (by decide) ?_)
  | ((with_reducible apply at_53); refine jm_f ?_; nest_fact)
  | ((with_reducible apply at_54); refine jm_f ?_; nest_fact)
  | ((with_reducible apply at_55); refine jm_f ?_; nest_fact)
  | ((with_reducible apply at_56); refine jm_f ?_; nest_fact)
  | refine jm_e ?_)
local macro_rules | `(tactic| kwd_rel) => `(tactic| first
  | ((with_reducible apply at_57); first
     | ((with_reducible apply at_58); refine And.intro (by first | exact (by decide : _ ≤ sizeLine) | (simp; done) | (simp; decide)) ?_)
     | ((with_reducible apply at_59); refine And.intro (by first | trivial | exact flat_tup | exact flat_obj2 | exact flat_rows fun x _ => flat_tup | (unfold flatD; exact flat_rows fun x _ => flat_tup) | (simp [flatD, flatL]; done)) ?_)
     | ((with_reducible apply at_60); refine ⟨tolI (by decide), ?_⟩)
     | ((with_reducible show (∃ ns ds, D.obj _ _ _ = D.obj _ ns ds) ∧ _); refine ⟨⟨_, _, rfl⟩, ?_⟩)
     | ((with_reducible show -(2 ^ 62) ≤ _ ∧ _ < 2 ^ 62 ∧ _); refine ⟨by omega, by omega, ?_⟩)
     | ((with_reducible show (-(2 ^ 62) ≤ _ ∧ _ < 2 ^ 62 ∧ -(2 ^ 62) ≤ _ ∧ _ < 2 ^ 62) ∧ _); refine ⟨⟨by omega, by omega, by omega, by omega⟩, ?_⟩))
  | ((with_reducible apply at_61); first
     | ((with_reducible show ∃ c, D.sto _ = D.sto c ∧ _); refine Exists.intro _ (And.intro rfl ?_))
     | ((with_reducible show ∃ i, D.int _ = D.int i ∧ _); refine ⟨_, rfl, ?_⟩)
     | ((with_reducible show ∃ i, D.lst _ = D.lst i ∧ _); refine ⟨_, rfl, ?_⟩)
     | ((with_reducible show ∃ i, D.tup _ = D.tup i ∧ _); refine ⟨_, rfl, ?_⟩)
     | ((with_reducible show ∃ i j, D.int _ = D.int i ∧ D.int _ = D.int j ∧ _); refine ⟨_, _, rfl, rfl, ?_⟩)
     | ((with_reducible show ∃ ns ds v, D.obj _ _ _ = D.obj _ ns ds ∧ _); refine ⟨_, _, _, rfl, rfl, ?_⟩)
     | ((with_reducible show ∃ ns ds v, D.exc _ _ _ _ = D.exc _ _ ns ds ∧ _); refine ⟨_, _, _, rfl, exc_look (by decide +kernel), ?_⟩))
  | ((with_reducible apply at_62); refine ownAt (by rfl) (by rfl) ?_)
  | ((with_reducible apply at_63); first | refine ixM_at (by rfl) (by rfl) (by rfl) ?_ | refine ixM_atT (by rfl) (by rfl) (by rfl) ?_)
  | ((with_reducible apply at_64); refine cutA_map ?_)
  | ((with_reducible apply at_65); first | refine seq_lst ?_ | refine seq_tup ?_ | refine seq_scr ?_)
  | ((with_reducible apply at_66); first | refine enum_lst ?_ | refine enum_tup ?_)
  | ((with_reducible apply at_67); first | refine zip_lst ?_ | refine zip_tup ?_)
  | ((with_reducible apply at_68); refine ⟨_, _, rfl, by decide, ?_⟩)
  | ((with_reducible apply at_69); refine ⟨_, rfl, ?_⟩)
  | ((with_reducible apply at_70); refine ⟨_, rfl, ⟨by omega, by omega⟩, ?_⟩)
  | ((with_reducible apply at_71); first | refine sg_restB (fun r h1 h2 => ?_) | refine sg_left (fun r h1 => ?_) | refine sg_at (fun r h1 h2 => ?_) | refine sg_turn (fun r => ?_) | refine sg_seed (fun r => ?_) | refine sg_cells ?_))
local macro_rules | `(tactic| kas_types) => `(tactic| first
  | ((with_reducible apply at_72); k_offL)
  | ((with_reducible apply at_57); kwd_rel)
  | ((with_reducible apply at_73); first | refine ja_nil ?_ | refine ja_cons (fun _ => rfl) ?_)
  | ((with_reducible apply at_74); first | refine zs_one ?_ | refine zs_cons ?_ | refine zs_nil ?_)
  | ((with_reducible apply at_75); kd_addW)
  | ((with_reducible apply at_76); kct_strs)
  | ((with_reducible apply at_61); kwd_rel)
  | ((with_reducible apply at_77); k_subL)
  | ((with_reducible apply at_78); krn_off)
  | ((with_reducible apply at_79); refine isBl_mk ?_)
  | ((with_reducible apply at_80); first | refine ixd_tup (by rfl) ?_ | refine ixd_lst (by rfl) ?_)
  | ((with_reducible apply at_81); kd_addB)
  | ((with_reducible apply at_82); kcj_in)
  | ((with_reducible apply at_83); one_place)
  | ((with_reducible apply at_84); first | refine jts_nil ?_ | refine jts_one ?_)
  | ((with_reducible apply at_85); first | refine jgw_name (Has.mem (by ktu_offI)) (by decide) ?_ | refine jgw_tup rfl ?_)
  | ((with_reducible apply at_86); k_clsL)
  | ((with_reducible apply at_87); nest_fact)
  | ((with_reducible apply at_88); refine of_cat (by lcg_sub) ?_)
  | ((with_reducible apply at_89); kcu_lt)
  | ((with_reducible apply at_90); kcu_rest)
  | ((with_reducible apply at_91); first | refine jma_nil ?_ | refine jma_cons (fun _ => rfl) ?_)
  | ((with_reducible apply at_92); refine ud_neg ?_)
  | ((with_reducible apply at_93); first | refine cf_list ?_ | refine cf_listT ?_)
  | ((with_reducible apply at_94); first | refine jgs_nil ?_ | refine jgs_cons ?_)
  | ((with_reducible apply at_95); first | refine jgws_nil ?_ | refine jgws_cons ?_)
  | ((with_reducible apply at_96); first | refine jo_none ?_ | refine jo_some ?_)
  | kwd_rel
  | lsm_bools)
local macro_rules | `(tactic| kat_tups) => `(tactic| repeat kas_types)
local macro_rules | `(tactic| leaf_len) => `(tactic| repeat ((fail_if_success (with_reducible apply at_97)); kas_types))
section

/-! ### the drawing -/
theorem atI_some {α : Type} {ds : List α} {k : Int} (h1 : -(ds.length : Int) ≤ k) (h2 : k < ds.length) : ∃ d ∈ ds, L2.atI ds k = some d := by
  unfold L2.atI ixN
  by_cases h : 0 ≤ k
  · rw [if_pos h, if_pos h2]
    have hl : k.toNat < ds.length := by omega
    exact ⟨ds[k.toNat], List.getElem_mem _, by simp [hl]⟩
  · rw [if_neg h, if_pos h1]
    have hl : (k + ds.length).toNat < ds.length := by omega
    exact ⟨ds[(k + ds.length).toNat], List.getElem_mem _, by simp [hl]⟩
theorem atI_ints {cells : List Int} {k : Int} (h1 : -(cells.length : Int) ≤ k) (h2 : k < cells.length) : ∃ c, L2.atI (cells.map D.int) k = some (.int c) := by
  obtain ⟨d, hd, e⟩ := atI_some (ds := cells.map D.int) (k := k) (by simpa using h1) (by simpa using h2)
  obtain ⟨c, _, rfl⟩ := List.mem_map.mp hd
  exact ⟨c, e⟩
/-! _law_mixed -/
inductive cMixed : List D → (D → Prop) → EK → Prop
  | mk {P : D → Prop} {E : EK} (number turn many : Int) (hm : 1 ≤ many) (k : ∀ v : Int, 0 ≤ v → v < many → P (.int v)) : cMixed [.int number, .int turn, .int many] P E
theorem mo_cMixed : ∀ (ds : List D) (P P' : D → Prop) (E E' : EK), (∀ d, P d → P' d) → (∀ v ns es, E v ns es → E' v ns es) → cMixed ds P E → cMixed ds P' E' := by
  intro ds P P' E E' hp he h
  cases h with
  | mk number turn many hm k => exact .mk number turn many hm (by first | exact hp _ k | exact k.imp hp | (intros; apply hp; apply k <;> assumption))
abbrev S__law_mixed : Scp := { N := ["number", "turn", "many", "first", "value", "size", "k", "again"], sc := defScope (top 39), vs := [("number", 0), ("turn", 1), ("many", 2), ("first", 3), ("value", 4), ("size", 5), ("k", 6), ("again", 7)], ss := [("number", 0), ("turn", 1), ("many", 2), ("first", 3), ("value", 4), ("size", 5), ("k", 6), ("again", 7)], gl := ["int", "range"], lv := 1 }
theorem b__law_mixed {U : Env1} (hB : Blt U ["int", "range"])  (G H : Hp) (ds) (P) (E) (h : cMixed ds P E) : JSs S__law_mixed (U.cg G H fun _ => E) (defBody (top 39)) (startD S__law_mixed.N ds) { nx := fun _ => P .non, rt := P } := by
  obtain ⟨number, turn, many, hm, k⟩ := h
  kat_tups
  refine ⟨fun i δ' => ∃ f v s : Int, ∃ sk sa : Sl, 0 ≤ f ∧ f < 2147483648 ∧ δ' = [.fz (.int number), .fz (.int turn), .fz (.int many), .fz (.int f), .fz (.int v), .fz (.int s), sk, sa], ⟨_, 0, 1, .no, .no, ?_, ?_, rfl⟩, ?_, ?_⟩
  · exact Int.emod_nonneg _ (by decide)
  · have := Int.emod_lt_of_pos (number % 2147483647 * 48271 + turn * 69621 + 101) (show (0 : Int) < 2147483647 by decide)
    omega
  · intro i hi
    refine turns_of ?_
    rintro δ' ⟨f, v, s, sk, sa, f1, f2, rfl⟩
    kat_tups
    refine ite_d (fun h1 => ?_) (fun h1 => ?_)
    · kat_tups
      refine ⟨_, _, _, _, _, Int.emod_nonneg _ (by decide), ?_, rfl⟩
      have := Int.emod_lt_of_pos (f * f + f / 5 + turn * 16807 + (0 + (i : Int)) * 7919 + 13) (show (0 : Int) < 2147483629 by decide)
      omega
    · kat_tups
      exact ⟨f, v, s, _, _, f1, f2, rfl⟩
  · rintro δ' ⟨f, v, s, sk, sa, f1, f2, rfl⟩
    kat_tups
    exact k _ (Int.emod_nonneg _ (by omega)) (Int.emod_lt_of_pos _ (by omega))
/-! _law_draws -/
inductive cDraws : List D → (D → Prop) → EK → Prop
  | mk {P : D → Prop} {E : EK} (ns : List Int) (hl : ns.length ≤ 63) (k : P (.sto ns)) : cDraws [.scr ns] P E
theorem mo_cDraws : ∀ (ds : List D) (P P' : D → Prop) (E E' : EK), (∀ d, P d → P' d) → (∀ v ns es, E v ns es → E' v ns es) → cDraws ds P E → cDraws ds P' E' := by
  intro ds P P' E E' hp he h
  cases h with
  | mk ns hl k => exact .mk ns hl (by first | exact hp _ k | exact k.imp hp | (intros; apply hp; apply k <;> assumption))
abbrev S__law_draws : Scp := { N := ["script", "seed", "cell"], sc := defScope (top 40), vs := [("script", 0), ("seed", 1), ("cell", 2)], ss := [("script", 0), ("seed", 1), ("cell", 2)], gl := ["int", "len", "list"], lv := 1 }
theorem b__law_draws {U : Env1} (hB : Blt U ["len", "int", "list"])  (G H : Hp) (ds) (P) (E) (h : cDraws ds P E) : JSs S__law_draws (U.cg G H fun _ => E) (defBody (top 40)) (startD S__law_draws.N ds) { nx := fun _ => P .non, rt := P } := by
  obtain ⟨ns, hl, k⟩ := h
  kat_tups
  refine ⟨fun i δ' => ∃ f : Int, ∃ sk : Sl, δ' = [.fz (.scr ns), .fz (.int f), sk], ⟨_, .no, rfl⟩, ?_, ?_⟩
  · intro i hi
    refine turns_of ?_
    rintro δ' ⟨f, sk, rfl⟩
    kat_tups
    exact ⟨_, _, rfl⟩
  · rintro δ' ⟨f, sk, rfl⟩
    kat_tups
    refine je_stoNew ?_
    kat_tups
    refine cf_listScr ⟨ns, rfl, hl, ?_⟩
    kat_tups
    try exact k

/-! _law_opened -/
theorem bd_mod {n : Nat} {c w : Int} (h0 : 0 < w) (h : Bd n w) : Bd n (c % w) := by
  have h1 := Int.emod_nonneg c (show w ≠ 0 by omega)
  have h2 := Int.emod_lt_of_pos c h0
  exact h.le (by omega)
theorem bd_div {n : Nat} {c w : Int} (h : Bd n c) : Bd n (c / w) := h.le (Int.natAbs_ediv_le_natAbs _ _)
inductive cOpened : List D → (D → Prop) → EK → Prop
  | mk {P : D → Prop} {E : EK} (cells : List Int) (hl : cells.length ≤ 63) (k : P .non) : cOpened [.sto cells] P E
theorem mo_cOpened : ∀ (ds : List D) (P P' : D → Prop) (E E' : EK), (∀ d, P d → P' d) → (∀ v ns es, E v ns es → E' v ns es) → cOpened ds P E → cOpened ds P' E' := by
  intro ds P P' E E' hp he h
  cases h with
  | mk cells hl k => exact .mk cells hl (by first | exact hp _ k | exact k.imp hp | (intros; apply hp; apply k <;> assumption))
abbrev S__law_opened : Scp := { N := ["store", "wide", "cells", "k", "cell"], sc := defScope (top 41), vs := [("store", 0), ("wide", 1), ("cells", 2), ("k", 3), ("cell", 4)], ss := [("store", 0), ("wide", 1), ("cells", 2), ("k", 3), ("cell", 4)], gl := ["int", "len", "range"], lv := 1 }
theorem b__law_opened {U : Env1} (hB : Blt U ["range", "len", "int"])  (G H : Hp) (ds) (P) (E) (h : cOpened ds P E) : JSs S__law_opened (U.cg G H fun _ => E) (defBody (top 41)) (startD S__law_opened.N ds) { nx := fun _ => P .non, rt := P } := by
  obtain ⟨cells, hl, k⟩ := h
  kat_tups
  rename_i at0 a0 a1
  rw [List.length_map]
  refine ⟨⟨by omega, by omega, by omega, by omega⟩, fun i δ' => ∃ sk sc : Sl, δ' = [.fz (.sto cells), .fz (.int _), .fz (.lst (cells.map D.int)), sk, sc], ⟨.no, .no, rfl⟩, ?_, ?_⟩
  · intro i hi
    refine turns_of ?_
    rintro δ' ⟨sk, sc, rfl⟩
    kat_tups
    rename_i r0 _ _
    refine ite_d (fun h1 => ?_) (fun h1 => ?_)
    · kat_tups
      rename_i l0 _
      refine ite_d (fun h2 => ?_) (fun h2 => ?_)
      · kat_tups
        obtain ⟨c, hc⟩ := atI_ints (cells := cells) (k := at0 + i) (by omega) (by omega)
        refine ixd_lst hc ?_
        kat_tups
        refine ⟨spp_at (by omega) (by omega), ?_⟩
        kat_tups
        refine ite_d (fun h3 => ?_) (fun h3 => ?_)
        · kat_tups
          refine ⟨spp_left fun _ => ?_, ?_⟩
          · intro z
            subst z
            simp at hi
            omega
          · kat_tups
            exact ⟨_, _, rfl⟩
        · kat_tups
          refine ⟨spp_restB (Int.emod_nonneg _ (by decide +kernel)) (bd_mod (by decide +kernel) (by unfold Bd; decide +kernel)), ?_⟩
          kat_tups
          exact ⟨_, _, rfl⟩
      · kat_tups
        exact ⟨_, _, rfl⟩
    · kat_tups
      exact ⟨_, _, rfl⟩
  · rintro δ' ⟨sk, sc, rfl⟩
    kat_tups
    try exact k

/-! _law_take -/
inductive cTake : List D → (D → Prop) → EK → Prop
  | mk {P : D → Prop} {E : EK} (cells : List Int) (hl : cells.length ≤ 63) (many : Int) (k : ∀ v : Int, 0 ≤ v → (v < many ∨ v = 0) → P (.int v)) : cTake [.sto cells, .int many] P E
theorem mo_cTake : ∀ (ds : List D) (P P' : D → Prop) (E E' : EK), (∀ d, P d → P' d) → (∀ v ns es, E v ns es → E' v ns es) → cTake ds P E → cTake ds P' E' := by
  intro ds P P' E E' hp he h
  cases h with
  | mk cells hl many k => exact .mk cells hl many (by first | exact hp _ k | exact k.imp hp | (intros; apply hp; apply k <;> assumption))
abbrev S__law_take : Scp := { N := ["store", "many", "value", "number"], sc := defScope (top 42), vs := [("store", 0), ("many", 1), ("value", 2), ("number", 3)], ss := [("store", 0), ("many", 1), ("value", 2), ("number", 3)], gl := ["_law_mixed", "_law_opened", "int"], lv := 2 }
local macro_rules | `(tactic| lsm_bools) => `(tactic| first | refine cOpened.mk _ (by first | assumption | omega | decide) ?_ | refine cMixed.mk _ _ _ (by first | assumption | omega | decide) (fun v hk1 hk2 => ?_))
theorem b__law_take {U : Env1} (hB : Blt U ["int"]) (F__law_opened : U.Def "_law_opened" 2 [] cOpened) (F__law_mixed : U.Def "_law_mixed" 2 [] cMixed) (G H : Hp) (ds) (P) (E) (h : cTake ds P E) : JSs S__law_take (U.cg G H fun _ => E) (defBody (top 42)) (startD S__law_take.N ds) { nx := fun _ => P .non, rt := P } := by
  obtain ⟨cells, hl, many, k⟩ := h
  -- behind the opening
  have rest : ∀ δ, δ = startD S__law_take.N [.sto cells, .int many] → ¬ many < 2 → JSs S__law_take (U.cg G H fun _ => E) ((defBody (top 42)).drop 2) δ { nx := fun _ => P .non, rt := P } := by
    rintro δ rfl hm
    show JSs _ _ (_ :: _ :: _ :: _ :: _ :: []) _ _
    kat_tups
    rename_i r0 _ _
    refine ite_d (fun h1 => ?_) (fun h1 => ?_)
    · kat_tups
      rename_i r1 _ _ r2 g1 g2
      refine ⟨spp_restB (Int.ediv_nonneg g1 (by omega)) (bd_div g2), ?_⟩
      kat_tups
      exact k _ (Int.emod_nonneg _ (by omega)) (.inl (Int.emod_lt_of_pos _ (by omega)))
    · kat_tups
      rename_i s0 l0 hl0
      refine ite_d (fun h2 => ?_) (fun h2 => ?_)
      · kat_tups
        rename_i a0 b1 b2
        have hne := hl0 h2
        have hpos : 0 < cells.length := List.length_pos_iff.mpr hne
        obtain ⟨c, hc⟩ := atI_ints (cells := cells) (k := a0 - 1) (by omega) (by omega)
        refine ixd_lst hc ?_
        kat_tups
        rename_i l1 hl1
        refine ⟨spp_left fun _ => hne, ?_⟩
        kat_tups
        refine ⟨spp_turn, ?_⟩
        kat_tups
        rename_i v w1 w2
        exact k v w1 (.inl w2)
      · kat_tups
        refine ⟨spp_turn, ?_⟩
        kat_tups
        rename_i v w1 w2
        exact k v w1 (.inl w2)
  refine zs_cons ?_
  kat_tups
  refine ite_d (fun h1 => ?_) (fun h1 => ?_)
  · kat_tups
    exact k 0 (by omega) (.inr rfl)
  refine zs_nil ?_
  refine zs_cut fun Q hQ => ?_
  have hq := hQ _ (rest _ rfl h1)
  kat_tups
  refine ite_d (fun h2 => ?_) (fun h2 => ?_)
  · kat_tups
    refine ite_d (fun h3 => ?_) (fun h3 => ?_)
    · kat_tups
      try exact hq
    · kat_tups
      try exact hq
  · kat_tups
    try exact hq

/-! _law_between -/
inductive cBetween : List D → (D → Prop) → EK → Prop
  | mk {P : D → Prop} {E : EK} (cells : List Int) (hl : cells.length ≤ 63) (low high : Int) (k : ∀ v : Int, low ≤ v → (v ≤ high ∨ v = low) → P (.int v)) : cBetween [.sto cells, .int low, .int high] P E
theorem mo_cBetween : ∀ (ds : List D) (P P' : D → Prop) (E E' : EK), (∀ d, P d → P' d) → (∀ v ns es, E v ns es → E' v ns es) → cBetween ds P E → cBetween ds P' E' := by
  intro ds P P' E E' hp he h
  cases h with
  | mk cells hl low high k => exact .mk cells hl low high (by first | exact hp _ k | exact k.imp hp | (intros; apply hp; apply k <;> assumption))
abbrev S__law_between : Scp := { N := ["store", "low", "high", "kind"], sc := defScope (top 43), vs := [("store", 0), ("low", 1), ("high", 2), ("kind", 3)], ss := [("store", 0), ("low", 1), ("high", 2), ("kind", 3)], gl := ["_law_take"], lv := 3 }
local macro_rules | `(tactic| lsm_bools) => `(tactic| first | refine cTake.mk _ (by first | assumption | omega | decide) _ (fun v hk1 hk2 => ?_))
theorem b__law_between {U : Env1} (F__law_take : U.Def "_law_take" 3 [] cTake) (G H : Hp) (ds) (P) (E) (h : cBetween ds P E) : JSs S__law_between (U.cg G H fun _ => E) (defBody (top 43)) (startD S__law_between.N ds) { nx := fun _ => P .non, rt := P } := by
  obtain ⟨cells, hl, low, high, k⟩ := h
  kat_tups
  refine ite_d (fun h1 => ?_) (fun h1 => ?_)
  · kat_tups
    exact k _ (by omega) (.inr rfl)
  kat_tups
  rename_i v w1 w2
  refine ite_d (fun h2 => ?_) (fun h2 => ?_)
  · kat_tups
    exact k _ (by omega) (.inr rfl)
  kat_tups
  refine ite_d (fun h3 => ?_) (fun h3 => ?_)
  · kat_tups
    exact k _ (by omega) (.inl (by omega))
  kat_tups
  rename_i u u1 u2
  exact k _ (by omega) (.inl (by omega))
end
set_option Elab.async false
set_option linter.all false
set_option maxRecDepth 100000
set_option maxHeartbeats 4000000
section
/-! _law_same, of two that are alike -/
def Fl0 : D → Prop
  | .non => True | .bl _ => True | .int _ => True | .str _ => True | _ => False
def Dp : Nat → D → Prop
  | 0, d => Fl0 d
  | k + 1, d => Fl0 d ∨ ∃ ds, (d = .tup ds ∨ d = .lst ds) ∧ ds.length ≤ 100000 ∧ ∀ e ∈ ds, Dp k e
inductive cSame (j : Nat) : List D → (D → Prop) → EK → Prop
  | mk {P : D → Prop} {E : EK} (d : D) (h : Dp j d) (k : P (.bl true)) : cSame j [d, d] P E
abbrev S_same (j : Nat) : Scp := { N := ["actual", "expected", "key", "k"], sc := defScope (top 59), vs := [("actual", 0), ("expected", 1), ("key", 2), ("k", 3)], ss := [("actual", 0), ("expected", 1), ("key", 2), ("k", 3)], gl := ["isinstance", "bool", "int", "str", "dict", "len", "_law_same", "list", "tuple", "range"], lv := j + 1 }
theorem b_same {U : Env1} (hB : Blt U ["isinstance", "bool", "int", "str", "dict", "len", "list", "tuple", "range"]) (j : Nat) (F1 : ∀ i, j = i + 1 → U.Def "_law_same" (i + 2) [] (cSame i)) (G H : Hp) (ds) (P) (E) (h : cSame j ds P E) : JSs (S_same j) (U.cg G H fun _ => E) (defBody (top 59)) (startD (S_same j).N ds) { nx := fun _ => P .non, rt := P } := by
  obtain ⟨d, hd, k⟩ := h
  have hd' : Fl0 d ∨ ∃ i ds, j = i + 1 ∧ (d = .tup ds ∨ d = .lst ds) ∧ ds.length ≤ 100000 ∧ ∀ e ∈ ds, Dp i e := by
    cases j with
    | zero => exact .inl hd
    | succ i =>
      rcases hd with hd | ⟨ds, h1, h2, h3⟩
      · exact .inl hd
      · exact .inr ⟨i, ds, rfl, h1, h2, h3⟩
  rcases hd' with hf | ⟨i, ds, rfl, h1, h2, h3⟩
  · cases d with
    | non => kat_tups; try (first | exact k | simpa using k)
    | bl b => kat_tups; try (first | exact k | simpa using k)
    | int b => kat_tups; try (first | exact k | simpa using k)
    | str b => kat_tups; try (first | exact k | simpa using k)
    | _ => exact hf.elim
  · have F := F1 i rfl
    rcases h1 with rfl | rfl
    · kat_tups
      refine ⟨fun i' δ' => ∃ s1 s2 : Sl, δ' = [.fz (.tup ds), .fz (.tup ds), s1, s2], ⟨_, _, rfl⟩, ?_, ?_⟩
      · intro i' hi
        refine turns_of ?_
        rintro δ' ⟨s1, s2, rfl⟩
        obtain ⟨d, hd1, e⟩ := atI_some (ds := ds) (k := 0 + (i' : Int)) (by omega) (by omega)
        kat_tups
        refine ixd_tup e ?_
        kat_tups
        refine ixd_tup e ?_
        kat_tups
        refine cSame.mk d (h3 d hd1) ?_
        kat_tups
        exact ⟨_, _, rfl⟩
      · rintro δ' ⟨s1, s2, rfl⟩
        kat_tups
        try exact k
    · kat_tups
      refine ⟨fun i' δ' => ∃ s1 s2 : Sl, δ' = [.fz (.lst ds), .fz (.lst ds), s1, s2], ⟨_, _, rfl⟩, ?_, ?_⟩
      · intro i' hi
        refine turns_of ?_
        rintro δ' ⟨s1, s2, rfl⟩
        obtain ⟨d, hd1, e⟩ := atI_some (ds := ds) (k := 0 + (i' : Int)) (by omega) (by omega)
        kat_tups
        refine ixd_lst e ?_
        kat_tups
        refine ixd_lst e ?_
        kat_tups
        refine cSame.mk d (h3 d hd1) ?_
        kat_tups
        exact ⟨_, _, rfl⟩
      · rintro δ' ⟨s1, s2, rfl⟩
        kat_tups
        try exact k
theorem mo_cSame {j : Nat} : ∀ (ds : List D) (P P' : D → Prop) (E E' : EK), (∀ d, P d → P' d) → (∀ v ns es, E v ns es → E' v ns es) → cSame j ds P E → cSame j ds P' E' := by
  intro ds P P' E E' hp he h
  cases h with
  | mk d h k => exact .mk d h (hp _ k)
theorem dp_int {j : Nat} {i : Int} : Dp j (.int i) := by cases j <;> first | exact trivial | exact .inl trivial
theorem dp_str {j : Nat} {i : Str} : Dp j (.str i) := by cases j <;> first | exact trivial | exact .inl trivial
theorem dp_lst {j : Nat} {ds : List D} (hl : ds.length ≤ 100000) (h : ∀ e ∈ ds, Dp j e) : Dp (j + 1) (.lst ds) := .inr ⟨_, .inr rfl, hl, h⟩
theorem dp_tup {j : Nat} {ds : List D} (hl : ds.length ≤ 100000) (h : ∀ e ∈ ds, Dp j e) : Dp (j + 1) (.tup ds) := .inr ⟨_, .inl rfl, hl, h⟩
theorem dp_lmap {j : Nat} {α : Type} {xs : List α} {f : α → D} (hl : xs.length ≤ 100000) (h : ∀ e ∈ xs, Dp j (f e)) : Dp (j + 1) (.lst (xs.map f)) := dp_lst (by simpa using hl) (fun e he => by
  obtain ⟨x, hx, rfl⟩ := List.mem_map.mp he
  exact h x hx)
theorem dp_all_nil {j : Nat} : ∀ e ∈ ([] : List D), Dp j e := by simp
theorem dp_all_cons {j : Nat} {d : D} {ds : List D} (h : Dp j d) (h2 : ∀ e ∈ ds, Dp j e) : ∀ e ∈ d :: ds, Dp j e := by
  intro e he
  rcases List.mem_cons.mp he with rfl | he
  · exact h
  · exact h2 e he
end
set_option Elab.async false
set_option linter.all false
set_option maxRecDepth 100000
set_option maxHeartbeats 4000000
section
/-! rows: plain facts -/
abbrev rowL (r : List Int) : D := .lst (r.map .int)
abbrev rowD (r : List Int) : D := .tup (r.map .int)
abbrev Asc (l : List Int) : Prop := l.Pairwise (· < ·)
/-- the goods that are reached behind a row -/
def nx : List Int → List Int
  | [] => []
  | [a] => [a, a + 1]
  | a :: b :: r => if b = a + 1 then a :: nx (b :: r) else a :: (a + 1) :: nx (b :: r)
theorem nx_head (b : Int) : ∀ r, ∃ t, nx (b :: r) = b :: t
  | [] => ⟨_, rfl⟩
  | c :: r => by
    unfold nx
    split
    · exact ⟨_, rfl⟩
    · exact ⟨_, rfl⟩
theorem nx_mem : ∀ (l : List Int) (b : Int), b ∈ nx l ↔ b ∈ l ∨ b - 1 ∈ l
  | [], b => by simp [nx]
  | [a], b => by
    simp [nx]
    omega
  | a :: c :: r, b => by
    have ih := nx_mem (c :: r) b
    unfold nx
    split
    · rename_i h
      rw [List.mem_cons, ih]
      simp only [List.mem_cons]
      constructor
      · rintro (h1 | (h1 | h1) | h1 | h1)
        · exact .inl (.inl h1)
        · exact .inl (.inr (.inl h1))
        · exact .inl (.inr (.inr h1))
        · exact .inr (.inr (.inl h1))
        · exact .inr (.inr (.inr h1))
      · rintro ((h1 | h1 | h1) | (h1 | h1 | h1))
        · exact .inl h1
        · exact .inr (.inl (.inl h1))
        · exact .inr (.inl (.inr h1))
        · exact .inr (.inl (.inl (by omega)))
        · exact .inr (.inr (.inl h1))
        · exact .inr (.inr (.inr h1))
    · rw [List.mem_cons, List.mem_cons, ih]
      simp only [List.mem_cons]
      constructor
      · rintro (h1 | h1 | (h1 | h1) | h1 | h1)
        · exact .inl (.inl h1)
        · exact .inr (.inl (by omega))
        · exact .inl (.inr (.inl h1))
        · exact .inl (.inr (.inr h1))
        · exact .inr (.inr (.inl h1))
        · exact .inr (.inr (.inr h1))
      · rintro ((h1 | h1 | h1) | (h1 | h1 | h1))
        · exact .inl h1
        · exact .inr (.inr (.inl (.inl h1)))
        · exact .inr (.inr (.inl (.inr h1)))
        · exact .inr (.inl (by omega))
        · exact .inr (.inr (.inr (.inl h1)))
        · exact .inr (.inr (.inr (.inr h1)))
theorem nx_asc : ∀ {l : List Int}, Asc l → Asc (nx l)
  | [], _ => .nil
  | [a], _ => by simp [nx, Asc]; omega
  | a :: c :: r, h => by
    have h1 := List.pairwise_cons.mp h
    have ih := nx_asc h1.2
    have hac : a < c := h1.1 c (.head _)
    have hlow : ∀ x ∈ nx (c :: r), c ≤ x := by
      intro x hx
      rcases (nx_mem _ _).mp hx with q | q
      · rcases List.mem_cons.mp q with q | q
        · omega
        · have := (List.pairwise_cons.mp h1.2).1 x q; omega
      · rcases List.mem_cons.mp q with q | q
        · omega
        · have := (List.pairwise_cons.mp h1.2).1 _ q; omega
    unfold nx
    split
    · exact List.pairwise_cons.mpr ⟨fun x hx => by have := hlow x hx; omega, ih⟩
    · refine List.pairwise_cons.mpr ⟨fun x hx => ?_, List.pairwise_cons.mpr ⟨fun x hx => by have := hlow x hx; omega, ih⟩⟩
      rcases List.mem_cons.mp hx with q | q
      · omega
      · have := hlow x q; omega
theorem nx_ne : ∀ {l : List Int}, l ≠ [] → nx l ≠ []
  | [], h => h
  | a :: r, _ => by
    obtain ⟨t, e⟩ := nx_head a r
    rw [e]
    simp
theorem asc_ext : ∀ {l m : List Int}, Asc l → Asc m → (∀ x, x ∈ l ↔ x ∈ m) → l = m
  | [], [], _, _, _ => rfl
  | [], b :: m, _, _, h => absurd ((h b).mpr (.head _)) (by simp)
  | a :: l, [], _, _, h => absurd ((h a).mp (.head _)) (by simp)
  | a :: l, b :: m, ha, hb, h => by
    have h1 := List.pairwise_cons.mp ha
    have h2 := List.pairwise_cons.mp hb
    have e : a = b := by
      rcases List.mem_cons.mp ((h a).mp (.head _)) with q | q
      · exact q
      · rcases List.mem_cons.mp ((h b).mpr (.head _)) with q' | q'
        · exact q'.symm
        · have := h1.1 b q'; have := h2.1 a q; omega
    subst e
    rw [asc_ext h1.2 h2.2 fun x => ?_]
    constructor
    · intro hx
      rcases List.mem_cons.mp ((h x).mp (.tail _ hx)) with q | q
      · subst q; have := h1.1 x hx; omega
      · exact q
    · intro hx
      rcases List.mem_cons.mp ((h x).mpr (.tail _ hx)) with q | q
      · subst q; have := h2.1 x hx; omega
      · exact q
/-! the two ways in which the goods are found -/
def stepG (out : List Int) (a : Int) : List Int := (if out.getLast? = some a then out else out ++ [a]) ++ [a + 1]
theorem foldG : ∀ (r pre : List Int) (a : Int), r.foldl stepG (pre ++ [a, a + 1]) = pre ++ nx (a :: r)
  | [], pre, a => rfl
  | b :: r, pre, a => by
    rw [List.foldl_cons]
    unfold nx
    by_cases h : b = a + 1
    · subst h
      have e : stepG (pre ++ [a, a + 1]) (a + 1) = (pre ++ [a]) ++ [a + 1, a + 1 + 1] := by
        unfold stepG
        simp
      rw [e, foldG r (pre ++ [a]) (a + 1), if_pos rfl]
      simp
    · have e : stepG (pre ++ [a, a + 1]) b = (pre ++ [a, a + 1]) ++ [b, b + 1] := by
        unfold stepG
        rw [if_neg (by simp; exact fun z => h z.symm)]
        simp
      rw [e, foldG r (pre ++ [a, a + 1]) b, if_neg h]
      simp
theorem foldG0 : ∀ (r : List Int), r.foldl stepG [] = nx r
  | [] => rfl
  | a :: r => foldG r [] a
def putN (out : List Int) (g : Int) : List Int := if g ∈ out then out else out ++ [g]
def stepN (out : List Int) (a : Int) : List Int := putN (putN out a) (a + 1)
theorem foldN : ∀ (r pre : List Int) (a : Int), (∀ x ∈ pre, x < a) → Asc (a :: r) → r.foldl stepN (pre ++ [a, a + 1]) = pre ++ nx (a :: r)
  | [], pre, a, _, _ => rfl
  | b :: r, pre, a, hp, ha => by
    have h1 := List.pairwise_cons.mp ha
    have hab : a < b := h1.1 b (.head _)
    rw [List.foldl_cons]
    unfold nx
    by_cases h : b = a + 1
    · subst h
      have e : stepN (pre ++ [a, a + 1]) (a + 1) = (pre ++ [a]) ++ [a + 1, a + 1 + 1] := by
        unfold stepN putN
        rw [if_pos (by simp : a + 1 ∈ pre ++ [a, a + 1]), if_neg]
        · simp
        · simp only [List.mem_append, List.mem_cons, List.not_mem_nil, or_false, not_or]
          exact ⟨fun z => by have := hp _ z; omega, by omega, by omega⟩
      rw [e, foldN r (pre ++ [a]) (a + 1) (fun x hx => ?_) h1.2, if_pos rfl]
      · simp
      · rcases List.mem_append.mp hx with q | q
        · have := hp x q; omega
        · simp at q; omega
    · have e : stepN (pre ++ [a, a + 1]) b = (pre ++ [a, a + 1]) ++ [b, b + 1] := by
        have n1 : b ∉ pre ++ [a, a + 1] := by
          simp only [List.mem_append, List.mem_cons, List.not_mem_nil, or_false, not_or]
          exact ⟨fun z => by have := hp _ z; omega, by omega, by omega⟩
        have n2 : b + 1 ∉ pre ++ [a, a + 1] ++ [b] := by
          simp only [List.mem_append, List.mem_cons, List.not_mem_nil, or_false, not_or]
          exact ⟨⟨fun z => by have := hp _ z; omega, by omega, by omega⟩, by omega⟩
        unfold stepN putN
        rw [if_neg n1, if_neg n2]
        simp
      rw [e, foldN r (pre ++ [a, a + 1]) b (fun x hx => ?_) h1.2, if_neg h]
      · simp
      · rcases List.mem_append.mp hx with q | q
        · have := hp x q; omega
        · simp at q; omega
theorem foldN0 : ∀ {r : List Int}, Asc r → r.foldl stepN [] = nx r
  | [], _ => rfl
  | a :: r, h => by
    have e : stepN [] a = [] ++ [a, a + 1] := by
      unfold stepN putN
      rw [if_neg (by simp : a ∉ []), if_neg (by simp only [List.nil_append, List.mem_singleton]; omega)]
      simp
    rw [List.foldl_cons, e]
    exact foldN r [] a (by simp) h
theorem stepN_len (out : List Int) (a : Int) : (stepN out a).length ≤ out.length + 2 := by
  unfold stepN putN
  split <;> split <;> simp <;> omega
theorem stepG_len (out : List Int) (a : Int) : (stepG out a).length ≤ out.length + 2 := by
  unfold stepG
  split <;> simp
/-! plans -/
/-- a row that may follow these reached goods -/
def RowOk (row goods : List Int) : Prop := row ≠ [] ∧ Asc row ∧ ∀ a ∈ row, a ∈ goods
instance {r g : List Int} : Decidable (RowOk r g) := inferInstanceAs (Decidable (_ ∧ _ ∧ _))
/-- rows that may follow these goods -/
def Pl : List Int → List (List Int) → Prop
  | _, [] => True
  | g, r :: rs => RowOk r g ∧ Pl (nx r) rs
/-- a plan's rows -/
def PlanOk (rows : List (List Int)) : Prop := rows.length ≤ 12 ∧ Pl [0] rows
/-- goods of places of the length k -/
def Gd (k : Nat) (g : List Int) : Prop := g ≠ [] ∧ Asc g ∧ ∀ a ∈ g, 0 ≤ a ∧ a ≤ k
theorem gd0 : Gd 0 [0] := ⟨by simp, by simp [Asc], by simp⟩
theorem RowOk.gd {k : Nat} {r g : List Int} (h : RowOk r g) (hg : Gd k g) : Gd k r := ⟨h.1, h.2.1, fun a ha => hg.2.2 a (h.2.2 a ha)⟩
theorem Gd.nx {k : Nat} {r : List Int} (h : Gd k r) : Gd (k + 1) (nx r) := ⟨nx_ne h.1, nx_asc h.2.1, fun a ha => by
  rcases (nx_mem _ _).mp ha with q | q
  · have := h.2.2 _ q; omega
  · have := h.2.2 _ q; omega⟩
theorem asc_len : ∀ {l : List Int} {lo : Int} {n : Nat}, Asc l → (∀ a ∈ l, lo ≤ a ∧ a < lo + n) → l.length ≤ n
  | [], _, _, _, _ => Nat.zero_le _
  | a :: l, lo, n, h, hb => by
    have h1 := List.pairwise_cons.mp h
    have b0 := hb a (.head _)
    cases n with
    | zero => omega
    | succ n =>
      have := asc_len (l := l) (lo := lo + 1) (n := n) h1.2 fun x hx => by
        have h2 := hb x (.tail _ hx)
        have h3 := h1.1 x hx
        omega
      simp; omega
theorem Gd.len {k : Nat} {r : List Int} (h : Gd k r) : r.length ≤ k + 1 := asc_len (lo := 0) h.2.1 fun a ha => by have := h.2.2 a ha; omega
theorem Pl.get : ∀ {rows : List (List Int)} {k : Nat} {g : List Int} {n : Nat} {r : List Int}, Pl g rows → Gd k g → rows[n]? = some r → Gd (k + n) r
  | [], _, _, _, _, _, _, e => by simp at e
  | r0 :: rs, k, g, 0, r, h, hg, e => by
    simp at e
    subst e
    exact h.1.gd hg
  | r0 :: rs, k, g, n + 1, r, h, hg, e => by
    have := Pl.get (n := n) (r := r) h.2 (h.1.gd hg).nx (by simpa using e)
    rwa [show k + 1 + n = k + (n + 1) by omega] at this
theorem Pl.mem {rows : List (List Int)} {r : List Int} (h : PlanOk rows) (hr : r ∈ rows) : Gd 11 r := by
  obtain ⟨n, hn, e⟩ := List.mem_iff_getElem.mp hr
  have := h.2.get gd0 (n := n) (r := r) (by rw [List.getElem?_eq_getElem hn, e])
  have hl := h.1
  exact ⟨this.1, this.2.1, fun a ha => by have := this.2.2 a ha; omega⟩
theorem pl_append : ∀ {rows : List (List Int)} {g r : List Int}, Pl g rows → RowOk r (((rows.map nx).getLast?).getD g) → Pl g (rows ++ [r])
  | [], g, r, _, h => ⟨h, trivial⟩
  | r0 :: rs, g, r, hp, h => by
    refine ⟨hp.1, pl_append hp.2 ?_⟩
    rw [List.map_cons, List.getLast?_cons] at h
    simpa using h
/-- the rows of the reached goods -/
def metR (rows : List (List Int)) : List (List Int) := [0] :: rows.map nx
abbrev plD (CP : Addr) (rows : List (List Int)) : D := .obj CP ["go_rows", "met_rows"] [.tup (rows.map rowD), .tup ((metR rows).map rowD)]
def gapsOf (n : Int) (row : List Int) : List (Int × Int × Int) := (row.zip row.tail).filterMap fun p => if p.1 + 2 ≤ p.2 then some (n, p.1, p.2) else none
abbrev gapD (g : Int × Int × Int) : D := .tup [.int g.1, .int g.2.1, .int g.2.2]
def gapsR (rows : List (List Int)) : List (Int × Int × Int) := rows.zipIdx.flatMap fun x => gapsOf x.2 x.1
def meetR : List Int → List (List Int) → List (List Int) → List (List Int)
  | g, r1 :: o, r2 :: t => if (r1.filter fun a => decide (a ∈ r2) && decide (a ∈ g)) = [] then [] else (r1.filter fun a => decide (a ∈ r2) && decide (a ∈ g)) :: meetR (nx (r1.filter fun a => decide (a ∈ r2) && decide (a ∈ g))) o t
  | _, _, _ => []
/-- the good of a place stands in its row -/
def inR (rows : List (List Int)) (a b : Int) : Bool := decide (a ∈ (rows[(a + b).toNat]?).getD [])
def goP (rows : List (List Int)) : List (Int × Int) := rows.zipIdx.flatMap fun x => x.1.map fun a => (a, x.2 - a)
abbrev plcD (p : Int × Int) : D := .tup [.int p.1, .int p.2]
theorem goP_mem {rows : List (List Int)} {p : Int × Int} : p ∈ goP rows ↔ ∃ (n : Nat) (r : List Int), rows[n]? = some r ∧ p.1 ∈ r ∧ p.1 + p.2 = n := by
  unfold goP
  simp only [List.mem_flatMap, List.mem_map, Prod.exists]
  constructor
  · rintro ⟨r, n, h, a, ha, e⟩
    subst e
    exact ⟨n, r, by simpa using (List.mk_mem_zipIdx_iff_getElem?.mp h), ha, by simp; omega⟩
  · rintro ⟨n, r, h, ha, e⟩
    exact ⟨r, n, List.mk_mem_zipIdx_iff_getElem?.mpr (by simpa using h), p.1, ha, by ext <;> simp; omega⟩
theorem pairwise_of_next : ∀ {l : List Int}, (∀ i (h : i + 1 < l.length), l[i] < l[i + 1]) → Asc l
  | [], _ => .nil
  | [a], _ => by simp [Asc]
  | a :: b :: r, h => by
    have ih := pairwise_of_next (l := b :: r) fun i hi => h (i + 1) (by simp at hi ⊢; omega)
    have hab : a < b := h 0 (by simp)
    refine List.pairwise_cons.mpr ⟨fun x hx => ?_, ih⟩
    rcases List.mem_cons.mp hx with q | q
    · omega
    · have := (List.pairwise_cons.mp ih).1 x q; omega
theorem fm_if {α β : Type} {p : α → Prop} [DecidablePred p] {f : α → β} : ∀ {l : List α}, l.filterMap (fun a => if p a then some (f a) else none) = (l.filter fun a => decide (p a)).map f
  | [] => rfl
  | a :: l => by
    rw [List.filterMap_cons, List.filter_cons]
    by_cases h : p a
    · simp [h, fm_if (l := l)]
    · simp [h, fm_if (l := l)]
end
set_option Elab.async false
set_option linter.all false
set_option maxRecDepth 100000
set_option maxHeartbeats 4000000
section
/-! the class Plan: what the top has of it -/
structure PlanC (U : Env1) (C : Addr) : Prop where
  cl : Cls U.K C
  mg : U.mg "Plan" = some (.ref C)
  n1 : NoAttr U.K C "go_rows"
  n2 : NoAttr U.K C "met_rows"
  ins : C8.InsC U.K C
  ne : PySem.W.findIn U.K (.ref C) "__ne__" = some (some (.builtin "object.__ne__"))
  ob : PySem.W.subIn U.K (.ref C) (.type "object") = some true
  sf : PySem.W.selfFirst U.K C = true
  ml : ∃ t, U.mg "MOST_LOOKS" = some (.int 12 t)
  ty : PySem.W.typeIn U.K (.ref C) = some (.type "type")
/-! next_goods -/
inductive cNextG : List D → (D → Prop) → EK → Prop
  | mk {P : D → Prop} {E : EK} (row : List Int) (hl : row.length ≤ 1000) (k : P (rowD (nx row))) : cNextG [rowL row] P E
theorem mo_cNextG : ∀ (ds : List D) (P P' : D → Prop) (E E' : EK), (∀ d, P d → P' d) → (∀ v ns es, E v ns es → E' v ns es) → cNextG ds P E → cNextG ds P' E' := by
  intro ds P P' E E' hp he h
  cases h with
  | mk row hl k => exact .mk row hl (by first | exact hp _ k | exact k.imp hp | (intros; apply hp; apply k <;> assumption))
abbrev S_next_goods : Scp := { N := ["row", "out", "a"], sc := defScope (top 24), vs := [("row", 0), ("out", 1), ("a", 2)], ss := [("row", 0), ("out", 1), ("a", 2)], gl := ["tuple"], lv := 1 }
theorem b_next_goods {U : Env1} (hB : Blt U ["tuple"])  (G H : Hp) (ds) (P) (E) (h : cNextG ds P E) : JSs S_next_goods (U.cg G H fun _ => E) (defBody (top 24)) (startD S_next_goods.N ds) { nx := fun _ => P .non, rt := P } := by
  obtain ⟨row, hl, k⟩ := h
  kat_tups
  refine each (fun rest δ' => ∃ (out : List Int) (s : Sl), rest.foldl stepG out = nx row ∧ out.length + 2 * rest.length ≤ 2000 ∧ δ' = [.fz (rowL row), .ow (out.map .int), s]) src_map ⟨[], _, foldG0 row, by simp; omega, rfl⟩ ?_ ?_
  · rintro a rest δ' _ ⟨out, s, hf, hb, rfl⟩
    have hs : 5000 < sizeLine := by decide
    simp only [List.length_cons] at hb
    rw [List.foldl_cons] at hf
    have hb2 := stepG_len out a
    kat_tups
    rw [List.isEmpty_map]
    cases he : out.getLast? with
    | none =>
      rw [List.getLast?_eq_none_iff] at he
      subst he
      kat_tups
      refine ⟨by simp; omega, ?_⟩
      kat_tups
      refine ⟨by simp; omega, ?_⟩
      kat_tups
      exact ⟨stepG [] a, .fz (.int a), hf, by omega, rfl⟩
    | some b =>
      have hne : out ≠ [] := fun z => by subst z; cases he
      have hemp : out.isEmpty = false := by cases out <;> simp_all
      rw [hemp]
      kat_tups
      have hat : L2.atI (out.map D.int) (-1) = some (.int b) := by
        have hlen : 0 < out.length := List.length_pos_iff.mpr hne
        unfold L2.atI ixN
        rw [if_neg (by decide), if_pos (by rw [List.length_map]; omega)]
        rw [List.getLast?_eq_getElem?] at he
        simp only [List.length_map, Option.bind_some, List.getElem?_map]
        rw [show (-1 + (out.length : Int)).toNat = out.length - 1 by omega, he]
        rfl
      refine ⟨-1, .int b, rfl, hat, ?_⟩
      kat_tups
      refine ite_nd (fun hab => ?_) (fun hab => ?_)
      · kat_tups
        refine ⟨by simp; omega, ?_⟩
        kat_tups
        refine ⟨by simp; omega, ?_⟩
        kat_tups
        refine ⟨stepG out a, .fz (.int a), hf, by omega, ?_⟩
        unfold stepG
        rw [he, if_neg (fun z => hab (Option.some.inj z))]
        simp
      · kat_tups
        refine ⟨by simp; omega, ?_⟩
        kat_tups
        refine ⟨stepG out a, .fz (.int a), hf, by omega, ?_⟩
        unfold stepG
        rw [he, if_pos (congrArg some hab)]
        simp
  · rintro δ' ⟨out, s, hf, hb, rfl⟩
    have e : out = nx row := hf
    subst e
    kat_tups
    try exact k
/-! good_row -/
inductive cGoodRow : List D → (D → Prop) → EK → Prop
  | mk {P : D → Prop} {E : EK} (row goods : List Int) (k : P (.bl (decide (RowOk row goods)))) : cGoodRow [rowL row, rowD goods] P E
theorem mo_cGoodRow : ∀ (ds : List D) (P P' : D → Prop) (E E' : EK), (∀ d, P d → P' d) → (∀ v ns es, E v ns es → E' v ns es) → cGoodRow ds P E → cGoodRow ds P' E' := by
  intro ds P P' E E' hp he h
  cases h with
  | mk row goods k => exact .mk row goods (by first | exact hp _ k | exact k.imp hp | (intros; apply hp; apply k <;> assumption))
theorem atI_map {is : List Int} {i : Nat} (h : i < is.length) : L2.atI (is.map D.int) (i : Int) = some (.int is[i]) := by
  unfold L2.atI ixN
  rw [if_pos (by omega), if_pos (by rw [List.length_map]; omega)]
  simp [h]
theorem atI_mapG {α : Type} {g : α → D} {is : List α} {i : Int} (h0 : 0 ≤ i) (h : i < is.length) : L2.atI (is.map g) i = some (g (is[i.toNat]'(by omega))) := by
  have hl : i.toNat < is.length := by omega
  unfold L2.atI ixN
  rw [if_pos h0, if_pos (by rw [List.length_map]; omega)]
  simp [hl]
abbrev S_good_row : Scp := { N := ["row", "goods", "k", "a"], sc := defScope (top 25), vs := [("row", 0), ("goods", 1), ("k", 2), ("a", 3)], ss := [("row", 0), ("goods", 1), ("k", 2), ("a", 3)], gl := ["enumerate"], lv := 1 }
theorem b_good_row {U : Env1} (hB : Blt U ["enumerate"])  (G H : Hp) (ds) (P) (E) (h : cGoodRow ds P E) : JSs S_good_row (U.cg G H fun _ => E) (defBody (top 25)) (startD S_good_row.N ds) { nx := fun _ => P .non, rt := P } := by
  obtain ⟨row, goods, k⟩ := h
  kat_tups
  simp only [tru, List.isEmpty_map]
  cases hr : row.isEmpty with
  | true =>
    have he : row = [] := by simpa using hr
    subst he
    have : decide (RowOk [] goods) = false := by simp [RowOk]
    rw [this] at k
    kat_tups
    try exact k
  | false =>
    have hne : row ≠ [] := fun z => by subst z; cases hr
    kat_tups
    refine eachD (fun d rest δ' => ∃ s t : Sl, δ' = [.fz (rowL row), .fz (rowD goods), s, t] ∧ (∀ x ∈ d, x.1 ∈ goods) ∧ ∀ i : Nat, i + 1 < d.length → ∀ (h : i + 1 < row.length), row[i] < row[i + 1]) src_enum ⟨_, _, rfl, by simp, by simp⟩ ?_ ?_
    · rintro d ⟨a, i⟩ rest δ' hx ⟨s, t, rfl, hg, ha⟩
      have hd : d.length = i ∧ row[i]? = some a := by
        have e1 : (row.zipIdx)[d.length]? = some (a, i) := by rw [hx]; simp
        rw [List.getElem?_zipIdx] at e1
        cases q : row[d.length]? with
        | none => rw [q] at e1; cases e1
        | some z =>
          rw [q] at e1
          simp at e1
          obtain ⟨rfl, rfl⟩ := e1
          exact ⟨rfl, q⟩
      obtain ⟨hdl, hai⟩ := hd
      have hi : i < row.length := (List.getElem?_eq_some_iff.mp hai).1
      have hai' : row[i] = a := (List.getElem?_eq_some_iff.mp hai).2
      have ham : a ∈ row := List.mem_of_getElem? hai
      kat_tups
      refine ite_nd (fun h1 => ?_) (fun h1 => ?_)
      · kat_tups
        have : decide (RowOk row goods) = false := by
          simp only [decide_eq_false_iff_not]
          exact fun z => h1 (z.2.2 a ham)
        rw [this] at k
        exact k
      have hg2 : ∀ x ∈ d ++ [(a, i)], x.1 ∈ goods := by
        intro x hx
        rcases List.mem_append.mp hx with q | q
        · exact hg x q
        · simp at q; subst q; exact h1
      kat_tups
      refine ite_d (fun h2 => ?_) (fun h2 => ?_)
      · kat_tups
        have hm : i - 1 < row.length := by omega
        have e3 := atI_map hm
        rw [show ((i - 1 : Nat) : Int) = (i : Int) - 1 by omega] at e3
        refine ixd_lst e3 ?_
        kat_tups
        refine ite_d (fun h3 => ?_) (fun h3 => ?_)
        · kat_tups
          have : decide (RowOk row goods) = false := by
            simp only [decide_eq_false_iff_not]
            intro z
            have := List.pairwise_iff_getElem.mp z.2.1 (i - 1) i hm hi (by omega)
            omega
          rw [this] at k
          exact k
        · kat_tups
          refine ⟨_, _, rfl, hg2, fun j hj hjr => ?_⟩
          by_cases e : j + 1 < d.length
          · exact ha j e hjr
          · simp at hj
            have : j + 1 = i := by omega
            subst this
            have : row[j + 1 - 1] = row[j] := by congr 1
            omega
      · kat_tups
        refine ⟨_, _, rfl, hg2, fun j hj hjr => ?_⟩
        simp at hj
        omega
    · rintro δ' ⟨s, t, rfl, hg, ha⟩
      kat_tups
      have : decide (RowOk row goods) = true := by
        simp only [decide_eq_true_eq]
        refine ⟨hne, ?_, fun a ham => ?_⟩
        · refine pairwise_of_next fun i hi => ha i (by simpa using hi) hi
        · obtain ⟨n, hn, e⟩ := List.mem_iff_getElem.mp ham
          exact hg (a, n) (List.mk_mem_zipIdx_iff_getElem?.mpr (by rw [List.getElem?_eq_getElem hn, e]))
      rw [this] at k
      exact k
/-! row_gaps, row_at -/
inductive cRowGaps : List D → (D → Prop) → EK → Prop
  | mk {P : D → Prop} {E : EK} (n : Int) (row : List Int) (h0 : row ≠ []) (hl : row.length ≤ 1000) (k : P (.lst ((gapsOf n row).map gapD))) : cRowGaps [.int n, rowD row] P E
theorem mo_cRowGaps : ∀ (ds : List D) (P P' : D → Prop) (E E' : EK), (∀ d, P d → P' d) → (∀ v ns es, E v ns es → E' v ns es) → cRowGaps ds P E → cRowGaps ds P' E' := by
  intro ds P P' E E' hp he h
  cases h with
  | mk n row h0 hl k => exact .mk n row h0 hl (by first | exact hp _ k | exact k.imp hp | (intros; apply hp; apply k <;> assumption))
abbrev S_row_gaps : Scp := { N := ["n", "row", "i", "j"], sc := defScope (top 26), vs := [("n", 0), ("row", 1)], ss := [("n", 0), ("row", 1)], gl := ["zip"], lv := 1 }
local macro_rules | `(tactic| k_offL) => `(tactic| ((with_reducible apply at_98); first | refine jf_je (jf_lc (S' := { N := S_row_gaps.N, sc := relS _ S_row_gaps.sc, vs := [("i", 2), ("j", 3), ("n", 0)], ss := [("i", 2), ("j", 3)], gl := [], lv := 1 }) (own := [("i", 2), ("j", 3)]) (ok_B (by decide +kernel) (by decide +kernel) rfl rfl rfl (by decide +kernel)) ?_)))
theorem b_row_gaps {U : Env1} (hB : Blt U ["zip"])  (G H : Hp) (ds) (P) (E) (h : cRowGaps ds P E) : JSs S_row_gaps (U.cg G H fun _ => E) (defBody (top 26)) (startD S_row_gaps.N ds) { nx := fun _ => P .non, rt := P } := by
  obtain ⟨n, row, h0, hl, k⟩ := h
  kat_tups
  refine cutA_tup ?_ ?_
  · rintro ⟨q, _⟩
    have : 0 < row.length := List.length_pos_iff.mpr h0
    rw [show HT.sIx row.length 0 (some 1) = min 1 row.length from HT.sIx_nat _ _ 1] at q
    omega
  rw [cutL_tail]
  kat_tups
  refine lcF (fun p : Int × Int => if p.1 + 2 ≤ p.2 then some (gapD (n, p.1, p.2)) else none) src_zip (by rw [List.length_zip]; omega) ?_ ?_
  · rintro ⟨i, j⟩ _
    kat_tups
    by_cases hg : i + 2 ≤ j
    · rw [decide_eq_true hg]
      kat_tups
      exact if_pos hg
    · rw [decide_eq_false hg]
      kat_tups
      exact if_neg hg
  · have e : (row.zip row.tail).filterMap (fun p : Int × Int => if p.1 + 2 ≤ p.2 then some (gapD (n, p.1, p.2)) else none) = (gapsOf n row).map gapD := by
      unfold gapsOf
      rw [List.map_filterMap]
      congr 1
      funext p
      split <;> rfl
    rw [e]
    exact k
inductive cRowAt : List D → (D → Prop) → EK → Prop
  | mk {P : D → Prop} {E : EK} (rows : List (List Int)) (n : Int) (h0 : 0 ≤ n) (k : P (rowD ((rows[n.toNat]?).getD []))) : cRowAt [.tup (rows.map rowD), .int n] P E
theorem mo_cRowAt : ∀ (ds : List D) (P P' : D → Prop) (E E' : EK), (∀ d, P d → P' d) → (∀ v ns es, E v ns es → E' v ns es) → cRowAt ds P E → cRowAt ds P' E' := by
  intro ds P P' E E' hp he h
  cases h with
  | mk rows n h0 k => exact .mk rows n h0 (by first | exact hp _ k | exact k.imp hp | (intros; apply hp; apply k <;> assumption))
abbrev S_row_at : Scp := { N := ["rows", "n"], sc := defScope (top 27), vs := [("rows", 0), ("n", 1)], ss := [("rows", 0), ("n", 1)], gl := ["len"], lv := 1 }
theorem b_row_at {U : Env1} (hB : Blt U ["len"])  (G H : Hp) (ds) (P) (E) (h : cRowAt ds P E) : JSs S_row_at (U.cg G H fun _ => E) (defBody (top 27)) (startD S_row_at.N ds) { nx := fun _ => P .non, rt := P } := by
  obtain ⟨rows, n, h0, k⟩ := h
  kat_tups
  rw [List.length_map]
  refine ite_d (fun h1 => ?_) (fun h1 => ?_)
  · kat_tups
    have hl : n.toNat < rows.length := by omega
    rw [List.getElem?_eq_getElem hl] at k
    exact ixd_tup (atI_mapG h0 h1) k
  · kat_tups
    rw [List.getElem?_eq_none (by omega)] at k
    exact k
/-! meet_rows -/
inductive cMeet : List D → (D → Prop) → EK → Prop
  | mk {P : D → Prop} {E : EK} (one two : List (List Int)) (hl : one.length ≤ 1000) (hm : ∀ r ∈ one, r.length ≤ 500) (k : P (.lst ((meetR [0] one two).map rowL))) : cMeet [.tup (one.map rowD), .tup (two.map rowD)] P E
def mrow (g r1 r2 : List Int) : List Int := r1.filter fun a => decide (a ∈ r2) && decide (a ∈ g)
end
set_option Elab.async false
set_option linter.all false
set_option maxRecDepth 100000
set_option maxHeartbeats 4000000
section
/-! the class Plan -/
theorem Pl.rowOk : ∀ {g : List Int} {d : List (List Int)} {r : List Int} {rest : List (List Int)}, Pl g (d ++ r :: rest) → RowOk r (((g :: d.map nx).getLast?).getD [])
  | g, [], r, rest, h => h.1
  | g, r0 :: d, r, rest, h => by
    have := Pl.rowOk (d := d) h.2
    rw [List.map_cons, List.getLast?_cons_cons]
    exact this
theorem zipIdx_split {α : Type} {xs : List α} {d rest : List (α × Nat)} {r : α} {i : Nat} (h : xs.zipIdx = d ++ (r, i) :: rest) : i = d.length ∧ xs = d.map (·.1) ++ r :: rest.map (·.1) := by
  have e1 : xs.zipIdx.map (·.1) = d.map (·.1) ++ r :: rest.map (·.1) := by rw [h]; simp
  have e2 : xs.zipIdx.map (·.1) = xs := by simp
  refine ⟨?_, e2.symm.trans e1⟩
  have e3 : (xs.zipIdx)[d.length]? = some (r, i) := by rw [h]; simp
  rw [List.getElem?_zipIdx] at e3
  cases q : xs[d.length]? with
  | none => rw [q] at e3; cases e3
  | some z =>
    rw [q] at e3
    simp at e3
    exact e3.2.symm
theorem metR_snoc (d : List (List Int)) (r : List Int) : metR (d ++ [r]) = metR d ++ [nx r] := by simp [metR]
inductive cPlan : List D → (List Str → List D → Prop) → EK → Prop
  | mk {P : List Str → List D → Prop} {E : EK} (rows : List (List Int)) (hr : PlanOk rows) (k : P ["go_rows", "met_rows"] [.tup (rows.map rowD), .tup ((metR rows).map rowD)]) : cPlan [.lst (rows.map rowL)] P E
theorem mo_cPlan : ∀ (ds : List D) (P P' : List Str → List D → Prop) (E E' : EK), (∀ ns d, P ns d → P' ns d) → (∀ v ns es, E v ns es → E' v ns es) → cPlan ds P E → cPlan ds P' E' := by
  intro ds P P' E E' hp he h
  cases h with
  | mk rows hr k => exact .mk rows hr (by first | exact hp _ _ k | (intros; apply hp; apply k <;> assumption))
abbrev S_Plan___init__ : Scp := { N := ["self", "rows", "met", "n", "row"], sc := defScope (mtop 30 0), vs := [("self", 0), ("rows", 1), ("met", 2), ("n", 3), ("row", 4)], ss := [("self", 0), ("rows", 1), ("met", 2), ("n", 3), ("row", 4)], gl := ["BadPlan", "MOST_LOOKS", "TooLong", "enumerate", "good_row", "len", "next_goods", "tuple"], lv := 2 }
local macro_rules | `(tactic| lsm_bools) => `(tactic| first | refine cGoodRow.mk _ _ ?_ | refine cNextG.mk _ (by first | assumption | omega | decide) ?_)
local macro_rules | `(tactic| k_offL) => `(tactic| ((with_reducible apply at_98); first | refine jf_je (jf_lc (S' := { N := S_Plan___init__.N, sc := relS _ S_Plan___init__.sc, vs := [("row", 4)], ss := [("row", 4)], gl := ["tuple"], lv := 2 }) (own := [("row", 4)]) (ok_B (by decide +kernel) (by decide +kernel) rfl rfl rfl (by decide +kernel)) ?_)))
theorem b_Plan___init__ {U : Env1} {CP : Addr} (hC : PlanC U CP) (hB : Blt U ["len", "enumerate", "tuple"]) (F_good_row : U.Def "good_row" 2 [] cGoodRow) (F_next_goods : U.Def "next_goods" 2 [] cNextG) (G H : Hp) (p : Addr) (ds) (P) (E) (h : cPlan ds P E) : JSs S_Plan___init__ (U.cg G H fun _ => E) (defBody (mtop 30 0)) (startI CP p S_Plan___init__.N ds) { nx := fun δ' => ∃ ns es r, δ' = .ob CP p ns es :: r ∧ P ns es, rt := fun _ => False } := by
  obtain ⟨hcl, hcm, hn1, hn2, hins, hne, hob, hsf, hml, hcy⟩ := hC
  obtain ⟨rows, hr, k⟩ := h
  have hl := hr.1
  have hs : 5000 < sizeLine := by decide
  kat_tups
  rw [List.length_map]
  kat_tups
  refine eachD (fun d rest δ' => ∃ s t : Sl, δ' = [.ob CP p [] [], .fz (.lst (rows.map rowL)), .ow ((metR (d.map (·.1))).map rowD), s, t] ∧ isOb s = false ∧ isOb t = false) src_enum ⟨_, _, rfl, rfl, rfl⟩ ?_ ?_
  · rintro d ⟨r, i⟩ rest δ' hx ⟨s, t, rfl, hs1, ht1⟩
    obtain ⟨rfl, e⟩ := zipIdx_split hx
    have ro := Pl.rowOk (by rw [← e]; exact hr.2)
    have hd : d.length < rows.length := by rw [e]; simp
    have hr13 : r.length ≤ 12 := by
      have := (Pl.mem hr (r := r) (by rw [e]; simp)).len
      omega
    have hlen : (metR (d.map (·.1))).length = d.length + 1 := by simp [metR]
    have hat : L2.atI ((metR (d.map (·.1))).map rowD) (d.length : Int) = some (rowD ((([0] :: (d.map (·.1)).map nx).getLast?).getD [])) := by
      rw [atI_mapG (by omega) (by rw [hlen]; omega)]
      congr 2
      rw [List.getLast?_eq_getElem?]
      simp [metR]
    kat_tups
    refine ⟨_, _, rfl, hat, ?_⟩
    dsimp only
    kat_tups
    refine ⟨by rw [List.length_map, hlen]; omega, ?_⟩
    kat_tups
    refine ⟨.fz (.int (d.length : Nat)), .fz (rowL r), ?_, rfl, rfl⟩
    rw [List.map_append, List.map_cons, List.map_nil, metR_snoc, List.map_append]
    rfl
  · rintro δ' ⟨s, t, rfl, hs1, ht1⟩
    have e : (rows.zipIdx.map (·.1)) = rows := by simp
    rw [e]
    kat_tups
    refine lcM rowD src_map (by omega) ?_ ?_
    · intro r _
      kat_tups
      try rfl
    · kat_tups
      exact ⟨_, _, _, rfl, k⟩
/-! its properties and methods -/
inductive cLongest (CP : Addr) : List D → (D → Prop) → EK → Prop
  | mk {P : D → Prop} {E : EK} (rows : List (List Int)) (k : P (.int rows.length)) : cLongest CP [plD CP rows] P E
theorem mo_cLongest {CP : Addr} : ∀ (ds : List D) (P P' : D → Prop) (E E' : EK), (∀ d, P d → P' d) → (∀ v ns es, E v ns es → E' v ns es) → (cLongest CP) ds P E → (cLongest CP) ds P' E' := by
  intro ds P P' E E' hp he h
  cases h with
  | mk rows k => exact .mk rows (by first | exact hp _ k | exact k.imp hp | (intros; apply hp; apply k <;> assumption))
abbrev S_Plan_longest : Scp := { N := ["self"], sc := defScope (mtop 30 1), vs := [("self", 0)], ss := [("self", 0)], gl := ["len"], lv := 1 }
theorem b_Plan_longest {U : Env1} {CP : Addr} (hC : PlanC U CP) (hB : Blt U ["len"])  (G H : Hp) (ds) (P) (E) (h : (cLongest CP) ds P E) : JSs S_Plan_longest (U.cg G H fun _ => E) (defBody (mtop 30 1)) (startD S_Plan_longest.N ds) { nx := fun _ => P .non, rt := P } := by
  obtain ⟨hcl, hcm, hn1, hn2, hins, hne, hob, hsf, hml, hcy⟩ := hC
  obtain ⟨rows, k⟩ := h
  kat_tups
  rw [List.length_map]
  try exact k
inductive cRows (CP : Addr) : List D → (D → Prop) → EK → Prop
  | mk {P : D → Prop} {E : EK} (rows : List (List Int)) (hl : rows.length ≤ 1000) (k : P (.lst (rows.map rowL))) : cRows CP [plD CP rows] P E
theorem mo_cRows {CP : Addr} : ∀ (ds : List D) (P P' : D → Prop) (E E' : EK), (∀ d, P d → P' d) → (∀ v ns es, E v ns es → E' v ns es) → (cRows CP) ds P E → (cRows CP) ds P' E' := by
  intro ds P P' E E' hp he h
  cases h with
  | mk rows hl k => exact .mk rows hl (by first | exact hp _ k | exact k.imp hp | (intros; apply hp; apply k <;> assumption))
abbrev S_Plan_rows : Scp := { N := ["self", "row"], sc := defScope (mtop 30 4), vs := [("self", 0)], ss := [("self", 0)], gl := [], lv := 1 }
local macro_rules | `(tactic| k_offL) => `(tactic| ((with_reducible apply at_98); first | refine jf_je (jf_lc (S' := { N := S_Plan_rows.N, sc := relS _ S_Plan_rows.sc, vs := [("row", 1)], ss := [("row", 1)], gl := ["list"], lv := 1 }) (own := [("row", 1)]) (ok_B (by decide +kernel) (by decide +kernel) rfl rfl rfl (by decide +kernel)) ?_)))
theorem b_Plan_rows {U : Env1} {CP : Addr} (hC : PlanC U CP) (hB : Blt U ["list"])  (G H : Hp) (ds) (P) (E) (h : (cRows CP) ds P E) : JSs S_Plan_rows (U.cg G H fun _ => E) (defBody (mtop 30 4)) (startD S_Plan_rows.N ds) { nx := fun _ => P .non, rt := P } := by
  obtain ⟨hcl, hcm, hn1, hn2, hins, hne, hob, hsf, hml, hcy⟩ := hC
  obtain ⟨rows, hl, k⟩ := h
  kat_tups
  refine lcM rowL src_map (by omega) ?_ ?_
  · intro r _
    kat_tups
    try rfl
  · try exact k
inductive cGaps (CP : Addr) : List D → (D → Prop) → EK → Prop
  | mk {P : D → Prop} {E : EK} (rows : List (List Int)) (hr : PlanOk rows) (k : P (.lst ((gapsR rows).map gapD))) : cGaps CP [plD CP rows] P E
theorem mo_cGaps {CP : Addr} : ∀ (ds : List D) (P P' : D → Prop) (E E' : EK), (∀ d, P d → P' d) → (∀ v ns es, E v ns es → E' v ns es) → (cGaps CP) ds P E → (cGaps CP) ds P' E' := by
  intro ds P P' E E' hp he h
  cases h with
  | mk rows hr k => exact .mk rows hr (by first | exact hp _ k | exact k.imp hp | (intros; apply hp; apply k <;> assumption))
theorem gapsOf_len (n : Int) (r : List Int) : (gapsOf n r).length ≤ r.length := by
  unfold gapsOf
  refine Nat.le_trans (List.length_filterMap_le _ _) ?_
  rw [List.length_zip]
  omega
theorem flat_len {α β : Type} {f : α → List β} {k : Nat} : ∀ {l : List α}, (∀ x ∈ l, (f x).length ≤ k) → (l.flatMap f).length ≤ k * l.length
  | [], _ => by simp
  | a :: l, h => by
    have ih := flat_len (l := l) fun x hx => h x (.tail _ hx)
    have h0 := h a (.head _)
    rw [List.flatMap_cons, List.length_append, List.length_cons, Nat.mul_succ]
    omega
abbrev S_Plan_gaps : Scp := { N := ["self", "n", "row", "gap"], sc := defScope (mtop 30 2), vs := [("self", 0)], ss := [("self", 0)], gl := ["enumerate"], lv := 2 }
local macro_rules | `(tactic| lsm_bools) => `(tactic| first | refine cRowGaps.mk _ _ (by first | assumption | omega | decide) (by first | assumption | omega | decide) ?_)
local macro_rules | `(tactic| k_offL) => `(tactic| ((with_reducible apply at_98); first | refine jf_je (jf_lc2 (S' := { N := S_Plan_gaps.N, sc := relS _ S_Plan_gaps.sc, vs := [("n", 1), ("row", 2), ("gap", 3)], ss := [("n", 1), ("row", 2), ("gap", 3)], gl := ["row_gaps"], lv := 2 }) (own := [("n", 1), ("row", 2), ("gap", 3)]) [3] (ok_B (by decide +kernel) (by decide +kernel) rfl rfl rfl (by decide +kernel)) (by rfl) ?_)))
theorem b_Plan_gaps {U : Env1} {CP : Addr} (hC : PlanC U CP) (hB : Blt U ["enumerate"]) (F_row_gaps : U.Def "row_gaps" 2 [] cRowGaps) (G H : Hp) (ds) (P) (E) (h : (cGaps CP) ds P E) : JSs S_Plan_gaps (U.cg G H fun _ => E) (defBody (mtop 30 2)) (startD S_Plan_gaps.N ds) { nx := fun _ => P .non, rt := P } := by
  obtain ⟨hcl, hcm, hn1, hn2, hins, hne, hob, hsf, hml, hcy⟩ := hC
  obtain ⟨rows, hr, k⟩ := h
  have hl := hr.1
  kat_tups
  refine lc2F (fun x : List Int × Nat => (gapsOf x.2 x.1).map gapD) src_enum ?_ ?_ ?_
  · refine Nat.le_trans (flat_len (k := 12) fun x hx => ?_) ?_
    · rw [List.length_map]
      have := gapsOf_len x.2 x.1
      have := (Pl.mem hr (List.mem_of_getElem? (List.mk_mem_zipIdx_iff_getElem?.mp (show (x.1, x.2) ∈ _ from hx)))).len
      omega
    · simp
      omega
  · rintro ⟨r, n⟩ hx acc kk hl2 hk
    have hrm : r ∈ rows := by
      have := List.mk_mem_zipIdx_iff_getElem?.mp hx
      exact List.mem_of_getElem? this
    have hg := Pl.mem hr hrm
    have hg1 := hg.len
    have hg2 := hg.1
    dsimp only
    kat_tups
    refine lcI some src_ds (by simpa using hl2) ?_ (by simpa using hk)
    intro d _
    kat_tups
    try rfl
  · have e : (rows.zipIdx.flatMap fun x : List Int × Nat => (gapsOf x.2 x.1).map gapD) = (gapsR rows).map gapD := by
      unfold gapsR
      rw [List.map_flatMap]
    rw [e]
    exact k
inductive cGapless (CP : Addr) : List D → (D → Prop) → EK → Prop
  | mk {P : D → Prop} {E : EK} (rows : List (List Int)) (hr : PlanOk rows) (k : P (.bl (decide (gapsR rows = [])))) : cGapless CP [plD CP rows] P E
inductive cGoPlaces (CP : Addr) : List D → (D → Prop) → EK → Prop
  | mk {P : D → Prop} {E : EK} (rows : List (List Int)) (hr : PlanOk rows) (k : P (.lst ((goP rows).map plcD))) : cGoPlaces CP [plD CP rows] P E
theorem mo_cGoPlaces {CP : Addr} : ∀ (ds : List D) (P P' : D → Prop) (E E' : EK), (∀ d, P d → P' d) → (∀ v ns es, E v ns es → E' v ns es) → (cGoPlaces CP) ds P E → (cGoPlaces CP) ds P' E' := by
  intro ds P P' E E' hp he h
  cases h with
  | mk rows hr k => exact .mk rows hr (by first | exact hp _ k | exact k.imp hp | (intros; apply hp; apply k <;> assumption))
theorem goP_len {rows : List (List Int)} (hr : PlanOk rows) : (goP rows).length ≤ 144 := by
  have hl := hr.1
  refine Nat.le_trans (flat_len (k := 12) fun x hx => ?_) ?_
  · rw [List.length_map]
    have := (Pl.mem hr (List.mem_of_getElem? (List.mk_mem_zipIdx_iff_getElem?.mp (show (x.1, x.2) ∈ _ from hx)))).len
    omega
  · simp
    omega
abbrev S_Plan_go_places : Scp := { N := ["self", "n", "row", "a"], sc := defScope (mtop 30 8), vs := [("self", 0)], ss := [("self", 0)], gl := ["enumerate"], lv := 1 }
local macro_rules | `(tactic| k_offL) => `(tactic| ((with_reducible apply at_98); first | refine jf_je (jf_lc2 (S' := { N := S_Plan_go_places.N, sc := relS _ S_Plan_go_places.sc, vs := [("n", 1), ("row", 2), ("a", 3)], ss := [("n", 1), ("row", 2), ("a", 3)], gl := [], lv := 1 }) (own := [("n", 1), ("row", 2), ("a", 3)]) [3] (ok_B (by decide +kernel) (by decide +kernel) rfl rfl rfl (by decide +kernel)) (by rfl) ?_)))
theorem b_Plan_go_places {U : Env1} {CP : Addr} (hC : PlanC U CP) (hB : Blt U ["enumerate"])  (G H : Hp) (ds) (P) (E) (h : (cGoPlaces CP) ds P E) : JSs S_Plan_go_places (U.cg G H fun _ => E) (defBody (mtop 30 8)) (startD S_Plan_go_places.N ds) { nx := fun _ => P .non, rt := P } := by
  obtain ⟨hcl, hcm, hn1, hn2, hins, hne, hob, hsf, hml, hcy⟩ := hC
  obtain ⟨rows, hr, k⟩ := h
  have hl := hr.1
  kat_tups
  refine lc2F (fun x : List Int × Nat => x.1.map fun a => plcD (a, x.2 - a)) src_enum ?_ ?_ ?_
  · have e : (rows.zipIdx.flatMap fun x : List Int × Nat => x.1.map fun a => plcD (a, x.2 - a)) = (goP rows).map plcD := by
      unfold goP
      rw [List.map_flatMap]
      simp only [List.map_map]
      rfl
    rw [e, List.length_map]
    have := goP_len hr
    omega
  · rintro ⟨r, n⟩ hx acc kk hl2 hk
    dsimp only at *
    kat_tups
    refine lcI (fun a => some (plcD (a, (n : Int) - a))) src_map (by simpa using hl2) ?_ (by simpa using hk)
    intro d _
    kat_tups
    try rfl
  · have e : (rows.zipIdx.flatMap fun x : List Int × Nat => x.1.map fun a => plcD (a, x.2 - a)) = (goP rows).map plcD := by
      unfold goP
      rw [List.map_flatMap]
      simp only [List.map_map]
      rfl
    rw [e]
    exact k
inductive cContains (CP : Addr) : List D → (D → Prop) → EK → Prop
  | mk {P : D → Prop} {E : EK} (rows : List (List Int)) (a b : Int) (h0 : 0 ≤ a + b) (k : P (.bl (inR rows a b))) : cContains CP [plD CP rows, plcD (a, b)] P E
theorem mo_cContains {CP : Addr} : ∀ (ds : List D) (P P' : D → Prop) (E E' : EK), (∀ d, P d → P' d) → (∀ v ns es, E v ns es → E' v ns es) → (cContains CP) ds P E → (cContains CP) ds P' E' := by
  intro ds P P' E E' hp he h
  cases h with
  | mk rows a b h0 k => exact .mk rows a b h0 (by first | exact hp _ k | exact k.imp hp | (intros; apply hp; apply k <;> assumption))
abbrev S_Plan___contains__ : Scp := { N := ["self", "place", "a", "b"], sc := defScope (mtop 30 13), vs := [("self", 0), ("place", 1), ("a", 2), ("b", 3)], ss := [("self", 0), ("place", 1), ("a", 2), ("b", 3)], gl := ["row_at"], lv := 2 }
local macro_rules | `(tactic| lsm_bools) => `(tactic| first | refine cRowAt.mk _ _ (by first | assumption | omega | decide) ?_)
theorem b_Plan___contains__ {U : Env1} {CP : Addr} (hC : PlanC U CP) (F_row_at : U.Def "row_at" 2 [] cRowAt) (G H : Hp) (ds) (P) (E) (h : (cContains CP) ds P E) : JSs S_Plan___contains__ (U.cg G H fun _ => E) (defBody (mtop 30 13)) (startD S_Plan___contains__.N ds) { nx := fun _ => P .non, rt := P } := by
  obtain ⟨hcl, hcm, hn1, hn2, hins, hne, hob, hsf, hml, hcy⟩ := hC
  obtain ⟨rows, a, b, h0, k⟩ := h
  kat_tups
  try exact k
inductive cWithin (CP : Addr) : List D → (D → Prop) → EK → Prop
  | mk {P : D → Prop} {E : EK} (one two : List (List Int)) (hr : PlanOk one) (k : P (.bl ((goP one).all fun p => inR two p.1 p.2))) : cWithin CP [plD CP one, plD CP two] P E
inductive cEq (CP : Addr) : List D → (D → Prop) → EK → Prop
  | mk {P : D → Prop} {E : EK} (one two : List (List Int)) (h1 : PlanOk one) (h2 : PlanOk two) (k : P (.bl (decide (one = two)))) : cEq CP [plD CP one, plD CP two] P E
theorem mo_cEq {CP : Addr} : ∀ (ds : List D) (P P' : D → Prop) (E E' : EK), (∀ d, P d → P' d) → (∀ v ns es, E v ns es → E' v ns es) → (cEq CP) ds P E → (cEq CP) ds P' E' := by
  intro ds P P' E E' hp he h
  cases h with
  | mk one two h1 h2 k => exact .mk one two h1 h2 (by first | exact hp _ k | exact k.imp hp | (intros; apply hp; apply k <;> assumption))
abbrev S_Plan___eq__ : Scp := { N := ["self", "other"], sc := defScope (mtop 30 15), vs := [("self", 0), ("other", 1)], ss := [("self", 0), ("other", 1)], gl := ["Plan", "isinstance"], lv := 1 }
theorem b_Plan___eq__ {U : Env1} {CP : Addr} (hC : PlanC U CP) (hB : Blt U ["isinstance"])  (G H : Hp) (ds) (P) (E) (h : (cEq CP) ds P E) : JSs S_Plan___eq__ (U.cg G H fun _ => E) (defBody (mtop 30 15)) (startD S_Plan___eq__.N ds) { nx := fun _ => P .non, rt := P } := by
  obtain ⟨hcl, hcm, hn1, hn2, hins, hne, hob, hsf, hml, hcy⟩ := hC
  obtain ⟨one, two, h1, h2, k⟩ := h
  kat_tups
  refine od_eqE (enc_tup (enc_tup enc_int)) (by decide) (x := one) (y := two) ?_
  try exact k
inductive cAnd (CP : Addr) : List D → (D → Prop) → EK → Prop
  | mk {P : D → Prop} {E : EK} (one two : List (List Int)) (h1 : PlanOk one) (hm : PlanOk (meetR [0] one two)) (k : P (plD CP (meetR [0] one two))) : cAnd CP [plD CP one, plD CP two] P E
/-! fill -/
def fillRow (r : List Int) : List Int := rgD (r.headD 0) (r.getLastD 0 + 1)
def fillR (rows : List (List Int)) : List (List Int) := rows.map fillRow
theorem rgD_mem {a b x : Int} : x ∈ rgD a b ↔ a ≤ x ∧ x < b := by
  unfold rgD
  simp only [List.mem_map, List.mem_range]
  constructor
  · rintro ⟨i, h, rfl⟩
    omega
  · rintro ⟨h1, h2⟩
    exact ⟨(x - a).toNat, by omega, by omega⟩
theorem rgD_asc {a b : Int} : Asc (rgD a b) := by
  refine pairwise_of_next fun i hi => ?_
  rw [rgD_get, rgD_get]
  omega
theorem rgD_ne {a b : Int} : rgD a b ≠ [] ↔ a < b := by
  rw [← List.length_pos_iff, rgD_len]
  omega
theorem nx_rgD {a b : Int} (h : a < b) : nx (rgD a b) = rgD a (b + 1) := by
  refine asc_ext (nx_asc rgD_asc) rgD_asc fun x => ?_
  rw [nx_mem, rgD_mem, rgD_mem, rgD_mem]
  omega
theorem headD_mem {r : List Int} (h : r ≠ []) : r.headD 0 ∈ r := by
  cases r with
  | nil => exact absurd rfl h
  | cons a r => exact .head _
theorem getLastD_mem {r : List Int} (h : r ≠ []) : r.getLastD 0 ∈ r := by
  have e : r.getLastD 0 = r.getLast h := by rw [List.getLastD_eq_getLast?, List.getLast?_eq_getLast h]; rfl
  rw [e]
  exact List.getLast_mem h
theorem headD_le {r : List Int} (ha : Asc r) {x : Int} (hx : x ∈ r) : r.headD 0 ≤ x := by
  cases r with
  | nil => cases hx
  | cons a r =>
    rcases List.mem_cons.mp hx with q | q
    · subst q; exact Int.le_refl _
    · have := (List.pairwise_cons.mp ha).1 x q
      show a ≤ x
      omega
theorem le_getLastD : ∀ {r : List Int}, Asc r → ∀ {x : Int}, x ∈ r → x ≤ r.getLastD 0
  | [], _, _, h => by cases h
  | [a], _, x, h => by simp at h; subst h; simp
  | a :: b :: r, ha, x, h => by
    have h1 := List.pairwise_cons.mp ha
    have e : (a :: b :: r).getLastD 0 = (b :: r).getLastD 0 := by simp [List.getLastD_eq_getLast?]
    rw [e]
    rcases List.mem_cons.mp h with q | q
    · subst q
      have h2 := le_getLastD h1.2 (x := b) (.head _)
      have h3 := h1.1 b (.head _)
      omega
    · exact le_getLastD h1.2 q
theorem fillRow_mem {r : List Int} {x : Int} : x ∈ fillRow r ↔ r.headD 0 ≤ x ∧ x ≤ r.getLastD 0 := by
  unfold fillRow
  rw [rgD_mem]
  omega
theorem sub_fillRow {r : List Int} (ha : Asc r) {x : Int} (hx : x ∈ r) : x ∈ fillRow r := fillRow_mem.mpr ⟨headD_le ha hx, le_getLastD ha hx⟩
theorem fillRow_asc {r : List Int} : Asc (fillRow r) := rgD_asc
inductive cFill (CP : Addr) : List D → (D → Prop) → EK → Prop
  | mk {P : D → Prop} {E : EK} (rows : List (List Int)) (hr : PlanOk rows) (k : P (plD CP (fillR rows))) : cFill CP [plD CP rows] P E
theorem atI_last {α : Type} {g : α → D} {xs : List α} {x : α} (h : xs.getLast? = some x) : L2.atI (xs.map g) (-1) = some (g x) := by
  have hne : xs ≠ [] := fun z => by subst z; cases h
  have hlen : 0 < xs.length := List.length_pos_iff.mpr hne
  unfold L2.atI ixN
  rw [if_neg (by decide), if_pos (by rw [List.length_map]; omega)]
  rw [List.getLast?_eq_getElem?] at h
  simp only [List.length_map, Option.bind_some, List.getElem?_map]
  rw [show (-1 + (xs.length : Int)).toNat = xs.length - 1 by omega, h]
  rfl
theorem atI_snoc {xs : List D} {d : D} : L2.atI (xs ++ [d]) (-1) = some d := by
  have := atI_last (g := id) (xs := xs ++ [d]) (x := d) (by simp)
  simpa using this
end
set_option Elab.async false
set_option linter.all false
set_option maxRecDepth 100000
set_option maxHeartbeats 4000000
section
/-! the error classes that this row asks -/
abbrev xMade : List Str := ["TooLong", "BadPlan"]
abbrev xRaised : List Str := ["TooLong", "BadPlan", "NotStop"]
abbrev xNames : List Str := ["TrialError", "BadPlan", "TooLong", "TooMany", "BadText", "BadEnds", "BadTelling", "BadVerdict", "BadCourse", "NotStop", "BadLot", "BadShare", "BadPoly", "BadFraction", "BadDesign", "HasGap", "Untold", "TooDeep", "BadPage", "Refused"]
end
set_option Elab.async false
set_option linter.all false
set_option maxRecDepth 100000
set_option maxHeartbeats 4000000
section
/-! the drawing of rows -/
/-- rows that are drawn, and the goods that they reach -/
structure PS (rs : List (List Int)) (g : List Int) : Prop where
  pl : Pl [0] rs
  gd : Gd rs.length g
  la : ((metR rs).getLast?).getD [] = g
theorem PS.nil : PS [] [0] := ⟨trivial, gd0, rfl⟩
theorem PS.snoc {rs : List (List Int)} {g r : List Int} (h : PS rs g) (hr : RowOk r g) : PS (rs ++ [r]) (nx r) := by
  refine ⟨pl_append h.pl ?_, ?_, ?_⟩
  · have e := h.la
    unfold metR at e
    rw [List.getLast?_cons] at e
    simp only [Option.getD_some] at e
    rw [e]
    exact hr
  · have := (hr.gd h.gd).nx
    simpa using this
  · simp [metR, List.getLast?_cons]
theorem PS.ok {rs : List (List Int)} {g : List Int} (h : PS rs g) (hl : rs.length ≤ 12) : PlanOk rs := ⟨hl, h.pl⟩
/-- all rows are runs -/
def Runs (rs : List (List Int)) : Prop := ∀ r ∈ rs, fillRow r = r
def GapPl (m : Int) (rs : List (List Int)) : Prop := PlanOk rs ∧ (rs.length : Int) ≤ max m 0 ∧ Runs rs
theorem fillRow_rgD {a b : Int} (h : a < b) : fillRow (rgD a b) = rgD a b := by
  refine asc_ext fillRow_asc rgD_asc fun x => ?_
  constructor
  · intro hx
    have hx := fillRow_mem.mp hx
    have hn := rgD_ne.mpr h
    have a1 := rgD_mem.mp (headD_mem hn)
    have a2 := rgD_mem.mp (getLastD_mem hn)
    exact rgD_mem.mpr (by omega)
  · exact sub_fillRow rgD_asc
theorem Runs.snoc {rs : List (List Int)} {r : List Int} (h : Runs rs) (hr : fillRow r = r) : Runs (rs ++ [r]) := by
  intro x hx
  rcases List.mem_append.mp hx with q | q
  · exact h x q
  · simp at q
    subst q
    exact hr
theorem runs_nil : Runs [] := fun _ h => by cases h
/-! _law_some -/
inductive cSome : List D → (List D → Prop) → EK → Prop
  | mk {P : List D → Prop} {E : EK} (cells : List Int) (hl : cells.length ≤ 63) (items : List Int) (hi : items.length ≤ 100) (k : ∀ out : List Int, out.Sublist items → (items ≠ [] → out ≠ []) → P (out.map .int)) : cSome [.sto cells, rowL items] P E
theorem mo_cSome : ∀ (ds : List D) (P P' : List D → Prop) (E E' : EK), (∀ d, P d → P' d) → (∀ v ns es, E v ns es → E' v ns es) → cSome ds P E → cSome ds P' E' := by
  intro ds P P' E E' hp he h
  cases h with
  | mk cells hl items hi k => exact .mk cells hl items hi (by first | exact hp _ k | exact k.imp hp | (intros; apply hp; apply k <;> assumption))
abbrev S__law_some : Scp := { N := ["store", "items", "out", "item"], sc := defScope (top 45), vs := [("store", 0), ("items", 1), ("out", 2), ("item", 3)], ss := [("store", 0), ("items", 1), ("out", 2), ("item", 3)], gl := ["_law_take", "len"], lv := 3 }
local macro_rules | `(tactic| lsm_bools) => `(tactic| first | refine cTake.mk _ (by first | assumption | omega | decide) _ (fun v hk1 hk2 => ?_))
theorem b__law_some {U : Env1} (hB : Blt U ["len"]) (F__law_take : U.Def "_law_take" 3 [] cTake) (G H : Hp) (ds) (P) (E) (h : cSome ds P E) : JSs S__law_some (U.cgF G H (fun _ => E) (RfL P)) (defBody (top 45)) (startD S__law_some.N ds) { nx := fun _ => False, rt := fun _ => False } := by
  obtain ⟨cells, hl, items, hi, k⟩ := h
  have hs : 5000 < sizeLine := by decide
  kat_tups
  refine eachD (fun d rest δ' => ∃ (out : List Int) (s : Sl), out.Sublist d ∧ δ' = [.fz (.sto cells), .fz (rowL items), .ow (out.map .int), s]) src_map ⟨[], _, List.nil_sublist _, rfl⟩ ?_ ?_
  · rintro d x rest δ' hx ⟨out, s, ho, rfl⟩
    have h1 : out.length ≤ d.length := ho.length_le
    have h2 : d.length < items.length := by rw [hx]; simp
    kat_tups
    refine ite_d (fun h3 => ?_) (fun h3 => ?_)
    · kat_tups
      refine ⟨by simp; omega, ?_⟩
      kat_tups
      exact ⟨out ++ [x], .fz (.int x), ho.append (List.Sublist.refl _), by rw [List.map_append]; rfl⟩
    · kat_tups
      exact ⟨out, .fz (.int x), ho.trans (List.sublist_append_left _ _), rfl⟩
  · rintro δ' ⟨out, s, ho, rfl⟩
    kat_tups
    simp only [List.length_map]
    refine ite_d (fun h3 => ?_) (fun h3 => ?_)
    · have ho0 : out = [] := List.length_eq_zero_iff.mp (by omega)
      subst ho0
      kat_tups
      simp only [List.length_map]
      refine ite_d (fun h4 => ?_) (fun h4 => ?_)
      · kat_tups
        rename_i v hv1 hv2
        simp only [List.length_map] at hv2
        have hv3 : v.toNat < items.length := by omega
        refine ixd_lst (atI_mapG hv1 (by omega)) ?_
        kat_tups
        refine ⟨by simp; omega, ?_⟩
        kat_tups
        exact k [items[v.toNat]] (List.singleton_sublist.mpr (List.getElem_mem _)) (fun _ => by simp)
      · kat_tups
        exact k [] (List.nil_sublist _) (fun z => absurd (List.length_pos_iff.mpr z) (by omega))
    · kat_tups
      exact k out ho (fun _ z => h3 (by subst z; rfl))
/-! _law_next_goods -/
inductive cNextL : List D → (List D → Prop) → EK → Prop
  | mk {P : List D → Prop} {E : EK} (goods : List Int) (ha : Asc goods) (hl : goods.length ≤ 1000) (k : P ((nx goods).map .int)) : cNextL [rowL goods] P E
theorem mo_cNextL : ∀ (ds : List D) (P P' : List D → Prop) (E E' : EK), (∀ d, P d → P' d) → (∀ v ns es, E v ns es → E' v ns es) → cNextL ds P E → cNextL ds P' E' := by
  intro ds P P' E E' hp he h
  cases h with
  | mk goods ha hl k => exact .mk goods ha hl (by first | exact hp _ k | exact k.imp hp | (intros; apply hp; apply k <;> assumption))
abbrev S__law_next_goods : Scp := { N := ["goods", "out", "a", "g"], sc := defScope (top 46), vs := [("goods", 0), ("out", 1), ("a", 2), ("g", 3)], ss := [("goods", 0), ("out", 1), ("a", 2), ("g", 3)], gl := [], lv := 1 }
theorem b__law_next_goods {U : Env1}  (G H : Hp) (ds) (P) (E) (h : cNextL ds P E) : JSs S__law_next_goods (U.cgF G H (fun _ => E) (RfL P)) (defBody (top 46)) (startD S__law_next_goods.N ds) { nx := fun _ => False, rt := fun _ => False } := by
  obtain ⟨goods, ha, hl, k⟩ := h
  have hs : 5000 < sizeLine := by decide
  kat_tups
  refine each (fun rest δ' => ∃ (out : List Int) (s t : Sl), rest.foldl stepN out = nx goods ∧ out.length + 2 * rest.length ≤ 2000 ∧ δ' = [.fz (rowL goods), .ow (out.map .int), s, t]) src_map ⟨[], _, _, foldN0 ha, by simp; omega, rfl⟩ ?_ ?_
  · rintro a rest δ' _ ⟨out, s, t, hf, hb, rfl⟩
    simp only [List.length_cons] at hb
    rw [List.foldl_cons] at hf
    have hb2 := stepN_len out a
    kat_tups
    refine each (fun r2 δ' => ∃ (o : List Int) (t : Sl), r2.foldl putN o = stepN out a ∧ o.length + r2.length ≤ out.length + 2 ∧ δ' = [.fz (rowL goods), .ow (o.map .int), .fz (.int a), t]) (src_map (xs := [a, a + 1]) (g := D.int)) ⟨out, _, rfl, by simp, rfl⟩ ?_ ?_
    · rintro g r2 δ' _ ⟨o, t, hf2, hb3, rfl⟩
      simp only [List.length_cons] at hb3
      rw [List.foldl_cons] at hf2
      kat_tups
      refine ite_nd (fun h3 => ?_) (fun h3 => ?_)
      · kat_tups
        refine ⟨by simp; omega, ?_⟩
        kat_tups
        rw [show putN o g = o ++ [g] from if_neg h3] at hf2
        exact ⟨o ++ [g], .fz (.int g), hf2, by simp; omega, by rw [List.map_append]; rfl⟩
      · kat_tups
        rw [show putN o g = o from if_pos h3] at hf2
        exact ⟨o, .fz (.int g), hf2, by omega, rfl⟩
    · rintro δ' ⟨o, t, hf2, hb3, rfl⟩
      have e : o = stepN out a := hf2
      subst e
      exact ⟨_, _, _, hf, by omega, rfl⟩
  · rintro δ' ⟨out, s, t, hf, hb, rfl⟩
    have e : out = nx goods := hf
    subst e
    kat_tups
    try exact k
/-! _law_fixed_rows, _law_until_rows -/
def fixedR (m : Int) : List (List Int) := (rgD 0 m).map fun n => rgD 0 (n + 1)
theorem ps_range {m : Nat} {f : Int → List Int} {g : Nat → List Int} (h0 : g 0 = [0]) (h : ∀ n : Nat, n < m → RowOk (f n) (g n) ∧ nx (f n) = g (n + 1)) : ∀ j, j ≤ m → PS ((rgD 0 j).map f) (g j)
  | 0, _ => by rw [h0]; exact .nil
  | j + 1, hj => by
    have e : rgD 0 ((j + 1 : Nat) : Int) = rgD 0 (j : Int) ++ [(j : Int)] := by
      refine asc_ext rgD_asc ?_ fun x => ?_
      · refine List.pairwise_append.mpr ⟨rgD_asc, by simp, fun x hx y hy => ?_⟩
        have := rgD_mem.mp hx
        simp at hy
        omega
      · rw [List.mem_append, rgD_mem, rgD_mem]
        simp
        omega
    rw [e, List.map_append]
    have := (ps_range h0 h j (by omega)).snoc (h j (by omega)).1
    rwa [(h j (by omega)).2] at this
theorem fixed_ps (m : Nat) : PS (fixedR m) (rgD 0 (m + 1)) := by
  refine ps_range (m := m) (f := fun n => rgD 0 (n + 1)) (g := fun n => rgD 0 (n + 1)) rfl (fun n _ => ⟨⟨rgD_ne.mpr (by omega), rgD_asc, fun a h => h⟩, ?_⟩) m (Nat.le_refl _)
  rw [nx_rgD (by omega)]
  rfl
theorem fixed_gap {m : Int} (h : m ≤ 12) : GapPl m (fixedR (max m 0)) := by
  obtain ⟨j, hj⟩ := Int.eq_ofNat_of_zero_le (show 0 ≤ max m 0 by omega)
  have p := fixed_ps j
  have hl : (fixedR (max m 0)).length = j := by unfold fixedR; rw [List.length_map, rgD_len, hj]; simp
  rw [← hj] at p
  refine ⟨p.ok (by omega), by omega, fun r hr => ?_⟩
  obtain ⟨n, hn, rfl⟩ := List.mem_map.mp hr
  have := rgD_mem.mp hn
  exact fillRow_rgD (by omega)
inductive cFixed : List D → (List D → Prop) → EK → Prop
  | mk {P : List D → Prop} {E : EK} (m : Int) (h1 : m ≤ 100) (h2 : -100 ≤ m) (k : P ((fixedR (max m 0)).map rowL)) : cFixed [.int m] P E
theorem mo_cFixed : ∀ (ds : List D) (P P' : List D → Prop) (E E' : EK), (∀ d, P d → P' d) → (∀ v ns es, E v ns es → E' v ns es) → cFixed ds P E → cFixed ds P' E' := by
  intro ds P P' E E' hp he h
  cases h with
  | mk m h1 h2 k => exact .mk m h1 h2 (by first | exact hp _ k | exact k.imp hp | (intros; apply hp; apply k <;> assumption))
theorem rgD_neg {m : Int} : rgD 0 m = rgD 0 (max m 0) := by
  unfold rgD
  congr 2
  omega
abbrev S__law_fixed_rows : Scp := { N := ["m", "n"], sc := defScope (top 47), vs := [("m", 0)], ss := [("m", 0)], gl := ["range"], lv := 1 }
local macro_rules | `(tactic| nest_fact) => `(tactic| ((with_reducible apply at_99); first | refine jf_lc (S' := { N := S__law_fixed_rows.N, sc := relS _ S__law_fixed_rows.sc, vs := [("n", 1)], ss := [("n", 1)], gl := ["list", "range"], lv := 1 }) (own := [("n", 1)]) (ok_B (by decide +kernel) (by decide +kernel) rfl rfl rfl (by decide +kernel)) ?_))
local macro_rules | `(tactic| k_offL) => `(tactic| ((with_reducible apply at_98); first | refine jf_je (jf_lc (S' := { N := S__law_fixed_rows.N, sc := relS _ S__law_fixed_rows.sc, vs := [("n", 1)], ss := [("n", 1)], gl := ["list", "range"], lv := 1 }) (own := [("n", 1)]) (ok_B (by decide +kernel) (by decide +kernel) rfl rfl rfl (by decide +kernel)) ?_)))
theorem b__law_fixed_rows {U : Env1} (hB : Blt U ["list", "range"])  (G H : Hp) (ds) (P) (E) (h : cFixed ds P E) : JSs S__law_fixed_rows (U.cgF G H (fun _ => E) (RfL P)) (defBody (top 47)) (startD S__law_fixed_rows.N ds) { nx := fun _ => False, rt := fun _ => False } := by
  obtain ⟨m, h1, h2, k⟩ := h
  kat_tups
  refine lcM (fun n : Int => rowL (rgD 0 (n + 1))) src_rg1 (by rw [rgD_len]; omega) ?_ ?_
  · intro n hn
    have := rgD_mem.mp hn
    kat_tups
    refine ⟨.of_le (by omega) (by omega) (by omega) (by omega), ?_⟩
    rfl
  · have e : ((rgD 0 m).map fun n : Int => rowL (rgD 0 (n + 1))) = (fixedR (max m 0)).map rowL := by
      unfold fixedR
      rw [List.map_map, rgD_neg]
      rfl
    rw [e]
    exact k
def untilR (a b : Int) : List (List Int) := (rgD 0 (a + b - 1)).map fun n => rgD (max 0 (n - b + 1)) (min (a - 1) n + 1)
theorem until_gap {a b : Int} (ha : 1 ≤ a) (hb : 1 ≤ b) (h : a + b - 1 ≤ 12) : GapPl (a + b - 1) (untilR a b) := by
  obtain ⟨j, hj⟩ := Int.eq_ofNat_of_zero_le (show 0 ≤ a + b - 1 by omega)
  have p := ps_range (m := j) (f := fun n => rgD (max 0 (n - b + 1)) (min (a - 1) n + 1)) (g := fun n => rgD (max 0 (n - b)) (min a n + 1)) (by
    rw [show max 0 (((0 : Nat) : Int) - b) = 0 by omega, show min a ((0 : Nat) : Int) + 1 = 1 by omega]
    rfl) (fun n hn => ⟨⟨rgD_ne.mpr (by omega), rgD_asc, fun x hx => ?_⟩, ?_⟩) j (Nat.le_refl _)
  · have hl : (untilR a b).length = j := by unfold untilR; rw [List.length_map, rgD_len, hj]; simp
    rw [← hj] at p
    refine ⟨PS.ok p (by show (untilR a b).length ≤ 12; omega), by show ((untilR a b).length : Int) ≤ _; omega, fun r hr => ?_⟩
    obtain ⟨n, hn, rfl⟩ := List.mem_map.mp hr
    have := rgD_mem.mp hn
    exact fillRow_rgD (by omega)
  · rw [rgD_mem] at *
    omega
  · rw [nx_rgD (by omega)]
    congr 1 <;> omega
inductive cUntil : List D → (List D → Prop) → EK → Prop
  | mk {P : List D → Prop} {E : EK} (a b : Int) (h1 : 1 ≤ a) (h2 : 1 ≤ b) (h3 : a + b ≤ 100) (k : P ((untilR a b).map rowL)) : cUntil [.int a, .int b] P E
theorem mo_cUntil : ∀ (ds : List D) (P P' : List D → Prop) (E E' : EK), (∀ d, P d → P' d) → (∀ v ns es, E v ns es → E' v ns es) → cUntil ds P E → cUntil ds P' E' := by
  intro ds P P' E E' hp he h
  cases h with
  | mk a b h1 h2 h3 k => exact .mk a b h1 h2 h3 (by first | exact hp _ k | exact k.imp hp | (intros; apply hp; apply k <;> assumption))
abbrev S__law_until_rows : Scp := { N := ["a", "b", "n"], sc := defScope (top 48), vs := [("a", 0), ("b", 1)], ss := [("a", 0), ("b", 1)], gl := ["range"], lv := 1 }
local macro_rules | `(tactic| nest_fact) => `(tactic| ((with_reducible apply at_99); first | refine jf_lc (S' := { N := S__law_until_rows.N, sc := relS _ S__law_until_rows.sc, vs := [("n", 2), ("a", 0), ("b", 1)], ss := [("n", 2)], gl := ["list", "max", "min", "range"], lv := 1 }) (own := [("n", 2)]) (ok_B (by decide +kernel) (by decide +kernel) rfl rfl rfl (by decide +kernel)) ?_))
local macro_rules | `(tactic| k_offL) => `(tactic| ((with_reducible apply at_98); first | refine jf_je (jf_lc (S' := { N := S__law_until_rows.N, sc := relS _ S__law_until_rows.sc, vs := [("n", 2), ("a", 0), ("b", 1)], ss := [("n", 2)], gl := ["list", "max", "min", "range"], lv := 1 }) (own := [("n", 2)]) (ok_B (by decide +kernel) (by decide +kernel) rfl rfl rfl (by decide +kernel)) ?_)))
theorem b__law_until_rows {U : Env1} (hB : Blt U ["list", "range", "max", "min"])  (G H : Hp) (ds) (P) (E) (h : cUntil ds P E) : JSs S__law_until_rows (U.cgF G H (fun _ => E) (RfL P)) (defBody (top 48)) (startD S__law_until_rows.N ds) { nx := fun _ => False, rt := fun _ => False } := by
  obtain ⟨a, b, h1, h2, h3, k⟩ := h
  kat_tups
  refine lcM (fun n : Int => rowL (rgD (max 0 (n - b + 1)) (min (a - 1) n + 1))) src_rg1 (by rw [rgD_len]; omega) ?_ ?_
  · intro n hn
    have := rgD_mem.mp hn
    kat_tups
    have e1 : (if n - b + 1 > 0 then n - b + 1 else 0) = max 0 (n - b + 1) := by split <;> omega
    have e2 : (if n < a - 1 then n else a - 1) = min (a - 1) n := by split <;> omega
    rw [e1, e2]
    refine ⟨.of_le (by omega) (by omega) (by omega) (by omega), ?_⟩
    rfl
  · have e : ((rgD 0 (a + b - 1)).map fun n : Int => rowL (rgD (max 0 (n - b + 1)) (min (a - 1) n + 1))) = (untilR a b).map rowL := by
      unfold untilR
      rw [List.map_map]
      rfl
    rw [e]
    exact k
/-! _law_band_rows -/
def bandRow (s t low high : Int) (k : Int) (g : List Int) : List Int := g.filter fun a => decide (low < s * a - t * (k - a) ∧ s * a - t * (k - a) < high)
inductive cBand : List D → (List D → Prop) → EK → Prop
  | mk {P : List D → Prop} {E : EK} (s t low high n : Int) (h1 : -1000 ≤ s ∧ s ≤ 1000) (h2 : -1000 ≤ t ∧ t ≤ 1000) (h3 : n ≤ 12) (h4 : 0 ≤ n) (k : ∀ rows : List (List Int), PlanOk rows → (rows.length : Int) ≤ n → P (rows.map rowL)) : cBand [.int s, .int t, .int low, .int high, .int n] P E
theorem mo_cBand : ∀ (ds : List D) (P P' : List D → Prop) (E E' : EK), (∀ d, P d → P' d) → (∀ v ns es, E v ns es → E' v ns es) → cBand ds P E → cBand ds P' E' := by
  intro ds P P' E E' hp he h
  cases h with
  | mk s t low high n h1 h2 h3 h4 k => exact .mk s t low high n h1 h2 h3 h4 (by first | exact hp _ k | exact k.imp hp | (intros; apply hp; apply k <;> assumption))
abbrev S__law_band_rows : Scp := { N := ["s", "t", "low", "high", "n", "out", "goods", "k", "row", "a"], sc := defScope (top 49), vs := [("s", 0), ("t", 1), ("low", 2), ("high", 3), ("n", 4), ("out", 5), ("goods", 6), ("k", 7), ("row", 8)], ss := [("s", 0), ("t", 1), ("low", 2), ("high", 3), ("n", 4), ("out", 5), ("goods", 6), ("k", 7), ("row", 8)], gl := ["_law_next_goods", "len", "range"], lv := 2 }
local macro_rules | `(tactic| lsm_bools) => `(tactic| first | refine cNextL.mk _ (by first | assumption | omega | decide) (by first | assumption | omega | decide) ?_)
local macro_rules | `(tactic| kd_addW) => `(tactic| ((with_reducible apply at_100); first | refine zs_setLc (S' := { N := S__law_band_rows.N, sc := relS _ S__law_band_rows.sc, vs := [("a", 9), ("high", 3), ("k", 7), ("low", 2), ("s", 0), ("t", 1)], ss := [("a", 9)], gl := [], lv := 2 }) (own := [("a", 9)]) (by ktu_offI) (ok_B (by decide +kernel) (by decide +kernel) rfl rfl rfl (by decide +kernel)) (by decide +kernel) ?_))
local macro_rules | `(tactic| kd_addW) => `(tactic| first | ((with_reducible apply at_101); refine zs_set (by ktu_offI) ?_))
theorem b__law_band_rows {U : Env1} (hB : Blt U ["range", "len"]) (F__law_next_goods : U.DefF "_law_next_goods" 2 [] cNextL) (G H : Hp) (ds) (P) (E) (h : cBand ds P E) : JSs S__law_band_rows (U.cgF G H (fun _ => E) (RfL P)) (defBody (top 49)) (startD S__law_band_rows.N ds) { nx := fun _ => False, rt := fun _ => False } := by
  obtain ⟨s, t, low, high, n, h1, h2, h3, h4, k⟩ := h
  have hs : 5000 < sizeLine := by decide
  kat_tups
  refine each (fun rest δ' => ∃ (rs : List (List Int)) (g : List Int) (s1 s2 s3 : Sl), PS rs g ∧ rs.length + rest.length = n.toNat ∧ (∀ x ∈ rest, (0 : Int) ≤ x ∧ x < 12) ∧ δ' = [.fz (.int s), .fz (.int t), .fz (.int low), .fz (.int high), .fz (.int n), .ow (rs.map rowL), .fz (rowL g), s1, s2, s3]) src_rg1 ?_ ?_ ?_
  · exact ⟨[], [0], _, _, _, .nil, by rw [rgD_len]; simp, fun x hx => by have := rgD_mem.mp hx; omega, rfl⟩
  · rintro kk rest δ' _ ⟨rs, g, s1, s2, s3, hp, hb, hx, rfl⟩
    simp only [List.length_cons] at hb
    have hk := hx kk (.head _)
    have hgl := hp.gd.len
    kat_tups
    refine lcF (fun a : Int => if low < s * a - t * (kk - a) ∧ s * a - t * (kk - a) < high then some (.int a) else none) src_map (by omega) ?_ ?_
    · intro a ha
      have ha2 := hp.gd.2.2 a ha
      kat_tups
      refine ite_d (fun h5 => ?_) (fun h5 => ?_)
      · kat_tups
        refine ite_d (fun h6 => ?_) (fun h6 => ?_)
        · kat_tups
          exact if_pos ⟨h5, h6⟩
        · exact if_neg fun z => h6 z.2
      · exact if_neg fun z => h5 z.1
    · rw [fm_if]
      have hsub : ∀ a ∈ g.filter (fun a => decide (low < s * a - t * (kk - a) ∧ s * a - t * (kk - a) < high)), a ∈ g := fun a ha => (List.mem_filter.mp ha).1
      have hasc : Asc (g.filter (fun a => decide (low < s * a - t * (kk - a) ∧ s * a - t * (kk - a) < high))) := hp.gd.2.1.filter _
      have hlen : (g.filter (fun a => decide (low < s * a - t * (kk - a) ∧ s * a - t * (kk - a) < high))).length ≤ g.length := List.length_filter_le _ _
      generalize g.filter (fun a => decide (low < s * a - t * (kk - a) ∧ s * a - t * (kk - a) < high)) = r at hsub hasc hlen
      kat_tups
      simp only [List.length_map]
      refine ite_d (fun h7 => ?_) (fun h7 => ?_)
      · kat_tups
        exact k rs (hp.ok (by omega)) (by omega)
      · have hr : RowOk r g := ⟨fun z => h7 (by subst z; rfl), hasc, hsub⟩
        kat_tups
        refine ⟨by rw [List.length_map]; omega, ?_⟩
        kat_tups
        exact ⟨rs ++ [r], nx r, _, _, _, hp.snoc hr, by simp; omega, fun x q => hx x (.tail _ q), by rw [List.map_append]; rfl⟩
  · rintro δ' ⟨rs, g, s1, s2, s3, hp, hb, hx, rfl⟩
    simp only [List.length_nil] at hb
    kat_tups
    exact k rs (hp.ok (by omega)) (by omega)
/-! _law_gapless_rows -/
theorem cutL_rgD {c d j k : Int} (h0 : 0 ≤ j) (h1 : j < k) (h2 : k ≤ d - c) : cutL (rgD c d) (some j) (some k) = rgD (c + j) (c + k) := by
  have hl : ((rgD c d).length : Int) = d - c := by rw [rgD_len]; omega
  rw [cutL_fromto h0 (by omega) (by omega) (by omega)]
  refine List.ext_getElem ?_ fun i g1 g2 => ?_
  · rw [List.length_take, List.length_drop, rgD_len, rgD_len]
    omega
  · rw [List.getElem_take, List.getElem_drop, rgD_get, rgD_get]
    omega
inductive cGapless0 : List D → (List D → Prop) → EK → Prop
  | mk {P : List D → Prop} {E : EK} (cells : List Int) (hl : cells.length ≤ 63) (many : Int) (h1 : many ≤ 12) (h2 : -100 ≤ many) (k : ∀ rows : List (List Int), GapPl many rows → (rows.length : Int) = max many 0 → P (rows.map rowL)) : cGapless0 [.sto cells, .int many] P E
theorem mo_cGapless0 : ∀ (ds : List D) (P P' : List D → Prop) (E E' : EK), (∀ d, P d → P' d) → (∀ v ns es, E v ns es → E' v ns es) → cGapless0 ds P E → cGapless0 ds P' E' := by
  intro ds P P' E E' hp he h
  cases h with
  | mk cells hl many h1 h2 k => exact .mk cells hl many h1 h2 (by first | exact hp _ k | exact k.imp hp | (intros; apply hp; apply k <;> assumption))
abbrev S__law_gapless_rows : Scp := { N := ["store", "many", "rows", "goods", "k", "low", "high", "kind"], sc := defScope (top 50), vs := [("store", 0), ("many", 1), ("rows", 2), ("goods", 3), ("k", 4), ("low", 5), ("high", 6), ("kind", 7)], ss := [("store", 0), ("many", 1), ("rows", 2), ("goods", 3), ("k", 4), ("low", 5), ("high", 6), ("kind", 7)], gl := ["_law_next_goods", "_law_take", "len", "range"], lv := 3 }
local macro_rules | `(tactic| lsm_bools) => `(tactic| first | refine cTake.mk _ (by first | assumption | omega | decide) _ (fun v hk1 hk2 => ?_) | refine cNextL.mk _ (by first | assumption | omega | decide) (by first | assumption | omega | decide) ?_)
local macro_rules | `(tactic| kd_addW) => `(tactic| first | ((with_reducible apply at_101); refine zs_set (by ktu_offI) ?_))
theorem b__law_gapless_rows {U : Env1} (hB : Blt U ["range", "len"]) (F__law_take : U.Def "_law_take" 3 [] cTake) (F__law_next_goods : U.DefF "_law_next_goods" 2 [] cNextL) (G H : Hp) (ds) (P) (E) (h : cGapless0 ds P E) : JSs S__law_gapless_rows (U.cgF G H (fun _ => E) (RfL P)) (defBody (top 50)) (startD S__law_gapless_rows.N ds) { nx := fun _ => False, rt := fun _ => False } := by
  obtain ⟨cells, hl, many, h1, h2, k⟩ := h
  have hs : 5000 < sizeLine := by decide
  kat_tups
  refine each (fun rest δ' => ∃ (rs : List (List Int)) (c d : Int) (s1 s2 s3 s4 : Sl), PS rs (rgD c d) ∧ c < d ∧ Runs rs ∧ rs.length + rest.length = many.toNat ∧ δ' = [.fz (.sto cells), .fz (.int many), .ow (rs.map rowL), .fz (rowL (rgD c d)), s1, s2, s3, s4]) src_rg1 ?_ ?_ ?_
  · exact ⟨[], 0, 1, _, _, _, _, .nil, by omega, runs_nil, by rw [rgD_len]; simp, rfl⟩
  · rintro kk rest δ' _ ⟨rs, c, d, s1, s2, s3, s4, hp, hcd, hru, hb, rfl⟩
    simp only [List.length_cons] at hb
    have hgl : ((rgD c d).length : Int) = d - c := by rw [rgD_len]; omega
    have fin : ∀ {j k : Int} {P' : List D → Prop} {E' : EK}, 0 ≤ j → j < k → k ≤ d - c → (cutL (rgD c d) (some j) (some k) = rgD (c + j) (c + k) → PS (rs ++ [rgD (c + j) (c + k)]) (rgD (c + j) (c + k + 1)) → Runs (rs ++ [rgD (c + j) (c + k)]) → P' ((rgD (c + j) (c + k + 1)).map .int)) → cNextL [.lst ((cutL (rgD c d) (some j) (some k)).map .int)] P' E' := by
      intro j k P' E' q1 q2 q3 q
      have hr : RowOk (rgD (c + j) (c + k)) (rgD c d) := ⟨rgD_ne.mpr (by omega), rgD_asc, fun a ha => by rw [rgD_mem] at *; omega⟩
      have h14 := hp.snoc hr
      rw [nx_rgD (by omega)] at h14
      have h13 := (hr.gd hp.gd).len
      have e := cutL_rgD q1 q2 q3
      rw [e]
      refine .mk _ rgD_asc (by omega) ?_
      rw [nx_rgD (by omega)]
      exact q e h14 (hru.snoc (fillRow_rgD (by omega)))
    kat_tups
    simp only [List.length_map, hgl]
    rename_i v hv1 hv2
    iterate 3 (all_goals (try (refine ite_d (fun h => ?_) (fun h => ?_) <;> kat_tups)))
    all_goals
      refine ⟨by rw [List.length_map]; omega, ?_⟩
      kat_tups
      refine ⟨_, _, rfl, atI_snoc, ?_⟩
      kat_tups
      refine fin ?_ ?_ ?_ ?_
      · omega
      · omega
      · omega
      intro e f1 f2
      rw [e]
      exact ⟨_, _, _, _, _, _, _, f1, by omega, f2, by simp; omega, by rw [List.map_append]; rfl⟩
  · rintro δ' ⟨rs, c, d, s1, s2, s3, s4, hp, hcd, hru, hb, rfl⟩
    simp only [List.length_nil] at hb
    kat_tups
    exact k rs ⟨hp.ok (by omega), by omega, hru⟩ (by omega)
end
set_option Elab.async false
set_option linter.all false
set_option maxRecDepth 100000
set_option maxHeartbeats 4000000
section
/-! _law_any_rows -/
inductive cAny : List D → (List D → Prop) → EK → Prop
  | mk {P : List D → Prop} {E : EK} (cells : List Int) (hl : cells.length ≤ 63) (many : Int) (h1 : many ≤ 12) (h2 : -100 ≤ many) (k : ∀ rows : List (List Int), PlanOk rows → (rows.length : Int) = max many 0 → P (rows.map rowL)) : cAny [.sto cells, .int many] P E
theorem mo_cAny : ∀ (ds : List D) (P P' : List D → Prop) (E E' : EK), (∀ d, P d → P' d) → (∀ v ns es, E v ns es → E' v ns es) → cAny ds P E → cAny ds P' E' := by
  intro ds P P' E E' hp he h
  cases h with
  | mk cells hl many h1 h2 k => exact .mk cells hl many h1 h2 (by first | exact hp _ k | exact k.imp hp | (intros; apply hp; apply k <;> assumption))
theorem sub_ok {out g : List Int} {k : Nat} (h : out.Sublist g) (hn : out ≠ []) (hg : Gd k g) : RowOk out g := ⟨hn, hg.2.1.sublist h, fun a ha => h.subset ha⟩
abbrev S__law_any_rows : Scp := { N := ["store", "many", "rows", "goods", "k"], sc := defScope (top 51), vs := [("store", 0), ("many", 1), ("rows", 2), ("goods", 3), ("k", 4)], ss := [("store", 0), ("many", 1), ("rows", 2), ("goods", 3), ("k", 4)], gl := ["_law_next_goods", "_law_some", "range"], lv := 4 }
local macro_rules | `(tactic| lsm_bools) => `(tactic| first | refine cSome.mk _ (by first | assumption | omega | decide) _ (by first | assumption | omega | decide) (fun out hk1 hk2 => ?_) | refine cNextL.mk _ (by first | assumption | omega | decide) (by first | assumption | omega | decide) ?_)
local macro_rules | `(tactic| kd_addW) => `(tactic| first | ((with_reducible apply at_101); refine zs_set (by ktu_offI) ?_))
theorem b__law_any_rows {U : Env1} (hB : Blt U ["range"]) (F__law_some : U.DefF "_law_some" 4 [] cSome) (F__law_next_goods : U.DefF "_law_next_goods" 2 [] cNextL) (G H : Hp) (ds) (P) (E) (h : cAny ds P E) : JSs S__law_any_rows (U.cgF G H (fun _ => E) (RfL P)) (defBody (top 51)) (startD S__law_any_rows.N ds) { nx := fun _ => False, rt := fun _ => False } := by
  obtain ⟨cells, hl, many, h1, h2, k⟩ := h
  have hs : 5000 < sizeLine := by decide
  kat_tups
  refine each (fun rest δ' => ∃ (rs : List (List Int)) (g : List Int) (s1 : Sl), PS rs g ∧ rs.length + rest.length = many.toNat ∧ δ' = [.fz (.sto cells), .fz (.int many), .ow (rs.map rowL), .fz (rowL g), s1]) src_rg1 ?_ ?_ ?_
  · exact ⟨[], [0], _, .nil, by rw [rgD_len]; simp, rfl⟩
  · rintro kk rest δ' _ ⟨rs, g, s1, hp, hb, rfl⟩
    simp only [List.length_cons] at hb
    have hgl := hp.gd.len
    kat_tups
    rename_i out ho1 ho2
    have ro := sub_ok ho1 (ho2 hp.gd.1) hp.gd
    have h13 := (ro.gd hp.gd).len
    have hasc := ro.2.1
    refine ⟨by rw [List.length_map]; omega, ?_⟩
    kat_tups
    refine ⟨_, _, rfl, atI_snoc, ?_⟩
    kat_tups
    exact ⟨rs ++ [out], nx out, _, hp.snoc ro, by simp; omega, by rw [List.map_append]; rfl⟩
  · rintro δ' ⟨rs, g, s1, hp, hb, rfl⟩
    simp only [List.length_nil] at hb
    kat_tups
    exact k rs (hp.ok (by omega)) (by omega)
/-! _law_gapped_rows -/
inductive cGapped : List D → (List D → Prop) → EK → Prop
  | mk {P : List D → Prop} {E : EK} (cells : List Int) (hl : cells.length ≤ 63) (many : Int) (h1 : many ≤ 12) (h2 : -100 ≤ many) (k : ∀ rows : List (List Int), PlanOk rows → (rows.length : Int) = max many 3 → P (rows.map rowL)) : cGapped [.sto cells, .int many] P E
theorem mo_cGapped : ∀ (ds : List D) (P P' : List D → Prop) (E E' : EK), (∀ d, P d → P' d) → (∀ v ns es, E v ns es → E' v ns es) → cGapped ds P E → cGapped ds P' E' := by
  intro ds P P' E E' hp he h
  cases h with
  | mk cells hl many h1 h2 k => exact .mk cells hl many h1 h2 (by first | exact hp _ k | exact k.imp hp | (intros; apply hp; apply k <;> assumption))
theorem GapPl.ps {m : Int} {rs : List (List Int)} (h : GapPl m rs) : PS rs (((metR rs).getLast?).getD []) := by
  have key : ∀ (rs : List (List Int)) (d : List (List Int)) (g : List Int), PS d g → Pl g rs → PS (d ++ rs) (((metR (d ++ rs)).getLast?).getD []) := by
    intro rs
    induction rs with
    | nil =>
      intro d g hd _
      rw [List.append_nil]
      exact ⟨hd.pl, by rw [hd.la]; exact hd.gd, rfl⟩
    | cons r rs ih =>
      intro d g hd hp
      have := ih (d ++ [r]) (nx r) (hd.snoc hp.1) hp.2
      rwa [List.append_assoc] at this
  exact key rs [] [0] .nil h.1.2
theorem metR_last {rs : List (List Int)} (h : rs ≠ []) : ((metR rs).getLast?).getD [] = nx (rs.getLast h) := by
  cases h2 : rs.reverse with
  | nil => exact absurd (List.reverse_eq_nil_iff.mp h2) h
  | cons x xs =>
    have e : rs = xs.reverse ++ [x] := by
      rw [← List.reverse_reverse rs, h2]
      simp
    subst e
    simp [metR, List.getLast?_cons]
abbrev S__law_gapped_rows : Scp := { N := ["store", "many", "at", "rows", "goods", "low", "high", "row", "k"], sc := defScope (top 52), vs := [("store", 0), ("many", 1), ("at", 2), ("rows", 3), ("goods", 4), ("low", 5), ("high", 6), ("row", 7), ("k", 8)], ss := [("store", 0), ("many", 1), ("at", 2), ("rows", 3), ("goods", 4), ("low", 5), ("high", 6), ("row", 7), ("k", 8)], gl := ["_law_fixed_rows", "_law_gapless_rows", "_law_next_goods", "_law_some", "_law_take", "len", "list", "max", "range"], lv := 4 }
local macro_rules | `(tactic| lsm_bools) => `(tactic| first | refine cTake.mk _ (by first | assumption | omega | decide) _ (fun v hk1 hk2 => ?_) | refine cGapless0.mk _ (by first | assumption | omega | decide) _ (by first | assumption | omega | decide) (by first | assumption | omega | decide) (fun rows hk1 hk2 => ?_) | refine cNextL.mk _ (by first | assumption | omega | decide) (by first | assumption | omega | decide) ?_ | refine cFixed.mk _ (by first | assumption | omega | decide) (by first | assumption | omega | decide) ?_ | refine cSome.mk _ (by first | assumption | omega | decide) _ (by first | assumption | omega | decide) (fun out hk1 hk2 => ?_))
local macro_rules | `(tactic| kd_addW) => `(tactic| first | ((with_reducible apply at_102); refine zs_setFL (by ktu_offI) ?_))
theorem b__law_gapped_rows {U : Env1} (hB : Blt U ["max", "len", "list", "range"]) (F__law_take : U.Def "_law_take" 3 [] cTake) (F__law_gapless_rows : U.DefF "_law_gapless_rows" 4 [] cGapless0) (F__law_next_goods : U.DefF "_law_next_goods" 2 [] cNextL) (F__law_fixed_rows : U.DefF "_law_fixed_rows" 2 [] cFixed) (F__law_some : U.DefF "_law_some" 4 [] cSome) (G H : Hp) (ds) (P) (E) (h : cGapped ds P E) : JSs S__law_gapped_rows (U.cgF G H (fun _ => E) (RfL P)) (defBody (top 52)) (startD S__law_gapped_rows.N ds) { nx := fun _ => False, rt := fun _ => False } := by
  obtain ⟨cells, hl, many, h1, h2, k⟩ := h
  have hs : 5000 < sizeLine := by decide
  kat_tups
  rename_i v hv1 hv2 rs0 hg0 hl0
  have em : (if many > 3 then many else 3) = max many 3 := by split <;> omega
  rw [em] at hv2
  rw [em]
  have hne : rs0 ≠ [] := fun z => by subst z; simp at hl0; omega
  have ps0 := hg0.ps
  rw [metR_last hne] at ps0
  have hok := Pl.mem hg0.1 (List.getLast_mem hne)
  have hok1 := hok.len
  have hok2 := hok.2.1
  refine ⟨_, _, rfl, atI_last (List.getLast?_eq_getLast hne), ?_⟩
  leaf_len
  refine zs_cut fun Q hQ => ?_
  have hq : ∀ (rs : List (List Int)) (g : List Int), PS rs g → (rs.length : Int) = 2 + v → 3 ≤ g.length → Q [.fz (.sto cells), .fz (.int (max many 3)), .fz (.int (2 + v)), .ow (rs.map rowL), .fz (rowL g), .no, .no, .no, .no] := by
    intro rs g hp hl1 hg3
    have hgl := hp.gd.len
    refine hQ _ ?_
    kat_tups
    rename_i lo hlo1 hlo2 dh hdh1 hdh2
    rw [List.length_map] at hlo2 hdh2
    rw [List.length_map]
    kat_tups
    refine eachD (fun d rest δ' => ∃ (row : List Int) (s1 : Sl), row.Sublist (g.take d.length) ∧ (lo < d.length → row ≠ []) ∧ δ' = [.fz (.sto cells), .fz (.int (max many 3)), .fz (.int (2 + v)), .ow (rs.map rowL), .fz (rowL g), .fz (.int lo), .fz (.int (lo + 2 + dh)), .ow (row.map .int), s1]) src_rg1 ⟨[], _, List.nil_sublist _, fun z => absurd z (by simp; omega), rfl⟩ ?_ ?_
    · rintro d kk rest δ' hx ⟨row, s1, hr1, hr2, rfl⟩
      have hk : kk = d.length ∧ d.length < g.length := by
        have e1 : (rgD 0 (g.length : Int))[d.length]? = some kk := by rw [hx]; simp
        have hi := (List.getElem?_eq_some_iff.mp e1).1
        have e2 := (List.getElem?_eq_some_iff.mp e1).2
        rw [rgD_get] at e2
        rw [rgD_len] at hi
        omega
      obtain ⟨rfl, hk2⟩ := hk
      have hrl := hr1.length_le
      rw [List.length_take] at hrl
      have et : g.take (d.length + 1) = g.take d.length ++ [g[d.length]] := by rw [List.take_add_one, List.getElem?_eq_getElem hk2]; rfl
      kat_tups
      iterate 5 (all_goals (try (refine ite_d (fun h => ?_) (fun h => ?_) <;> kat_tups)))
      all_goals first
        | refine ixd_lst (atI_mapG (by omega) (by omega)) ?_
          kat_tups
          refine ⟨by rw [List.length_map]; omega, ?_⟩
          kat_tups
          refine ⟨row ++ [g[d.length]], _, ?_, fun _ => by simp, by rw [List.map_append]; rfl⟩
          rw [List.length_append, List.length_singleton, et]
          exact hr1.append (List.Sublist.refl _)
        | refine ⟨row, _, ?_, fun q => hr2 (by rw [List.length_append, List.length_singleton] at q; omega), rfl⟩
          rw [List.length_append, List.length_singleton, et]
          exact hr1.trans (List.sublist_append_left _ _)
    · rintro δ' ⟨row, s1, hr1, hr2, rfl⟩
      have hlr : (rgD 0 (g.length : Int)).length = g.length := by rw [rgD_len]; omega
      rw [hlr, List.take_length] at hr1
      rw [hlr] at hr2
      have ro := sub_ok hr1 (hr2 (by omega)) hp.gd
      have h13 := (ro.gd hp.gd).len
      kat_tups
      refine ⟨by rw [List.length_map]; omega, ?_⟩
      kat_tups
      refine each (fun rest δ' => ∃ (rs : List (List Int)) (r : List Int) (s2 : Sl), PS (rs ++ [r]) (nx r) ∧ (rs.length : Int) + 1 + rest.length = max many 3 ∧ δ' = [.fz (.sto cells), .fz (.int (max many 3)), .fz (.int (2 + v)), .ow (rs.map rowL ++ [rowL r]), .fz (rowL g), .fz (.int lo), .fz (.int (lo + 2 + dh)), .fz (rowL row), s2]) src_rg ?_ ?_ ?_
      · exact ⟨rs, row, _, hp.snoc ro, by rw [rgD_len]; omega, rfl⟩
      · rintro kk rest δ' _ ⟨rs, r, s2, hp, hb, rfl⟩
        simp only [List.length_cons] at hb
        have hgl := hp.gd.len
        rw [List.length_append, List.length_singleton] at hgl
        have hgr : Gd 12 r := by
          have := hp.pl.get gd0 (n := rs.length) (r := r) (by simp)
          exact ⟨this.1, this.2.1, fun a ha => by have := this.2.2 a ha; omega⟩
        have hr13 := hgr.len
        have hra := hgr.2.1
        kat_tups
        refine ⟨_, _, rfl, atI_snoc, ?_⟩
        kat_tups
        rename_i out ho1 ho2
        have ro := sub_ok ho1 (ho2 hp.gd.1) hp.gd
        refine ⟨by simp; omega, ?_⟩
        kat_tups
        exact ⟨rs ++ [r], out, _, hp.snoc ro, by simp; omega, by rw [List.map_append]; rfl⟩
      · rintro δ' ⟨rs, r, s2, hp, hb, rfl⟩
        simp only [List.length_nil] at hb
        kat_tups
        have e : rs.map rowL ++ [rowL r] = (rs ++ [r]).map rowL := by rw [List.map_append]; rfl
        rw [e]
        exact k _ (hp.ok (by simp; omega)) (by simp; omega)
  kat_tups
  rw [List.length_map]
  refine ite_d (fun h3 => ?_) (fun h3 => ?_)
  · kat_tups
    refine ⟨.of_le (by omega) (by omega) (by omega) (by omega), ?_⟩
    have hpf := fixed_ps (2 + v).toNat
    rw [show (((2 + v).toNat : Nat) : Int) = 2 + v by omega] at hpf
    rw [show max (2 + v) 0 = 2 + v by omega]
    exact hq _ _ hpf (by unfold fixedR; rw [List.length_map, rgD_len]; omega) (by rw [rgD_len]; omega)
  · kat_tups
    exact hq _ _ ps0 (by omega) (by omega)
end
set_option Elab.async false
set_option linter.all false
set_option maxRecDepth 100000
set_option maxHeartbeats 4000000
section
/-! _law_gapless_plan, _law_rows -/
inductive cGaplessPlan : List D → (List D → Prop) → EK → Prop
  | mk {P : List D → Prop} {E : EK} (cells : List Int) (hl : cells.length ≤ 63) (most : Int) (h1 : most ≤ 12) (h2 : -100 ≤ most) (k : ∀ rows : List (List Int), GapPl most rows → P (rows.map rowL)) : cGaplessPlan [.sto cells, .int most] P E
theorem mo_cGaplessPlan : ∀ (ds : List D) (P P' : List D → Prop) (E E' : EK), (∀ d, P d → P' d) → (∀ v ns es, E v ns es → E' v ns es) → cGaplessPlan ds P E → cGaplessPlan ds P' E' := by
  intro ds P P' E E' hp he h
  cases h with
  | mk cells hl most h1 h2 k => exact .mk cells hl most h1 h2 (by first | exact hp _ k | exact k.imp hp | (intros; apply hp; apply k <;> assumption))
theorem GapPl.mono {m m' : Int} {rs : List (List Int)} (h : GapPl m rs) (hm : max m 0 ≤ max m' 0) : GapPl m' rs := ⟨h.1, by have := h.2.1; omega, h.2.2⟩
abbrev S__law_gapless_plan : Scp := { N := ["store", "most", "kind", "many", "a"], sc := defScope (top 53), vs := [("store", 0), ("most", 1), ("kind", 2), ("many", 3), ("a", 4)], ss := [("store", 0), ("most", 1), ("kind", 2), ("many", 3), ("a", 4)], gl := ["_law_between", "_law_fixed_rows", "_law_gapless_rows", "_law_take", "_law_until_rows", "min"], lv := 4 }
local macro_rules | `(tactic| lsm_bools) => `(tactic| first | refine cTake.mk _ (by first | assumption | omega | decide) _ (fun v hk1 hk2 => ?_) | refine cFixed.mk _ (by first | assumption | omega | decide) (by first | assumption | omega | decide) ?_ | refine cBetween.mk _ (by first | assumption | omega | decide) _ _ (fun v hk1 hk2 => ?_) | refine cUntil.mk _ _ (by first | assumption | omega | decide) (by first | assumption | omega | decide) (by first | assumption | omega | decide) ?_ | refine cGapless0.mk _ (by first | assumption | omega | decide) _ (by first | assumption | omega | decide) (by first | assumption | omega | decide) (fun rows hk1 hk2 => ?_))
theorem b__law_gapless_plan {U : Env1} (hB : Blt U ["min"]) (F__law_take : U.Def "_law_take" 3 [] cTake) (F__law_fixed_rows : U.DefF "_law_fixed_rows" 2 [] cFixed) (F__law_between : U.Def "_law_between" 4 [] cBetween) (F__law_until_rows : U.DefF "_law_until_rows" 2 [] cUntil) (F__law_gapless_rows : U.DefF "_law_gapless_rows" 4 [] cGapless0) (G H : Hp) (ds) (P) (E) (h : cGaplessPlan ds P E) : JSs S__law_gapless_plan (U.cgF G H (fun _ => E) (RfL P)) (defBody (top 53)) (startD S__law_gapless_plan.N ds) { nx := fun _ => False, rt := fun _ => False } := by
  obtain ⟨cells, hl, most, h1, h2, k⟩ := h
  have fx : ∀ m : Int, m ≤ max most 0 → P ((fixedR (max m 0)).map rowL) := fun m hm => by
    have := fixed_gap (m := m) (by omega)
    exact k _ ⟨this.1, by have := this.2.1; omega, this.2.2⟩
  kat_tups
  iterate 5 (all_goals (try (refine ite_d (fun h => ?_) (fun h => ?_) <;> kat_tups)))
  all_goals try (refine fx _ (by first | omega | (split <;> omega)))
  · rename_i v hv1 hv2 _ _ m hm1 hm2 _ a ha1 ha2
    have := until_gap (a := 1 + a) (b := m + 1 - (1 + a)) (by omega) (by omega) (by omega)
    exact k _ (this.mono (by omega))
  · rename_i v hv1 hv2 _ _ m hm1 hm2 _ rows hr _
    exact k _ (hr.mono (by omega))
inductive cRows0 : List D → (List D → Prop) → EK → Prop
  | mk {P : List D → Prop} {E : EK} (cells : List Int) (hl : cells.length ≤ 63) (most : Int) (h1 : most ≤ 12) (h2 : -100 ≤ most) (k : ∀ rows : List (List Int), PlanOk rows → (rows.length : Int) ≤ max most 0 → P (rows.map rowL)) : cRows0 [.sto cells, .int most] P E
theorem mo_cRows0 : ∀ (ds : List D) (P P' : List D → Prop) (E E' : EK), (∀ d, P d → P' d) → (∀ v ns es, E v ns es → E' v ns es) → cRows0 ds P E → cRows0 ds P' E' := by
  intro ds P P' E E' hp he h
  cases h with
  | mk cells hl most h1 h2 k => exact .mk cells hl most h1 h2 (by first | exact hp _ k | exact k.imp hp | (intros; apply hp; apply k <;> assumption))
abbrev S__law_rows : Scp := { N := ["store", "most", "kind", "lows"], sc := defScope (top 54), vs := [("store", 0), ("most", 1), ("kind", 2), ("lows", 3)], ss := [("store", 0), ("most", 1), ("kind", 2), ("lows", 3)], gl := ["_law_any_rows", "_law_band_rows", "_law_between", "_law_gapless_plan", "_law_gapped_rows", "_law_take"], lv := 5 }
local macro_rules | `(tactic| lsm_bools) => `(tactic| first | refine cTake.mk _ (by first | assumption | omega | decide) _ (fun v hk1 hk2 => ?_) | refine cGaplessPlan.mk _ (by first | assumption | omega | decide) _ (by first | assumption | omega | decide) (by first | assumption | omega | decide) (fun rows hk1 => ?_) | refine cAny.mk _ (by first | assumption | omega | decide) _ (by first | assumption | omega | decide) (by first | assumption | omega | decide) (fun rows hk1 hk2 => ?_) | refine cBetween.mk _ (by first | assumption | omega | decide) _ _ (fun v hk1 hk2 => ?_) | refine cBand.mk _ _ _ _ _ (by first | assumption | omega | decide) (by first | assumption | omega | decide) (by first | assumption | omega | decide) (by first | assumption | omega | decide) (fun rows hk1 hk2 => ?_) | refine cGapped.mk _ (by first | assumption | omega | decide) _ (by first | assumption | omega | decide) (by first | assumption | omega | decide) (fun rows hk1 hk2 => ?_))
local macro_rules | `(tactic| kd_addW) => `(tactic| first | ((with_reducible apply at_103); refine zs_set (by ktu_offI) ?_))
theorem b__law_rows {U : Env1} (F__law_take : U.Def "_law_take" 3 [] cTake) (F__law_gapless_plan : U.DefF "_law_gapless_plan" 5 [] cGaplessPlan) (F__law_any_rows : U.DefF "_law_any_rows" 5 [] cAny) (F__law_between : U.Def "_law_between" 4 [] cBetween) (F__law_band_rows : U.DefF "_law_band_rows" 3 [] cBand) (F__law_gapped_rows : U.DefF "_law_gapped_rows" 5 [] cGapped) (G H : Hp) (ds) (P) (E) (h : cRows0 ds P E) : JSs S__law_rows (U.cgF G H (fun _ => E) (RfL P)) (defBody (top 54)) (startD S__law_rows.N ds) { nx := fun _ => False, rt := fun _ => False } := by
  obtain ⟨cells, hl, most, h1, h2, k⟩ := h
  kat_tups
  iterate 5 (all_goals (try (refine ite_d (fun h => ?_) (fun h => ?_) <;> kat_tups)))
  · rename_i h
    exact k _ h.1 h.2.1
  · rename_i h
    exact k _ h.1 h.2.1
  · rename_i h1 h2
    exact k _ h1 (by omega)
  · rename_i h1 h2
    exact k _ h1 (by omega)
  · rename_i h1 h2
    exact k _ h1 (by omega)
inductive cCopy : List D → (List D → Prop) → EK → Prop
  | mk {P : List D → Prop} {E : EK} (rows : List (List Int)) (hl : rows.length ≤ 1000) (k : P (rows.map rowL)) : cCopy [.lst (rows.map rowL)] P E
theorem mo_cCopy : ∀ (ds : List D) (P P' : List D → Prop) (E E' : EK), (∀ d, P d → P' d) → (∀ v ns es, E v ns es → E' v ns es) → cCopy ds P E → cCopy ds P' E' := by
  intro ds P P' E E' hp he h
  cases h with
  | mk rows hl k => exact .mk rows hl (by first | exact hp _ k | exact k.imp hp | (intros; apply hp; apply k <;> assumption))
abbrev S__law_copy : Scp := { N := ["rows", "row"], sc := defScope (top 58), vs := [("rows", 0)], ss := [("rows", 0)], gl := [], lv := 1 }
local macro_rules | `(tactic| nest_fact) => `(tactic| ((with_reducible apply at_99); first | refine jf_lc (S' := { N := S__law_copy.N, sc := relS _ S__law_copy.sc, vs := [("row", 1)], ss := [("row", 1)], gl := ["list"], lv := 1 }) (own := [("row", 1)]) (ok_B (by decide +kernel) (by decide +kernel) rfl rfl rfl (by decide +kernel)) ?_))
local macro_rules | `(tactic| k_offL) => `(tactic| ((with_reducible apply at_98); first | refine jf_je (jf_lc (S' := { N := S__law_copy.N, sc := relS _ S__law_copy.sc, vs := [("row", 1)], ss := [("row", 1)], gl := ["list"], lv := 1 }) (own := [("row", 1)]) (ok_B (by decide +kernel) (by decide +kernel) rfl rfl rfl (by decide +kernel)) ?_)))
theorem b__law_copy {U : Env1} (hB : Blt U ["list"])  (G H : Hp) (ds) (P) (E) (h : cCopy ds P E) : JSs S__law_copy (U.cgF G H (fun _ => E) (RfL P)) (defBody (top 58)) (startD S__law_copy.N ds) { nx := fun _ => False, rt := fun _ => False } := by
  obtain ⟨rows, hl, k⟩ := h
  kat_tups
  refine lcM rowL src_map (by omega) ?_ ?_
  · intro r _
    kat_tups
    try rfl
  · try exact k
end
set_option Elab.async false
set_option linter.all false
set_option maxRecDepth 100000
set_option maxHeartbeats 4000000
section
/-! of_places; the stops of a plan -/
def tabM (f : Nat → List Int) : MT := .ls ((List.range 12).map fun n => .fzs ((f n).map .int))
theorem tabM_flat {f : Nat → List Int} : (tabM f).flat = .lst ((List.range 12).map fun n => rowL (f n)) := by
  unfold tabM MT.flat
  rw [flatL_map, List.map_map]
  congr 1
  refine List.map_congr_left fun n _ => ?_
  exact flat_fzs
theorem tabM_sub {f : Nat → List Int} {j : Nat} (h : j < 12) : (tabM f).sub [j] = some (.fzs ((f j).map .int)) := by
  unfold tabM
  rw [sub_one, List.getElem?_map, List.getElem?_range h]
  rfl
theorem tabM_put {f : Nat → List Int} {j : Nat} {a : Int} : MT.put (.ls (((f j).map .int).map .fz ++ [.fz (.int a)])) [j] (tabM f) = tabM fun n => if n = j then f n ++ [a] else f n := by
  unfold tabM
  rw [put_one, mapRange_set]
  congr 1
  refine List.map_congr_left fun n _ => ?_
  by_cases e : n = j
  · subst e
    simp
  · simp [e]
theorem tabM_congr {f g : Nat → List Int} (h : ∀ n, n < 12 → f n = g n) : tabM f = tabM g := by
  unfold tabM
  congr 1
  refine List.map_congr_left fun n hn => ?_
  rw [h n (List.mem_range.mp hn)]
/-- the goods of the places of length n -/
def foundAt (ps : List (Int × Int)) (n : Nat) : List Int := (ps.filter fun p => decide (p.1 + p.2 = (n : Int))).map (·.1)
theorem foundAt_mem {ps : List (Int × Int)} {n : Nat} {a : Int} : a ∈ foundAt ps n ↔ (a, (n : Int) - a) ∈ ps := by
  unfold foundAt
  simp only [List.mem_map, List.mem_filter, decide_eq_true_eq, Prod.exists, exists_and_right, exists_eq_right]
  constructor
  · rintro ⟨b, h, e⟩
    rw [show (n : Int) - a = b by omega]
    exact h
  · intro h
    exact ⟨_, h, by omega⟩
theorem foundAt_len (ps : List (Int × Int)) (n : Nat) : (foundAt ps n).length ≤ ps.length := by
  unfold foundAt
  rw [List.length_map]
  exact List.length_filter_le _ _
theorem foundAt_snoc (ps : List (Int × Int)) (a b : Int) (n : Nat) (h : 0 ≤ a + b) : foundAt (ps ++ [(a, b)]) n = if n = (a + b).toNat then foundAt ps n ++ [a] else foundAt ps n := by
  unfold foundAt
  rw [List.filter_append, List.map_append]
  by_cases e : n = (a + b).toNat
  · rw [if_pos e]
    rw [List.filter_cons, if_pos (by simp; omega)]
    rfl
  · rw [if_neg e]
    rw [List.filter_cons, if_neg (by simp; omega)]
    simp
theorem metR_at {rows : List (List Int)} {m : Nat} {r : List Int} (h : rows[m]? = some r) : (metR rows)[m + 1]? = some (nx r) := by
  unfold metR
  rw [List.getElem?_cons_succ, List.getElem?_map, h]
  rfl
theorem rowOk_at {rows : List (List Int)} (hr : PlanOk rows) {m : Nat} {r : List Int} (h : rows[m]? = some r) : RowOk r (((metR rows)[m]?).getD []) := by
  have key : ∀ (rows : List (List Int)) (g : List Int) (m : Nat), Pl g rows → rows[m]? = some r → RowOk r (((g :: rows.map nx)[m]?).getD []) := by
    intro rows
    induction rows with
    | nil => intro g m _ e; simp at e
    | cons r0 rs ih =>
      intro g m hp e
      cases m with
      | zero =>
        simp at e
        subst e
        exact hp.1
      | succ m => exact ih (nx r0) m hp.2 (by simpa using e)
  exact key rows [0] m hr.2 h
inductive cOfP (CP : Addr) : List D → (D → Prop) → EK → Prop
  | mk {P : D → Prop} {E : EK} (ps : List (Int × Int)) (rows : List (List Int)) (hr : PlanOk rows) (hl : ps.length ≤ 3000) (hm : ∀ p, p ∈ ps ↔ p ∈ goP rows) (k : P (plD CP rows)) : cOfP CP [.lst (ps.map plcD)] P E
theorem mo_cOfP {CP : Addr} : ∀ (ds : List D) (P P' : D → Prop) (E E' : EK), (∀ d, P d → P' d) → (∀ v ns es, E v ns es → E' v ns es) → (cOfP CP) ds P E → (cOfP CP) ds P' E' := by
  intro ds P P' E E' hp he h
  cases h with
  | mk ps rows hr hl hm k => exact .mk ps rows hr hl hm (by first | exact hp _ k | exact k.imp hp | (intros; apply hp; apply k <;> assumption))
abbrev S_of_places : Scp := { N := ["places", "table", "a", "b", "rows", "goods", "n", "found", "row", "spare"], sc := defScope (top 31), vs := [("places", 0), ("table", 1), ("a", 2), ("b", 3), ("rows", 4), ("goods", 5), ("n", 6), ("found", 7), ("row", 8)], ss := [("places", 0), ("table", 1), ("a", 2), ("b", 3), ("rows", 4), ("goods", 5), ("n", 6), ("found", 7), ("row", 8)], gl := ["BadPlan", "MOST_LOOKS", "Plan", "TooLong", "enumerate", "next_goods", "range", "set", "sorted"], lv := 4 }
local macro_rules | `(tactic| lsm_bools) => `(tactic| first | refine cNextG.mk _ (by first | assumption | omega | decide) ?_ | refine cPlan.mk _ (by first | assumption | omega | decide) ?_)
local macro_rules | `(tactic| kd_addW) => `(tactic| ((with_reducible apply at_100); first | refine zs_setLc (S' := { N := S_of_places.N, sc := relS _ S_of_places.sc, vs := [("spare", 9)], ss := [("spare", 9)], gl := [], lv := 4 }) (own := [("spare", 9)]) (by ktu_offI) (ok_B (by decide +kernel) (by decide +kernel) rfl rfl rfl (by decide +kernel)) (by decide +kernel) ?_))
local macro_rules | `(tactic| kd_addW) => `(tactic| first | ((with_reducible apply at_104); refine zs_setLcM (S' := { N := S_of_places.N, sc := relS _ S_of_places.sc, vs := [("spare", 9)], ss := [("spare", 9)], gl := [], lv := 4 }) (own := [("spare", 9)]) (by ktu_offI) (ok_B (by decide +kernel) (by decide +kernel) rfl rfl rfl (by decide +kernel)) (by decide +kernel) ?_))
theorem b_of_places {U : Env1} {CP : Addr} (hC : PlanC U CP) (hB : Blt U ["range", "enumerate", "sorted", "set"]) (F_next_goods : U.Def "next_goods" 2 [] cNextG) (F_Plan : MakeOk U.P U.w U.K U.mg U.base "Plan" CP 3 cPlan) (G H : Hp) (ds) (P) (E) (h : (cOfP CP) ds P E) : JSs S_of_places (U.cg G H fun _ => E) (defBody (top 31)) (startD S_of_places.N ds) { nx := fun _ => P .non, rt := P } := by
  obtain ⟨hcl, hcm, hn1, hn2, hins, hne, hob, hsf, hml, hcy⟩ := hC
  obtain ⟨ps, rows, hr, hl, hm, k⟩ := h
  have hs : 5000 < sizeLine := by decide
  have hrl := hr.1
  have inb : ∀ p ∈ ps, 0 ≤ p.1 + p.2 ∧ p.1 + p.2 < 12 := fun p hp => by
    obtain ⟨n, r, h1, h2, h3⟩ := goP_mem.mp ((hm p).mp hp)
    have := (List.getElem?_eq_some_iff.mp h1).1
    omega
  have rowm : ∀ n : Nat, ∀ ms : List Int, Asc ms → (∀ a, a ∈ ms ↔ a ∈ foundAt ps n) → ms = (rows[n]?).getD [] := fun n ms ha hmem => by
    have mem : ∀ a, a ∈ ms ↔ a ∈ (rows[n]?).getD [] := fun a => by
      rw [hmem a, foundAt_mem, hm, goP_mem]
      constructor
      · rintro ⟨n', r, h1, h2, h3⟩
        have : n' = n := by dsimp only at h3; omega
        subst this
        rw [h1]
        exact h2
      · intro h
        cases e : rows[n]? with
        | none => rw [e] at h; cases h
        | some r => rw [e] at h; exact ⟨n, r, e, h, by dsimp only; omega⟩
    refine asc_ext ha ?_ mem
    cases e : rows[n]? with
    | none => exact .nil
    | some r => exact (hr.2.get gd0 e).2.1
  kat_tups
  refine lcMM (fun _ => .fzs []) src_rg1 (by rw [rgD_len]; decide) ?_ ?_
  · intro x _
    kat_tups
    try rfl
  rw [show MT.ls ((rgD 0 12).map fun _ => MT.fzs []) = tabM (foundAt []) from rfl]
  kat_tups
  refine eachD (fun d rest δ' => ∃ s1 s2 : Sl, δ' = [.fz (.lst (ps.map plcD)), .mt (tabM (foundAt d)) [], s1, s2, .no, .no, .no, .no, .no, .no]) src_map ⟨_, _, rfl⟩ ?_ ?_
  · rintro d ⟨a, b⟩ rest δ' hx ⟨s1, s2, rfl⟩
    have hb := inb (a, b) (by rw [hx]; simp)
    dsimp only at *
    kat_tups
    refine ixM_at (j := (a + b).toNat) (by rfl) (by rfl) (ixN_in (by omega) (by rw [List.length_map, List.length_range]; omega)) ?_
    refine ownAt (by rfl) (tabM_sub (by omega)) ?_
    have hfl := foundAt_len d (a + b).toNat
    have hdl : d.length ≤ ps.length := by rw [hx]; simp
    kat_tups
    refine ⟨by simp; omega, ?_⟩
    rw [show ([] ++ [(a + b).toNat] : List Nat) = [(a + b).toNat] from rfl, tabM_put, tabM_congr (g := foundAt (d ++ [(a, b)])) (fun n _ => (foundAt_snoc d a b n hb.1).symm)]
    kat_tups
    exact ⟨_, _, rfl⟩
  · rintro δ' ⟨s1, s2, rfl⟩
    refine jss_frzM 1 (by rfl) ?_
    rw [tabM_flat]
    kat_tups
    refine eachD (fun d rest δ' => ∃ s2 s3 s6 s7 s8 : Sl, δ' = [.fz (.lst (ps.map plcD)), .fz (.lst ((List.range 12).map fun n => rowL (foundAt ps n))), s2, s3, .ow ((rows.take d.length).map rowL), .fz (rowD (((metR rows)[d.length]?).getD [])), s6, s7, s8, .no]) src_enum ⟨_, _, _, _, _, rfl⟩ ?_ ?_
    · rintro d ⟨m, i⟩ rest δ' hx ⟨s2, s3, s6, s7, s8, rfl⟩
      obtain ⟨rfl, e⟩ := zipIdx_split hx
      have hm0 : m = d.length := by
        have e1 : (List.range 12)[d.length]? = some m := by rw [e]; simp
        have h2 := (List.getElem?_eq_some_iff.mp e1).1
        rw [List.length_range] at h2
        rw [List.getElem?_range h2] at e1
        exact (Option.some.inj e1).symm
      subst hm0
      have hfl := foundAt_len ps d.length
      dsimp only
      kat_tups
      refine ⟨foundAt ps d.length, .inl rfl, by omega, fun ks nd hk => ?_, fun ms hms hmem => ?_⟩
      · refine Nat.lt_of_le_of_lt (nodup_len (lo := 0) (n := 20) nd fun a ha => ?_) (by decide)
        obtain ⟨n', r, h1, h2, h3⟩ := goP_mem.mp ((hm _).mp (foundAt_mem.mp (hk a ha)))
        have := (hr.2.get gd0 h1).2.2 a h2
        have := (List.getElem?_eq_some_iff.mp h1).1
        omega
      have e3 := rowm d.length ms hms hmem
      kat_tups
      have ginc : ∀ a ∈ ms, a ∈ ((metR rows)[d.length]?).getD [] := fun a ha => by
        rw [e3] at ha
        cases e4 : rows[d.length]? with
        | none => rw [e4] at ha; cases ha
        | some r => rw [e4] at ha; exact (rowOk_at hr e4).2.2 a ha
      refine each (fun r2 δ' => ∃ s2 : Sl, δ' = [.fz (.lst (ps.map plcD)), .fz (.lst ((List.range 12).map fun n => rowL (foundAt ps n))), s2, s3, .ow ((rows.take d.length).map rowL), .fz (rowD (((metR rows)[d.length]?).getD [])), .fz (.int (d.length : Nat)), .fz (rowL (foundAt ps d.length)), .fz (rowL ms), .no]) src_map ⟨_, rfl⟩ ?_ ?_
      · rintro a r2 δ' ha ⟨s2, rfl⟩
        have := ginc a ha
        kat_tups
        try exact ⟨_, rfl⟩
      · rintro δ' ⟨s2, rfl⟩
        kat_tups
        simp only [tru, List.isEmpty_map]
        cases e4 : rows[d.length]? with
        | none =>
          rw [e4] at e3
          have e5 : ms = [] := e3
          subst e5
          kat_tups
          have h1 : rows.length ≤ d.length := List.getElem?_eq_none_iff.mp e4
          rw [List.length_append, List.length_singleton, List.take_of_length_le h1, List.take_of_length_le (show rows.length ≤ d.length + 1 by omega), List.getElem?_eq_none (show (metR rows).length ≤ d.length + 1 by simp [metR]; omega)]
          exact ⟨_, _, _, _, _, rfl⟩
        | some r =>
          rw [e4] at e3
          have e5 : ms = r := e3
          subst e5
          have ro := rowOk_at hr e4
          have hl12 := (hr.2.get gd0 e4).len
          have hdl := (List.getElem?_eq_some_iff.mp e4).1
          have hne : ms.isEmpty = false := by
            cases ms with
            | nil => exact absurd rfl ro.1
            | cons _ _ => rfl
          rw [hne]
          kat_tups
          refine ⟨by simp; omega, ?_⟩
          kat_tups
          rw [List.length_append, List.length_singleton, metR_at e4, List.take_add_one, e4, List.map_append]
          exact ⟨_, _, _, _, _, rfl⟩
    · rintro δ' ⟨s2, s3, s6, s7, s8, rfl⟩
      rw [List.length_zipIdx, List.length_range, List.take_of_length_le (by omega)]
      kat_tups
      try exact k
end
set_option Elab.async false
set_option linter.all false
set_option maxRecDepth 100000
set_option maxHeartbeats 4000000
section
/-! plans as sets of places: plain facts -/
theorem pl_of : ∀ {rows : List (List Int)} {g : List Int}, (∀ (n : Nat) (r : List Int), rows[n]? = some r → RowOk r (((g :: rows.map nx)[n]?).getD [])) → Pl g rows
  | [], _, _ => trivial
  | r :: rs, g, h => ⟨h 0 r rfl, pl_of fun n r' e => h (n + 1) r' (by simpa using e)⟩
theorem Gd.at_ {rows : List (List Int)} (hr : PlanOk rows) {n : Nat} {r : List Int} (h : (metR rows)[n]? = some r) : Gd n r := by
  cases n with
  | zero =>
    cases h
    exact gd0
  | succ m =>
    unfold metR at h
    rw [List.getElem?_cons_succ, List.getElem?_map] at h
    cases e : rows[m]? with
    | none => rw [e] at h; cases h
    | some r0 =>
      rw [e] at h
      cases h
      have := (hr.2.get gd0 e).nx
      rwa [show 0 + m + 1 = m + 1 by omega] at this
/-- the rows of a set of places of lengths below L -/
def rowsOf (M : Int → Int → Bool) (L : Nat) : List (List Int) := (List.range L).map fun n : Nat => (rgD 0 ((n : Int) + 1)).filter fun a => M a ((n : Int) - a)
structure SetOk (M : Int → Int → Bool) (L : Nat) : Prop where
  le : L ≤ 12
  bd : ∀ a b, M a b = true → 0 ≤ a ∧ 0 ≤ b ∧ a + b < L
  ne : ∀ n : Nat, n < L → ∃ a, M a ((n : Int) - a) = true
  pr : ∀ a b, M a b = true → (a = 0 ∧ b = 0) ∨ M (a - 1) b = true ∨ M a (b - 1) = true
theorem rowsOf_len {M : Int → Int → Bool} {L : Nat} : (rowsOf M L).length = L := by simp [rowsOf]
theorem rowsOf_at {M : Int → Int → Bool} {L n : Nat} (h : n < L) : (rowsOf M L)[n]? = some ((rgD 0 ((n : Int) + 1)).filter fun a => M a ((n : Int) - a)) := by
  unfold rowsOf
  rw [List.getElem?_map, List.getElem?_range h]
  rfl
theorem SetOk.mem {M : Int → Int → Bool} {L n : Nat} (h : SetOk M L) {a : Int} : a ∈ (rgD 0 ((n : Int) + 1)).filter (fun a => M a ((n : Int) - a)) ↔ M a ((n : Int) - a) = true := by
  rw [List.mem_filter, rgD_mem]
  constructor
  · exact fun z => z.2
  · intro z
    have := h.bd _ _ z
    exact ⟨by omega, z⟩
theorem SetOk.plan {M : Int → Int → Bool} {L : Nat} (h : SetOk M L) : PlanOk (rowsOf M L) := by
  refine ⟨by rw [rowsOf_len]; exact h.le, pl_of fun n r e => ?_⟩
  have hn : n < L := by
    have := (List.getElem?_eq_some_iff.mp e).1
    rwa [rowsOf_len] at this
  rw [rowsOf_at hn] at e
  cases e
  refine ⟨fun z => ?_, (rgD_asc).filter _, fun a ha => ?_⟩
  · obtain ⟨a, ha⟩ := h.ne n hn
    have := (h.mem (n := n)).mpr ha
    rw [z] at this
    cases this
  · have ha := (h.mem (n := n)).mp ha
    have hb := h.bd _ _ ha
    cases n with
    | zero =>
      have : a = 0 := by simp at hb; omega
      subst this
      simp
    | succ m =>
      have hm : m < L := by omega
      rw [List.getElem?_cons_succ, List.getElem?_map, rowsOf_at hm]
      show a ∈ nx _
      rw [nx_mem, h.mem, h.mem]
      rcases h.pr _ _ ha with z | z | z
      · omega
      · right
        rw [show (m : Int) - (a - 1) = ((m + 1 : Nat) : Int) - a by omega]
        exact z
      · left
        rw [show (m : Int) - a = ((m + 1 : Nat) : Int) - a - 1 by omega]
        exact z
theorem SetOk.go {M : Int → Int → Bool} {L : Nat} (h : SetOk M L) (p : Int × Int) : M p.1 p.2 = true ↔ p ∈ goP (rowsOf M L) := by
  rw [goP_mem]
  constructor
  · intro z
    have hb := h.bd _ _ z
    have hn : (p.1 + p.2).toNat < L := by omega
    refine ⟨_, _, rowsOf_at hn, h.mem.mpr ?_, by omega⟩
    rw [show ((p.1 + p.2).toNat : Int) - p.1 = p.2 by omega]
    exact z
  · rintro ⟨n, r, e, hr, hs⟩
    have hn : n < L := by
      have := (List.getElem?_eq_some_iff.mp e).1
      rwa [rowsOf_len] at this
    rw [rowsOf_at hn] at e
    cases e
    have := h.mem.mp hr
    rwa [show (n : Int) - p.1 = p.2 by omega] at this
/-- two plans with the same go places -/
theorem rows_ext {one two : List (List Int)} (h1 : PlanOk one) (h2 : PlanOk two) (h : ∀ p, p ∈ goP one ↔ p ∈ goP two) : one = two := by
  have key : ∀ {one two : List (List Int)}, PlanOk one → PlanOk two → (∀ p, p ∈ goP one → p ∈ goP two) → ∀ (n : Nat) (r : List Int), one[n]? = some r → ∃ r2, two[n]? = some r2 ∧ ∀ a ∈ r, a ∈ r2 := by
    intro one two h1 h2 h n r e
    have hne := (h1.2.get gd0 e).1
    have st : ∀ a ∈ r, ∃ r2, two[n]? = some r2 ∧ a ∈ r2 := fun a ha => by
      obtain ⟨n', r2, q1, q2, q3⟩ := goP_mem.mp (h (a, (n : Int) - a) (goP_mem.mpr ⟨n, r, e, ha, by simp; omega⟩))
      have : n' = n := by dsimp only at q3; omega
      subst this
      exact ⟨r2, q1, q2⟩
    cases r with
    | nil => exact absurd rfl hne
    | cons a t =>
      obtain ⟨r2, q1, q2⟩ := st a (.head _)
      refine ⟨r2, q1, fun x hx => ?_⟩
      obtain ⟨r3, q3, q4⟩ := st x hx
      rw [q1] at q3
      cases q3
      exact q4
  refine List.ext_getElem? fun n => ?_
  cases e1 : one[n]? with
  | none =>
    cases e2 : two[n]? with
    | none => rfl
    | some r2 =>
      obtain ⟨r, q, _⟩ := key h2 h1 (fun p => (h p).mpr) n r2 e2
      rw [e1] at q
      cases q
  | some r =>
    obtain ⟨r2, q1, q2⟩ := key h1 h2 (fun p => (h p).mp) n r e1
    obtain ⟨r3, q3, q4⟩ := key h2 h1 (fun p => (h p).mpr) n r2 q1
    rw [e1] at q3
    cases q3
    rw [q1, asc_ext (h1.2.get gd0 e1).2.1 (h2.2.get gd0 q1).2.1 fun x => ⟨q2 x, q4 x⟩]
theorem goP_bd {rows : List (List Int)} (hr : PlanOk rows) {p : Int × Int} (h : p ∈ goP rows) : 0 ≤ p.1 ∧ 0 ≤ p.2 ∧ p.1 + p.2 < rows.length := by
  obtain ⟨n, r, e, h2, h3⟩ := goP_mem.mp h
  have := (hr.2.get gd0 e).2.2 _ h2
  have := (List.getElem?_eq_some_iff.mp e).1
  omega
/-- a reached place has a go place ahead of it -/
theorem met_pred {rows : List (List Int)} (hr : PlanOk rows) {n : Nat} {r : List Int} {a : Int} (e : (metR rows)[n]? = some r) (ha : a ∈ r) : (a = 0 ∧ (n : Int) - a = 0) ∨ (a - 1, (n : Int) - a) ∈ goP rows ∨ (a, (n : Int) - a - 1) ∈ goP rows := by
  cases n with
  | zero =>
    cases e
    simp at ha
    subst ha
    exact .inl ⟨rfl, rfl⟩
  | succ m =>
    unfold metR at e
    rw [List.getElem?_cons_succ, List.getElem?_map] at e
    cases e2 : rows[m]? with
    | none => rw [e2] at e; cases e
    | some r0 =>
      rw [e2] at e
      cases e
      rcases (nx_mem _ _).mp ha with q | q
      · exact .inr (.inr (goP_mem.mpr ⟨m, r0, e2, q, by simp; omega⟩))
      · exact .inr (.inl (goP_mem.mpr ⟨m, r0, e2, q, by simp; omega⟩))
theorem met_succ {rows : List (List Int)} {p : Int × Int} (h : p ∈ goP rows) : ∃ (n : Nat) (r : List Int), (metR rows)[n]? = some r ∧ p.1 ∈ r ∧ p.1 + 1 ∈ r ∧ (n : Int) = p.1 + p.2 + 1 := by
  obtain ⟨n, r, e, h2, h3⟩ := goP_mem.mp h
  exact ⟨n + 1, nx r, metR_at e, (nx_mem _ _).mpr (.inl h2), (nx_mem _ _).mpr (.inr (by simpa using h2)), by omega⟩
theorem go_pred {rows : List (List Int)} (hr : PlanOk rows) {p : Int × Int} (h : p ∈ goP rows) : (p.1 = 0 ∧ p.2 = 0) ∨ (p.1 - 1, p.2) ∈ goP rows ∨ (p.1, p.2 - 1) ∈ goP rows := by
  obtain ⟨n, r, e, h2, h3⟩ := goP_mem.mp h
  have ro := rowOk_at hr e
  cases e2 : (metR rows)[n]? with
  | none => rw [e2] at ro; exact absurd (ro.2.2 _ h2) (by simp)
  | some g =>
    rw [e2] at ro
    have := met_pred hr e2 (ro.2.2 _ h2)
    rwa [show (n : Int) - p.1 = p.2 by omega] at this
theorem take_ok0 {rows : List (List Int)} (hr : PlanOk rows) (m : Nat) : PlanOk (rows.take m) := by
  refine ⟨Nat.le_trans (List.length_take_le' _ _) hr.1, ?_⟩
  have key : ∀ (rows : List (List Int)) (g : List Int) (m : Nat), Pl g rows → Pl g (rows.take m) := by
    intro rows
    induction rows with
    | nil => intro g m h; simpa using h
    | cons r rs ih =>
      intro g m h
      cases m with
      | zero => trivial
      | succ m => exact ⟨h.1, ih _ _ h.2⟩
  exact key _ _ _ hr.2
/-- the stops -/
def stopsP (rows : List (List Int)) : List (Int × Int) := (metR rows).zipIdx.flatMap fun x => (x.1.filter fun a => !decide (a ∈ (rows[x.2]?).getD [])).map fun a => (a, x.2 - a)
theorem stopsP_mem {rows : List (List Int)} {p : Int × Int} : p ∈ stopsP rows ↔ ∃ (n : Nat) (r : List Int), (metR rows)[n]? = some r ∧ p.1 ∈ r ∧ p.1 ∉ (rows[n]?).getD [] ∧ p.1 + p.2 = n := by
  unfold stopsP
  simp only [List.mem_flatMap, List.mem_map, Prod.exists, List.mem_filter, Bool.not_eq_true', decide_eq_false_iff_not]
  constructor
  · rintro ⟨r, n, h, a, ⟨ha, hn⟩, e⟩
    subst e
    exact ⟨n, r, by simpa using (List.mk_mem_zipIdx_iff_getElem?.mp h), ha, hn, by simp; omega⟩
  · rintro ⟨n, r, h, ha, hn, e⟩
    exact ⟨r, n, List.mk_mem_zipIdx_iff_getElem?.mpr (by simpa using h), p.1, ⟨ha, hn⟩, by ext <;> simp; omega⟩
theorem stopsP_go {rows : List (List Int)} {p : Int × Int} (h : p ∈ stopsP rows) : p ∉ goP rows := by
  obtain ⟨n, r, e, h2, h3, h4⟩ := stopsP_mem.mp h
  intro z
  obtain ⟨n', r', e', h2', h4'⟩ := goP_mem.mp z
  have : n' = n := by omega
  subst this
  rw [e'] at h3
  exact h3 h2'
theorem metR_len (rows : List (List Int)) : (metR rows).length = rows.length + 1 := by simp [metR]
theorem stopsP_len {rows : List (List Int)} (hr : PlanOk rows) : (stopsP rows).length ≤ 169 := by
  have hl := hr.1
  refine Nat.le_trans (flat_len (k := 13) fun x hx => ?_) ?_
  · rw [List.length_map]
    refine Nat.le_trans (List.length_filter_le _ _) ?_
    have e := List.mk_mem_zipIdx_iff_getElem?.mp (show (x.1, x.2) ∈ _ from hx)
    have h1 := (Gd.at_ hr e).len
    have h2 := (List.getElem?_eq_some_iff.mp e).1
    rw [metR_len] at h2
    omega
  · rw [List.length_zipIdx, metR_len]
    omega
inductive cStops (CP : Addr) : List D → (D → Prop) → EK → Prop
  | mk {P : D → Prop} {E : EK} (rows : List (List Int)) (hr : PlanOk rows) (k : P (.lst ((stopsP rows).map plcD))) : cStops CP [plD CP rows] P E
theorem mo_cStops {CP : Addr} : ∀ (ds : List D) (P P' : D → Prop) (E E' : EK), (∀ d, P d → P' d) → (∀ v ns es, E v ns es → E' v ns es) → (cStops CP) ds P E → (cStops CP) ds P' E' := by
  intro ds P P' E E' hp he h
  cases h with
  | mk rows hr k => exact .mk rows hr (by first | exact hp _ k | exact k.imp hp | (intros; apply hp; apply k <;> assumption))
abbrev S_Plan_stops : Scp := { N := ["self", "n", "row", "a"], sc := defScope (mtop 30 7), vs := [("self", 0)], ss := [("self", 0)], gl := ["enumerate"], lv := 2 }
local macro_rules | `(tactic| lsm_bools) => `(tactic| first | refine cRowAt.mk _ _ (by first | assumption | omega | decide) ?_)
local macro_rules | `(tactic| k_offL) => `(tactic| ((with_reducible apply at_98); first | refine jf_je (jf_lc2 (S' := { N := S_Plan_stops.N, sc := relS _ S_Plan_stops.sc, vs := [("n", 1), ("row", 2), ("a", 3), ("self", 0)], ss := [("n", 1), ("row", 2), ("a", 3)], gl := ["row_at"], lv := 2 }) (own := [("n", 1), ("row", 2), ("a", 3)]) [3] (ok_B (by decide +kernel) (by decide +kernel) rfl rfl rfl (by decide +kernel)) (by rfl) ?_)))
theorem b_Plan_stops {U : Env1} {CP : Addr} (hC : PlanC U CP) (hB : Blt U ["enumerate"]) (F_row_at : U.Def "row_at" 2 [] cRowAt) (G H : Hp) (ds) (P) (E) (h : (cStops CP) ds P E) : JSs S_Plan_stops (U.cg G H fun _ => E) (defBody (mtop 30 7)) (startD S_Plan_stops.N ds) { nx := fun _ => P .non, rt := P } := by
  obtain ⟨hcl, hcm, hn1, hn2, hins, hne, hob, hsf, hml, hcy⟩ := hC
  obtain ⟨rows, hr, k⟩ := h
  have hl := hr.1
  kat_tups
  refine lc2F (fun x : List Int × Nat => (x.1.filter fun a => !decide (a ∈ (rows[x.2]?).getD [])).map fun a => plcD (a, x.2 - a)) src_enum ?_ ?_ ?_
  · have e : ((metR rows).zipIdx.flatMap fun x : List Int × Nat => (x.1.filter fun a => !decide (a ∈ (rows[x.2]?).getD [])).map fun a => plcD (a, x.2 - a)) = (stopsP rows).map plcD := by
      unfold stopsP
      rw [List.map_flatMap]
      simp only [List.map_map]
      rfl
    rw [e, List.length_map]
    have := stopsP_len hr
    omega
  · rintro ⟨r, n⟩ hx acc kk hl2 hk
    have hn := (List.getElem?_eq_some_iff.mp (List.mk_mem_zipIdx_iff_getElem?.mp hx)).1
    have ef : r.filterMap (fun a => if !decide (a ∈ (rows[n]?).getD []) = true then some (plcD (a, (n : Int) - a)) else none) = (r.filter fun a => !decide (a ∈ (rows[n]?).getD [])).map fun a => plcD (a, (n : Int) - a) := by
      rw [fm_if]
      simp
    dsimp only at *
    kat_tups
    refine lcI2 (fun a => if !decide (a ∈ (rows[n]?).getD []) = true then some (plcD (a, (n : Int) - a)) else none) src_map (by rw [ef]; exact hl2) ?_ (by rw [ef]; exact hk)
    intro d _
    kat_tups
    rw [show ((n : Int)).toNat = n from rfl]
    cases hd : decide (d ∈ (rows[n]?).getD []) with
    | true => exact L2.iteF (if_neg (by simp))
    | false =>
      refine L2.iteT ?_
      kat_tups
      try exact if_pos rfl
  · have e : ((metR rows).zipIdx.flatMap fun x : List Int × Nat => (x.1.filter fun a => !decide (a ∈ (rows[x.2]?).getD [])).map fun a => plcD (a, x.2 - a)) = (stopsP rows).map plcD := by
      unfold stopsP
      rw [List.map_flatMap]
      simp only [List.map_map]
      rfl
    rw [e]
    exact k
end
set_option Elab.async false
set_option linter.all false
set_option maxRecDepth 100000
set_option maxHeartbeats 4000000
section
/-! small defs of the laws; tables of own lists -/
local macro_rules | `(tactic| kct_strs) => `(tactic| first | (with_reducible refine od_inP ?_) | (with_reducible refine od_ninP ?_) | (with_reducible refine od_eqP ?_) | (with_reducible refine od_neP ?_))
theorem rgD_split {m : Int} {d rest : List Int} {x : Int} {a : Int} (h : rgD a m = d ++ x :: rest) : x = a + d.length ∧ a + d.length < m := by
  have hl : (rgD a m).length = d.length + rest.length + 1 := by rw [h]; simp; omega
  rw [rgD_len] at hl
  have hd : d.length < (rgD a m).length := by rw [h]; simp
  have e := rgD_get hd
  have e2 : (rgD a m)[d.length]? = some x := by rw [h]; simp
  rw [List.getElem?_eq_getElem hd, e] at e2
  exact ⟨(Option.some.inj e2).symm, by omega⟩
theorem goP_snoc (rs : List (List Int)) (r : List Int) : goP (rs ++ [r]) = goP rs ++ r.map fun a => (a, (rs.length : Int) - a) := by
  unfold goP
  rw [List.zipIdx_append, List.flatMap_append]
  simp
theorem take_snoc {α : Type} {xs : List α} {n : Nat} {x : α} (h : xs[n]? = some x) : xs.take (n + 1) = xs.take n ++ [x] := by rw [List.take_add_one, h]; rfl
inductive cPick : List D → (D → Prop) → EK → Prop
  | mk {P : D → Prop} {E : EK} (cells : List Int) (hl : cells.length ≤ 63) (ds : List D) (hd : ds ≠ []) (hn : ds.length ≤ 1000) (k : ∀ d : D, d ∈ ds → P d) : cPick [.sto cells, .lst ds] P E
theorem mo_cPick : ∀ (ds : List D) (P P' : D → Prop) (E E' : EK), (∀ d, P d → P' d) → (∀ v ns es, E v ns es → E' v ns es) → cPick ds P E → cPick ds P' E' := by
  intro ds P P' E E' hp he h
  cases h with
  | mk cells hl ds hd hn k => exact .mk cells hl ds hd hn (by first | exact hp _ k | exact k.imp hp | (intros; apply hp; apply k <;> assumption))
abbrev S__law_pick : Scp := { N := ["store", "items"], sc := defScope (top 44), vs := [("store", 0), ("items", 1)], ss := [("store", 0), ("items", 1)], gl := ["_law_take", "len"], lv := 3 }
local macro_rules | `(tactic| lsm_bools) => `(tactic| first | refine cTake.mk _ (by first | assumption | omega | decide) _ (fun v hk1 hk2 => ?_))
theorem b__law_pick {U : Env1} (hB : Blt U ["len"]) (F__law_take : U.Def "_law_take" 3 [] cTake) (G H : Hp) (ds) (P) (E) (h : cPick ds P E) : JSs S__law_pick (U.cg G H fun _ => E) (defBody (top 44)) (startD S__law_pick.N ds) { nx := fun _ => P .non, rt := P } := by
  obtain ⟨cells, hl, ds, hd, hn, k⟩ := h
  have h0 : 0 < ds.length := List.length_pos_iff.mpr hd
  kat_tups
  rename_i v hv1 hv2
  have hv : v.toNat < ds.length := by omega
  refine ixd_lst (d := ds[v.toNat]) ?_ (k _ (List.getElem_mem _))
  unfold L2.atI ixN
  rw [if_pos hv1, if_pos (by omega)]
  simp [hv]
inductive cGo : List D → (D → Prop) → EK → Prop
  | mk {P : D → Prop} {E : EK} (rows : List (List Int)) (hr : PlanOk rows) (k : P (.lst ((goP rows).map plcD))) : cGo [.lst (rows.map rowL)] P E
theorem mo_cGo : ∀ (ds : List D) (P P' : D → Prop) (E E' : EK), (∀ d, P d → P' d) → (∀ v ns es, E v ns es → E' v ns es) → cGo ds P E → cGo ds P' E' := by
  intro ds P P' E E' hp he h
  cases h with
  | mk rows hr k => exact .mk rows hr (by first | exact hp _ k | exact k.imp hp | (intros; apply hp; apply k <;> assumption))
abbrev S__law_go : Scp := { N := ["rows", "out", "n", "a"], sc := defScope (top 55), vs := [("rows", 0), ("out", 1), ("n", 2), ("a", 3)], ss := [("rows", 0), ("out", 1), ("n", 2), ("a", 3)], gl := ["len", "range"], lv := 1 }
theorem b__law_go {U : Env1} (hB : Blt U ["range", "len"])  (G H : Hp) (ds) (P) (E) (h : cGo ds P E) : JSs S__law_go (U.cg G H fun _ => E) (defBody (top 55)) (startD S__law_go.N ds) { nx := fun _ => P .non, rt := P } := by
  obtain ⟨rows, hr, k⟩ := h
  have hs : 5000 < sizeLine := by decide
  have hgl := goP_len hr
  have hrl := hr.1
  have hml : (rows.map rowL).length = rows.length := List.length_map _
  kat_tups
  refine eachD (fun d rest δ' => ∃ s2 s3 : Sl, δ' = [.fz (.lst (rows.map rowL)), .ow ((goP (rows.take d.length)).map plcD), s2, s3]) src_rg1 ⟨_, _, rfl⟩ ?_ ?_
  · rintro d x rest δ' hx ⟨s2, s3, rfl⟩
    obtain ⟨e1, e2⟩ := rgD_split hx
    simp only [Int.zero_add] at e1 e2
    subst e1
    rw [List.length_map] at e2
    have hd : d.length < rows.length := by omega
    have er := List.getElem?_eq_getElem hd
    have hg := hr.2.get gd0 er
    have hgl2 := goP_len (take_ok0 hr d.length)
    kat_tups
    refine ixd_lst (atI_mapG (by omega) (by omega)) ?_
    kat_tups
    refine eachD (fun d2 r2 δ' => ∃ s3 : Sl, δ' = [.fz (.lst (rows.map rowL)), .ow ((goP (rows.take d.length)).map plcD ++ d2.map fun a => plcD (a, (d.length : Int) - a)), .fz (.int (d.length : Nat)), s3]) src_map ⟨_, by rw [List.map_nil, List.append_nil]; rfl⟩ ?_ ?_
    · rintro d2 a r2 δ' hx2 ⟨s3, rfl⟩
      have hl2 : d2.length < 20 := by
        have := hg.len
        have h3 : rows[((d.length : Nat) : Int).toNat].length = d2.length + r2.length + 1 := by rw [hx2]; simp; omega
        have h4 : rows[((d.length : Nat) : Int).toNat] = rows[d.length] := rfl
        rw [h4] at h3
        omega
      kat_tups
      refine ⟨by simp; omega, ?_⟩
      kat_tups
      exact ⟨_, by rw [List.map_append, ← List.append_assoc]; rfl⟩
    · rintro δ' ⟨s3, rfl⟩
      rw [List.length_append, List.length_singleton, take_snoc er, goP_snoc, List.length_take, Nat.min_eq_left (by omega), List.map_append, List.map_map]
      exact ⟨_, _, rfl⟩
  · rintro δ' ⟨s2, s3, rfl⟩
    kat_tups
    rw [rgD_len, List.length_map, List.take_of_length_le (by omega)]
    exact k
/-- a table of L own lists -/
def tabL (L : Nat) (f : Nat → List Int) : MT := .ls ((List.range L).map fun n => .fzs ((f n).map .int))
theorem tabL_flat {L : Nat} {f : Nat → List Int} : (tabL L f).flat = .lst ((List.range L).map fun n => rowL (f n)) := by
  unfold tabL MT.flat
  rw [flatL_map, List.map_map]
  congr 1
  refine List.map_congr_left fun n _ => ?_
  exact flat_fzs
theorem tabL_sub {L : Nat} {f : Nat → List Int} {j : Nat} (h : j < L) : (tabL L f).sub [j] = some (.fzs ((f j).map .int)) := by
  unfold tabL
  rw [sub_one, List.getElem?_map, List.getElem?_range h]
  rfl
theorem tabL_put {L : Nat} {f : Nat → List Int} {j : Nat} {a : Int} : MT.put (.ls (((f j).map .int).map .fz ++ [.fz (.int a)])) [j] (tabL L f) = tabL L fun n => if n = j then f n ++ [a] else f n := by
  unfold tabL
  rw [put_one, mapRange_set]
  congr 1
  refine List.map_congr_left fun n _ => ?_
  by_cases e : n = j
  · subst e
    simp
  · simp [e]
theorem tabL_snoc {L : Nat} {f : Nat → List Int} (h : f L = []) : MT.ls (((List.range L).map fun n => MT.fzs ((f n).map .int)) ++ [.ls []]) = tabL (L + 1) f := by
  unfold tabL
  rw [List.range_succ, List.map_append, List.map_cons, List.map_nil, h]
  rfl
theorem tabL_congr {L : Nat} {f g : Nat → List Int} (h : ∀ n, n < L → f n = g n) : tabL L f = tabL L g := by
  unfold tabL
  congr 1
  refine List.map_congr_left fun n hn => ?_
  rw [h n (List.mem_range.mp hn)]
def rowAt (rows : List (List Int)) (n : Nat) : List Int := (rows[n]?).getD []
inductive cCopyM : List D → (MT → Prop) → EK → Prop
  | mk {P : MT → Prop} {E : EK} (rows : List (List Int)) (hl : rows.length ≤ 1000) (k : P (tabL rows.length (rowAt rows))) : cCopyM [.lst (rows.map rowL)] P E
end
set_option Elab.async false
set_option linter.all false
set_option maxRecDepth 100000
set_option maxHeartbeats 4000000
section
/-! tables of own lists: looked at, walked over and spoilt -/
section
variable {S : Scp} {Γ : Cg} {δ : List Sl} {P : D → Prop} {PL : List D → Prop} {PB : Bool → Prop} {N B C : List Sl → Prop} {R : D → Prop} {e : Expr} {L : Nat} {f : Nat → List Int} {pins : List (List Nat × Addr)}
abbrev tabD (L : Nat) (f : Nat → List Int) : D := .lst ((List.range L).map fun n => rowL (f n))
theorem jss_frzT (i : Nat) {sts : List Stmt} {Kp0 : Kp} (hδ : δ[i]? = some (.mt (tabL L f) pins)) (h : JSs S Γ sts (δ.set i (.fz (tabD L f))) Kp0) : JSs S Γ sts δ Kp0 := jss_frzM i hδ (by rw [tabL_flat]; exact h)
theorem ownT {i j : Nat} {PP : MT → List MT → Prop} (hδ : δ[i]? = some (.mt (tabL L f) pins)) (hj : j < L) (h : PP (tabL L f) (((f j).map .int).map .fz)) : OwnAt δ i [j] PP := ownAt hδ (tabL_sub hj) h
theorem n_mt {NN : List Sl → Prop} {i : Nat} {m m' : MT} {pp : List (List Nat × Addr)} (e : m = m') (h : NN (δ.set i (.mt m' pp))) : NN (δ.set i (.mt m pp)) := by
  rw [e]
  exact h
end
end
set_option Elab.async false
set_option linter.all false
set_option maxRecDepth 100000
set_option maxHeartbeats 4000000
section
/-! places in their order -/
abbrev lexB (x y : Int × Int) : Bool := decide (x.1 + x.2 < y.1 + y.2 ∨ (x.1 + x.2 = y.1 + y.2 ∧ x.1 ≤ y.1))
/-- the places sorted by their length, then by their goods -/
def inOrd (zs : List (Int × Int)) : List (Int × Int) := zs.mergeSort lexB
def lamOf : List Stmt → Option (Arguments × Expr × Scope)
  | [.Return (some (.Call _ _ [⟨_, .Lambda a b s _, _⟩] _)) _] => some (a, b, s)
  | _ => none
inductive cInOrder : List D → (D → Prop) → EK → Prop
  | mk {P : D → Prop} {E : EK} (zs : List (Int × Int)) (hl : zs.length ≤ 1000000) (k : P (.lst ((inOrd zs).map plcD))) : cInOrder [.lst (zs.map plcD)] P E
theorem mo_cInOrder : ∀ (ds : List D) (P P' : D → Prop) (E E' : EK), (∀ d, P d → P' d) → (∀ v ns es, E v ns es → E' v ns es) → cInOrder ds P E → cInOrder ds P' E' := by
  intro ds P P' E E' hp he h
  cases h with
  | mk zs hl k => exact .mk zs hl (by first | exact hp _ k | exact k.imp hp | (intros; apply hp; apply k <;> assumption))
abbrev S__law_in_order : Scp := { N := ["places", "z"], sc := defScope (top 56), vs := [("places", 0)], ss := [("places", 0)], gl := ["sorted"], lv := 3 }
theorem b__law_in_order {U : Env1} {cc PP : Addr} (hL : LamC U "_law_in_order" cc PP) (hB : Blt U ["sorted"])  (G H : Hp) (ds) (P) (E) (h : cInOrder ds P E) : JSs S__law_in_order (U.cgL (cc, PP, "_law_in_order" ++ ".<locals>.") G H fun _ => E) (defBody (top 56)) (startD S__law_in_order.N ds) { nx := fun _ => P .non, rt := P } := by
  obtain ⟨zs, hl, k⟩ := h
  refine zs_one (zs_ret (jf_je (zf_sortedLam (k1 := fun z => z.1 + z.2) (k2 := fun z => z.1) (zn := "z") hL (by ktu_offL) (by lcg_off) (by decide) ?_ ?_)))
  · refine ⟨fun _ _ _ _ _ => rfl, by decide +kernel, by decide +kernel, rfl, rfl, rfl, fun _ => rfl, fun _ => rfl, fun prog w A env pa z s Q E hs hz q => ?_⟩
    exact ev_pair (ev_add (ev_ix0 (by rw [hs]) (by unfold Env.kindOf; rw [hs]; decide +kernel) (by decide)) (ev_ix1 (by rw [hs]) (by unfold Env.kindOf; rw [hs]; decide +kernel) (by decide))) (ev_ix0 (by rw [hs]) (by unfold Env.kindOf; rw [hs]; decide +kernel) (by decide)) hz rfl rfl q
  · kat_tups
    exact ⟨zs, rfl, hl, k⟩
end
set_option Elab.async false
set_option linter.all false
set_option maxRecDepth 100000
set_option maxHeartbeats 4000000
section
/-! lists of places that are not a plan's: what bars them, and the rows -/
def longP (ps : List (Int × Int)) : Bool := ps.any fun p => decide (12 ≤ p.1 + p.2)
/-- the places that no member leads to -/
def unr (ps : List (Int × Int)) : List (Int × Int) := ps.filter fun z => decide (z ≠ (0, 0)) && (decide ((z.1 - 1, z.2) ∉ ps) && decide ((z.1, z.2 - 1) ∉ ps))
def leastL (l : List Int) : Int := l.foldr min (l.headD 0)
def badP (ps : List (Int × Int)) : Int := leastL ((unr ps).map fun z => z.1 + z.2)
def rowN (ps : List (Int × Int)) (n : Nat) : List Int := (rgD 0 ((n : Int) + 1)).filter fun a => decide ((a, (n : Int) - a) ∈ ps)
def rowsP (ps : List (Int × Int)) : List (List Int) := ((List.range 12).map (rowN ps)).filter fun r => !r.isEmpty
def gdN (ps : List (Int × Int)) : Nat → List Int
  | 0 => [0]
  | m + 1 => nx (rowN ps m)
def NnP (ps : List (Int × Int)) : Prop := ∀ p ∈ ps, 0 ≤ p.1 ∧ 0 ≤ p.2
theorem longP_iff {ps : List (Int × Int)} : longP ps = true ↔ ∃ p ∈ ps, 12 ≤ p.1 + p.2 := by
  unfold longP
  rw [List.any_eq_true]
  simp only [decide_eq_true_eq]
theorem longP_not {ps : List (Int × Int)} (h : ¬ longP ps = true) : ∀ p ∈ ps, p.1 + p.2 < 12 := fun p hp => by
  have := fun z : 12 ≤ p.1 + p.2 => h (longP_iff.mpr ⟨p, hp, z⟩)
  exact Int.not_le.mp this
theorem unr_mem {ps : List (Int × Int)} {z : Int × Int} : z ∈ unr ps ↔ z ∈ ps ∧ z ≠ (0, 0) ∧ (z.1 - 1, z.2) ∉ ps ∧ (z.1, z.2 - 1) ∉ ps := by
  unfold unr
  rw [List.mem_filter]
  simp only [Bool.and_eq_true, decide_eq_true_eq]
theorem rowN_mem {ps : List (Int × Int)} (h : NnP ps) {n : Nat} {a : Int} : a ∈ rowN ps n ↔ (a, (n : Int) - a) ∈ ps := by
  unfold rowN
  rw [List.mem_filter, rgD_mem]
  simp only [decide_eq_true_eq]
  constructor
  · exact fun z => z.2
  · intro z
    have := h _ z
    dsimp only at this
    exact ⟨by omega, z⟩
theorem rowN_asc {ps : List (Int × Int)} {n : Nat} : Asc (rowN ps n) := rgD_asc.filter _
theorem rowN_len {ps : List (Int × Int)} {n : Nat} : (rowN ps n).length ≤ n + 1 := by
  unfold rowN
  refine Nat.le_trans (List.length_filter_le _ _) ?_
  rw [rgD_len]
  omega
theorem rowN_congr {ps qs : List (Int × Int)} {n : Nat} (h : ∀ p, p ∈ ps ↔ p ∈ qs) : rowN ps n = rowN qs n := by
  unfold rowN
  refine List.filter_congr fun a _ => ?_
  exact decide_eq_decide.mpr (h _)
theorem rowN_nil {ps : List (Int × Int)} {n : Nat} (h : ∀ p ∈ ps, p.1 + p.2 ≠ (n : Int)) : rowN ps n = [] := by
  unfold rowN
  refine List.filter_eq_nil_iff.mpr fun a _ => ?_
  simp only [decide_eq_true_eq]
  intro z
  exact h _ z (by dsimp only; omega)
structure PsOk (ps : List (Int × Int)) : Prop where
  nn : NnP ps
  ln : ¬ longP ps = true
  un : unr ps = []
theorem PsOk.lt {ps : List (Int × Int)} (h : PsOk ps) {p : Int × Int} (hp : p ∈ ps) : p.1 + p.2 < 12 := longP_not h.ln p hp
theorem PsOk.pred {ps : List (Int × Int)} (h : PsOk ps) {p : Int × Int} (hp : p ∈ ps) : (p.1 = 0 ∧ p.2 = 0) ∨ (p.1 - 1, p.2) ∈ ps ∨ (p.1, p.2 - 1) ∈ ps := by
  have h1 : p ∉ unr ps := by rw [h.un]; simp
  rw [unr_mem] at h1
  refine Classical.byContradiction fun w => h1 ⟨hp, fun e => w (.inl (by rw [e]; exact ⟨rfl, rfl⟩)), fun q => w (.inr (.inl q)), fun q => w (.inr (.inr q))⟩
theorem PsOk.down {ps : List (Int × Int)} (h : PsOk ps) {n : Nat} (hn : rowN ps (n + 1) ≠ []) : rowN ps n ≠ [] := by
  obtain ⟨a, ha⟩ := List.exists_mem_of_ne_nil _ hn
  have hm := (rowN_mem h.nn).mp ha
  rcases h.pred hm with z | z | z
  · dsimp only at z; omega
  · have : a - 1 ∈ rowN ps n := (rowN_mem h.nn).mpr (by rwa [show (n : Int) - (a - 1) = ((n + 1 : Nat) : Int) - a by omega])
    exact List.ne_nil_of_mem this
  · have : a ∈ rowN ps n := (rowN_mem h.nn).mpr (by rwa [show (n : Int) - a = ((n + 1 : Nat) : Int) - a - 1 by omega])
    exact List.ne_nil_of_mem this
/-- the number of lengths that stand in the list -/
def cntP (ps : List (Int × Int)) : Nat := ((List.range 12).filter fun n => !(rowN ps n).isEmpty).length
theorem filter_down {f : Nat → Bool} (h : ∀ n, f (n + 1) = true → f n = true) : ∀ m, (List.range m).filter f = List.range ((List.range m).filter f).length
  | 0 => rfl
  | m + 1 => by
    rw [List.range_succ, List.filter_append]
    cases e : f m with
    | true =>
      have all : ∀ k, f (m - k) = true := fun k => by
        induction k with
        | zero => exact e
        | succ k ih =>
          by_cases q : m - k = 0
          · rwa [show m - (k + 1) = m - k by omega]
          · exact h _ (by rwa [show m - (k + 1) + 1 = m - k by omega])
      have e2 : (List.range m).filter f = List.range m := List.filter_eq_self.mpr fun x hx => by
        have := all (m - x)
        rwa [show m - (m - x) = x by have := List.mem_range.mp hx; omega] at this
      rw [e2]
      simp [e, List.range_succ]
    | false => simpa [e] using filter_down h m
theorem PsOk.rows {ps : List (Int × Int)} (h : PsOk ps) : rowsP ps = rowsOf (fun a b => decide ((a, b) ∈ ps)) (cntP ps) ∧ cntP ps ≤ 12 ∧ ∀ n, rowN ps n ≠ [] ↔ n < cntP ps := by
  have fd : ∀ n, (!(rowN ps (n + 1)).isEmpty) = true → (!(rowN ps n).isEmpty) = true := fun n q => by
    have := h.down (n := n) (by simpa using q)
    simpa using this
  have e := filter_down (f := fun n => !(rowN ps n).isEmpty) fd 12
  have hc : cntP ps ≤ 12 := Nat.le_trans (List.length_filter_le _ _) (by simp)
  have e' : (List.range 12).filter (fun n => !(rowN ps n).isEmpty) = List.range (cntP ps) := e
  refine ⟨?_, hc, fun n => ?_⟩
  · unfold rowsP rowsOf
    rw [List.filter_map]
    have : ((fun r => !List.isEmpty r) ∘ rowN ps) = fun n => !(rowN ps n).isEmpty := rfl
    rw [this, e']
    rfl
  · have hm : n ∈ (List.range 12).filter (fun n => !(rowN ps n).isEmpty) ↔ n < cntP ps := by rw [e', List.mem_range]
    rw [← hm, List.mem_filter, List.mem_range]
    constructor
    · intro q
      refine ⟨?_, by simpa using q⟩
      obtain ⟨a, ha⟩ := List.exists_mem_of_ne_nil _ q
      have := h.lt ((rowN_mem h.nn).mp ha)
      dsimp only at this
      omega
    · intro q
      simpa using q.2
theorem PsOk.set {ps : List (Int × Int)} (h : PsOk ps) : SetOk (fun a b => decide ((a, b) ∈ ps)) (cntP ps) := by
  obtain ⟨_, h2, h3⟩ := h.rows
  refine ⟨h2, fun a b hab => ?_, fun n hn => ?_, fun a b hab => ?_⟩
  · have hm := of_decide_eq_true hab
    have hb := h.nn _ hm
    dsimp only at hb
    refine ⟨hb.1, hb.2, ?_⟩
    have : (a + b).toNat < cntP ps := (h3 _).mp (List.ne_nil_of_mem (a := a) ((rowN_mem h.nn).mpr (by rwa [show ((a + b).toNat : Int) - a = b by omega])))
    omega
  · obtain ⟨a, ha⟩ := List.exists_mem_of_ne_nil _ ((h3 n).mpr hn)
    exact ⟨a, decide_eq_true ((rowN_mem h.nn).mp ha)⟩
  · simp only [decide_eq_true_eq]
    exact h.pred (of_decide_eq_true hab)
theorem PsOk.plan {ps : List (Int × Int)} (h : PsOk ps) : PlanOk (rowsP ps) := by
  rw [h.rows.1]
  exact h.set.plan
theorem PsOk.go {ps : List (Int × Int)} (h : PsOk ps) (p : Int × Int) : p ∈ ps ↔ p ∈ goP (rowsP ps) := by
  rw [h.rows.1, ← h.set.go p]
  simp only [decide_eq_true_eq]
/-- a set of places with the go places of a plan -/
theorem psOk_of {ps : List (Int × Int)} {rows : List (List Int)} (hr : PlanOk rows) (h : ∀ p, p ∈ ps ↔ p ∈ goP rows) : PsOk ps ∧ rowsP ps = rows := by
  have ok : PsOk ps := by
    refine ⟨fun p hp => ?_, fun z => ?_, ?_⟩
    · have := goP_bd hr ((h p).mp hp)
      exact ⟨this.1, this.2.1⟩
    · obtain ⟨p, hp, hl⟩ := longP_iff.mp z
      have := goP_bd hr ((h p).mp hp)
      have := hr.1
      omega
    · refine List.eq_nil_iff_forall_not_mem.mpr fun z hz => ?_
      obtain ⟨h1, h2, h3, h4⟩ := unr_mem.mp hz
      rcases go_pred hr ((h z).mp h1) with q | q | q
      · exact h2 (Prod.ext q.1 q.2)
      · exact h3 ((h _).mpr q)
      · exact h4 ((h _).mpr q)
  exact ⟨ok, rows_ext ok.plan hr fun p => by rw [← ok.go p, h p]⟩
/-- what is due for a list of places -/
def dueP (ps : List (Int × Int)) : D := if longP ps = true then .tup [.str "TooLong", .int 12] else if unr ps = [] then .non else .tup [.str "BadPlan", .int (badP ps)]
/-! the places one by one, in their order -/
theorem inOrd_perm {ps : List (Int × Int)} : (inOrd ps).Perm ps := List.mergeSort_perm _ _
theorem inOrd_mem {ps : List (Int × Int)} {p : Int × Int} : p ∈ inOrd ps ↔ p ∈ ps := inOrd_perm.mem_iff
theorem inOrd_pw {ps : List (Int × Int)} : (inOrd ps).Pairwise fun x y => lexB x y = true := by
  refine List.pairwise_mergeSort ?_ ?_ _
  · intro x y z h1 h2
    simp only [lexB, decide_eq_true_eq] at *
    omega
  · intro x y
    simp only [lexB, Bool.or_eq_true, decide_eq_true_eq] at *
    omega
/-- what the rows of the places so far keep -/
structure GrI (d : List (Int × Int)) (L : Nat) : Prop where
  lt : ∀ p ∈ d, p.1 + p.2 < L
  ne : ∀ n, n < L → rowN d n ≠ []
theorem GrI.step {ps d rest : List (Int × Int)} {z : Int × Int} (ok : PsOk ps) (e : inOrd ps = d ++ z :: rest) {L : Nat} (h : GrI d L) :
    (z.1 + z.2 = L ∨ (z.1 + z.2 = (L : Int) - 1 ∧ 0 < L)) ∧ (∀ a ∈ rowN d (z.1 + z.2).toNat, a ≤ z.1) ∧ rowN d L = [] ∧ 0 ≤ z.1 + z.2 ∧ z.1 + z.2 < 12 := by
  have pw := inOrd_pw (ps := ps)
  rw [e, List.pairwise_append] at pw
  obtain ⟨_, pw2, pw3⟩ := pw
  have hz : z ∈ ps := inOrd_mem.mp (by rw [e]; simp)
  have hnz := ok.nn z hz
  have hsub : ∀ p ∈ d, p ∈ ps := fun p hp => inOrd_mem.mp (by rw [e]; simp [hp])
  have hnn : NnP d := fun p hp => ok.nn p (hsub p hp)
  have hle : ∀ p ∈ d, lexB p z = true := fun p hp => pw3 p hp z (.head _)
  have hin : ∀ p ∈ ps, p.1 + p.2 < z.1 + z.2 → p ∈ d := fun p hp hlt => by
    have : p ∈ inOrd ps := inOrd_mem.mpr hp
    rw [e] at this
    rcases List.mem_append.mp this with q | q
    · exact q
    · rcases List.mem_cons.mp q with q | q
      · subst q; omega
      · have := (List.pairwise_cons.mp pw2).1 p q
        simp only [lexB, decide_eq_true_eq] at this
        omega
  have h12 := ok.lt hz
  refine ⟨?_, fun a ha => ?_, rowN_nil fun p hp => ?_, by omega, h12⟩
  · have up : z.1 + z.2 ≤ L := by
      rcases ok.pred hz with q | q | q
      · omega
      · have := h.lt _ (hin _ q (by dsimp only; omega))
        dsimp only at this
        omega
      · have := h.lt _ (hin _ q (by dsimp only; omega))
        dsimp only at this
        omega
    have lo : (L : Int) - 1 ≤ z.1 + z.2 := by
      cases L with
      | zero => omega
      | succ m =>
        obtain ⟨a, ha⟩ := List.exists_mem_of_ne_nil _ (h.ne m (by omega))
        have := hle _ ((rowN_mem hnn).mp ha)
        simp only [lexB, decide_eq_true_eq] at this
        omega
    omega
  · have := hle _ ((rowN_mem hnn).mp ha)
    simp only [lexB, decide_eq_true_eq] at this
    omega
  · have := h.lt p hp
    omega
theorem rowN_put {d : List (Int × Int)} {z : Int × Int} (hz : 0 ≤ z.1 ∧ 0 ≤ z.2) (hn : NnP d) (hle : ∀ a ∈ rowN d (z.1 + z.2).toNat, a ≤ z.1) (h : z.1 ∉ rowN d (z.1 + z.2).toNat) (n : Nat) : (if n = (z.1 + z.2).toNat then rowN d n ++ [z.1] else rowN d n) = rowN (d ++ [z]) n := by
  have hn2 : NnP (d ++ [z]) := fun p hp => by
    rcases List.mem_append.mp hp with q | q
    · exact hn p q
    · rw [List.mem_singleton.mp q]; exact hz
  by_cases e : n = (z.1 + z.2).toNat
  · rw [if_pos e]
    subst e
    refine asc_ext ?_ rowN_asc fun x => ?_
    · refine List.pairwise_append.mpr ⟨rowN_asc, by simp, fun x hx y hy => ?_⟩
      rw [List.mem_singleton.mp hy]
      have h1 := hle x hx
      have h2 : x ≠ z.1 := fun w => h (w ▸ hx)
      omega
    · rw [rowN_mem hn2, List.mem_append, rowN_mem hn, List.mem_append, List.mem_singleton, List.mem_singleton]
      constructor
      · rintro (q | rfl)
        · exact .inl q
        · exact .inr (Prod.ext rfl (by dsimp only; omega))
      · rintro (q | q)
        · exact .inl q
        · exact .inr (congrArg Prod.fst q)
  · rw [if_neg e]
    unfold rowN
    refine List.filter_congr fun a _ => decide_eq_decide.mpr ?_
    rw [List.mem_append, List.mem_singleton]
    constructor
    · exact .inl
    · rintro (q | q)
      · exact q
      · exfalso
        rw [← q] at e
        dsimp only at e
        omega
theorem GrI.next {d : List (Int × Int)} {z : Int × Int} {L : Nat} (h : GrI d L) (hz : 0 ≤ z.1 ∧ 0 ≤ z.2) (hn : NnP d) : (z.1 + z.2 = L → GrI (d ++ [z]) (L + 1)) ∧ (z.1 + z.2 = (L : Int) - 1 → GrI (d ++ [z]) L) := by
  have hn2 : NnP (d ++ [z]) := fun p hp => by
    rcases List.mem_append.mp hp with q | q
    · exact hn p q
    · rw [List.mem_singleton.mp q]; exact hz
  have old : ∀ n, n < L → rowN (d ++ [z]) n ≠ [] := fun n q => by
    obtain ⟨a, ha⟩ := List.exists_mem_of_ne_nil _ (h.ne n q)
    exact List.ne_nil_of_mem ((rowN_mem hn2).mpr (List.mem_append_left _ ((rowN_mem hn).mp ha)))
  constructor
  · intro e
    refine ⟨fun p hp => ?_, fun n q => ?_⟩
    · rcases List.mem_append.mp hp with w | w
      · have := h.lt p w; omega
      · rw [List.mem_singleton.mp w]; omega
    · by_cases w : n < L
      · exact old n w
      · have : n = L := by omega
        subst this
        exact List.ne_nil_of_mem (a := z.1) ((rowN_mem hn2).mpr (List.mem_append_right _ (List.mem_singleton.mpr (Prod.ext rfl (by dsimp only; omega)))))
  · intro e
    refine ⟨fun p hp => ?_, old⟩
    rcases List.mem_append.mp hp with w | w
    · exact h.lt p w
    · rw [List.mem_singleton.mp w]; omega
theorem GrI.nil : GrI [] 0 := ⟨(fun p h => by cases h), (fun n h => absurd h (Nat.not_lt_zero n))⟩
theorem GrI.fin {ps d : List (Int × Int)} {L : Nat} (ok : PsOk ps) (h : GrI d L) (hm : ∀ p, p ∈ d ↔ p ∈ ps) : (List.range L).map (rowN d) = rowsP ps := by
  have hc : ∀ n, rowN d n = rowN ps n := fun n => rowN_congr hm
  have hL : L = cntP ps := by
    have h3 := ok.rows.2.2
    have h1 : ∀ n, n < L → n < cntP ps := fun n q => (h3 n).mp (by rw [← hc]; exact h.ne n q)
    have h2 : ∀ n, n < cntP ps → n < L := fun n q => by
      obtain ⟨a, ha⟩ := List.exists_mem_of_ne_nil _ ((h3 n).mpr q)
      have := h.lt _ ((hm _).mpr ((rowN_mem ok.nn).mp ha))
      dsimp only at this
      omega
    have := h1 (L - 1)
    have := h2 (cntP ps - 1)
    omega
  rw [ok.rows.1, ← hL]
  unfold rowsOf
  refine List.map_congr_left fun n _ => ?_
  rw [hc]
  rfl
/-! of_places of any places -/
inductive cOfPX (CP : Addr) (XA : Str → Addr) : List D → (D → Prop) → EK → Prop
  | mk {P : D → Prop} {E : EK} (ps : List (Int × Int)) (hn : NnP ps) (hl : ps.length ≤ 3000) (k : if longP ps = true then E (.ref (XA "TooLong")) [fldOf "TooLong"] [.int 12] else if unr ps = [] then P (plD CP (rowsP ps)) else E (.ref (XA "BadPlan")) [fldOf "BadPlan"] [.int (badP ps)]) : cOfPX CP XA [.lst (ps.map plcD)] P E
end
set_option Elab.async false
set_option linter.all false
set_option maxRecDepth 100000
set_option maxHeartbeats 4000000
section
/-! the parts of a plan: plain facts -/
theorem go_at {rows : List (List Int)} {n : Nat} {a : Int} : (a, (n : Int) - a) ∈ goP rows ↔ a ∈ rowAt rows n := by
  unfold rowAt
  rw [goP_mem]
  constructor
  · rintro ⟨n', r, e, h1, h2⟩
    have : n' = n := by dsimp only at h2; omega
    subst this
    rw [e]
    exact h1
  · intro h
    cases e : rows[n]? with
    | none => rw [e] at h; cases h
    | some r => rw [e] at h; exact ⟨n, r, e, h, by dsimp only; omega⟩
theorem go_at2 {rows : List (List Int)} {p : Int × Int} (h0 : 0 ≤ p.1 + p.2) : p ∈ goP rows ↔ p.1 ∈ rowAt rows (p.1 + p.2).toNat := by
  rw [← go_at, show (((p.1 + p.2).toNat : Nat) : Int) - p.1 = p.2 by omega]
/-! runs -/
def stepRuns (out : List (Int × Int)) (a : Int) : List (Int × Int) := match out.getLast? with
  | some p => if p.2 + 1 = a then out.dropLast ++ [(p.1, a)] else out ++ [(a, a)]
  | none => [(a, a)]
def runsR (r : List Int) : List (Int × Int) := r.foldl stepRuns []
/-! the reached places -/
abbrev reachP (rows : List (List Int)) : List (Int × Int) := goP (metR rows)
theorem metR_asc {rows : List (List Int)} (hr : PlanOk rows) : ∀ r ∈ metR rows, Asc r := fun r h => by
  obtain ⟨n, hn, e⟩ := List.mem_iff_getElem.mp h
  exact (Gd.at_ hr (n := n) (r := r) (by rw [List.getElem?_eq_getElem hn, e])).2.1
theorem reachP_len {rows : List (List Int)} (hr : PlanOk rows) : (reachP rows).length ≤ 169 := by
  have hl := hr.1
  unfold reachP goP
  refine Nat.le_trans (flat_len (k := 13) fun x hx => ?_) ?_
  · rw [List.length_map]
    have e := List.mk_mem_zipIdx_iff_getElem?.mp (show (x.1, x.2) ∈ _ from hx)
    have h1 := (Gd.at_ hr e).len
    have h2 := (List.getElem?_eq_some_iff.mp e).1
    rw [metR_len] at h2
    omega
  · rw [List.length_zipIdx, metR_len]
    omega
theorem stops_filter {rows : List (List Int)} : (reachP rows).filter (fun z => decide (z ∉ goP rows)) = stopsP rows := by
  unfold reachP stopsP
  rw [show goP (metR rows) = (metR rows).zipIdx.flatMap fun x => x.1.map fun a => (a, (x.2 : Int) - a) from rfl, List.filter_flatMap]
  congr 1
  funext x
  rw [List.filter_map]
  congr 1
  refine List.filter_congr fun a _ => ?_
  have : (a, (x.2 : Int) - a) ∈ goP rows ↔ a ∈ (rows[x.2]?).getD [] := go_at
  simp [this]
/-! the gaps, found pair by pair -/
theorem gapsR_snoc (rs : List (List Int)) (r : List Int) : gapsR (rs ++ [r]) = gapsR rs ++ gapsOf rs.length r := by
  unfold gapsR
  rw [List.zipIdx_append, List.flatMap_append]
  simp
def gapP (n : Int) (p : Int × Int) : Option (Int × Int × Int) := if p.1 + 2 ≤ p.2 then some (n, p.1, p.2) else none
theorem gapsOf_eq (n : Int) (r : List Int) : gapsOf n r = (r.zip r.tail).filterMap (gapP n) := rfl
theorem zip_at {r : List Int} {k : Nat} (h : k + 1 < r.length) : (r.zip r.tail)[k]? = some (r[k], r[k + 1]) := by
  rw [List.getElem?_zip_eq_some]
  refine ⟨List.getElem?_eq_getElem _, ?_⟩
  rw [List.getElem?_tail]
  exact List.getElem?_eq_getElem _
theorem zip_len (r : List Int) : (r.zip r.tail).length = r.length - 1 := by
  rw [List.length_zip, List.length_tail]
  omega
theorem gapsR_len {rows : List (List Int)} (hr : PlanOk rows) : (gapsR rows).length ≤ 144 := by
  have hl := hr.1
  unfold gapsR
  refine Nat.le_trans (flat_len (k := 12) fun x hx => ?_) ?_
  · have h1 := gapsOf_len x.2 x.1
    have := (Pl.mem hr (List.mem_of_getElem? (List.mk_mem_zipIdx_iff_getElem?.mp (show (x.1, x.2) ∈ _ from hx)))).len
    omega
  · rw [List.length_zipIdx]
    omega
/-! opened and closed: plain facts -/
theorem goP_lenW {rows : List (List Int)} : (goP rows).Pairwise fun x y => x.1 + x.2 ≤ y.1 + y.2 := by
  have key : ∀ (rows : List (List Int)) (k : Nat), ((rows.zipIdx k).flatMap fun x => x.1.map fun a => (a, (x.2 : Int) - a)).Pairwise fun x y => x.1 + x.2 ≤ y.1 + y.2 := by
    intro rows
    induction rows with
    | nil => intro k; simp
    | cons r rs ih =>
      intro k
      rw [List.zipIdx_cons, List.flatMap_cons, List.pairwise_append]
      refine ⟨?_, ih _, fun x hx y hy => ?_⟩
      · rw [List.pairwise_map]
        exact List.pairwise_of_forall (fun a b => by dsimp only; omega)
      · obtain ⟨a, _, rfl⟩ := List.mem_map.mp hx
        obtain ⟨⟨r2, n⟩, hz, hy2⟩ := List.mem_flatMap.mp hy
        obtain ⟨b, _, rfl⟩ := List.mem_map.mp hy2
        have := List.le_snd_of_mem_zipIdx hz
        dsimp only at *
        omega
  exact key rows 0
theorem go_split {rows : List (List Int)} {d rest : List (Int × Int)} {z p : Int × Int} (e : goP rows = d ++ z :: rest) (hp : p ∈ goP rows) (hl : p.1 + p.2 < z.1 + z.2) : p ∈ d := by
  have pw := goP_lenW (rows := rows)
  rw [e, List.pairwise_append] at pw
  rw [e] at hp
  rcases List.mem_append.mp hp with q | q
  · exact q
  · rcases List.mem_cons.mp q with q | q
    · subst q; omega
    · have := (List.pairwise_cons.mp pw.2.1).1 p q
      omega
theorem nn_go {rows : List (List Int)} (hr : PlanOk rows) : NnP (goP rows) := fun p hp => by
  have := goP_bd hr hp
  exact ⟨this.1, this.2.1⟩
/-- what a plain set of places is a plan's -/
theorem psOk_mk {ps : List (Int × Int)} (hn : NnP ps) (hl : ∀ p ∈ ps, p.1 + p.2 < 12) (hp : ∀ p ∈ ps, (p.1 = 0 ∧ p.2 = 0) ∨ (p.1 - 1, p.2) ∈ ps ∨ (p.1, p.2 - 1) ∈ ps) : PsOk ps := by
  refine ⟨hn, fun z => ?_, List.eq_nil_iff_forall_not_mem.mpr fun z hz => ?_⟩
  · obtain ⟨p, h1, h2⟩ := longP_iff.mp z
    have := hl p h1
    omega
  · obtain ⟨h1, h2, h3, h4⟩ := unr_mem.mp hz
    rcases hp z h1 with q | q | q
    · exact h2 (Prod.ext q.1 q.2)
    · exact h3 q
    · exact h4 q
theorem psOk_pre {rows : List (List Int)} (hr : PlanOk rows) {d rest : List (Int × Int)} (e : goP rows = d ++ rest) : PsOk d := by
  have hsub : ∀ p ∈ d, p ∈ goP rows := fun p hp => by rw [e]; exact List.mem_append_left _ hp
  refine psOk_mk (fun p hp => nn_go hr p (hsub p hp)) (fun p hp => by have := goP_bd hr (hsub p hp); have := hr.1; omega) fun p hp => ?_
  obtain ⟨d1, d2, rfl⟩ := List.append_of_mem hp
  have e2 : goP rows = d1 ++ p :: (d2 ++ rest) := by rw [e]; simp
  have up : ∀ q, q ∈ goP rows → q.1 + q.2 < p.1 + p.2 → q ∈ d1 ++ p :: d2 := fun q hq hl => List.mem_append_left _ (go_split e2 hq hl)
  rcases go_pred hr (hsub p hp) with q | q | q
  · exact .inl q
  · exact .inr (.inl (up _ q (by dsimp only; omega)))
  · exact .inr (.inr (up _ q (by dsimp only; omega)))
theorem stop_iff {rows : List (List Int)} {a b : Int} (h0 : 0 ≤ a + b) : (a, b) ∈ stopsP rows ↔ a ∈ rowAt (metR rows) (a + b).toNat ∧ a ∉ rowAt rows (a + b).toNat := by
  rw [stopsP_mem]
  constructor
  · rintro ⟨n, r, e, h1, h2, h3⟩
    dsimp only at h1 h2 h3
    have : (a + b).toNat = n := by omega
    rw [this]
    unfold rowAt
    rw [e]
    exact ⟨h1, h2⟩
  · rintro ⟨h1, h2⟩
    unfold rowAt at h1 h2
    cases e : (metR rows)[(a + b).toNat]? with
    | none => rw [e] at h1; cases h1
    | some r => rw [e] at h1; exact ⟨_, r, e, h1, h2, by dsimp only; omega⟩
theorem stop_reach {rows : List (List Int)} {p : Int × Int} (h0 : 0 ≤ p.1 + p.2) : p ∈ stopsP rows ↔ p ∈ reachP rows ∧ p ∉ goP rows := by
  obtain ⟨a, b⟩ := p
  rw [stop_iff h0, go_at2 (rows := metR rows) h0, go_at2 (rows := rows) h0]
/-- the plan with a stop opened -/
def opR (rows : List (List Int)) (z : Int × Int) : List (List Int) := rowsP (goP rows ++ [z])
theorem psOk_open {rows : List (List Int)} (hr : PlanOk rows) {z : Int × Int} (hz : 0 ≤ z.1 ∧ 0 ≤ z.2) (hs : z ∈ stopsP rows) (hl : z.1 + z.2 < 12) : PsOk (goP rows ++ [z]) := by
  refine psOk_mk (fun p hp => ?_) (fun p hp => ?_) fun p hp => ?_
  · rcases List.mem_append.mp hp with q | q
    · exact nn_go hr p q
    · rw [List.mem_singleton.mp q]; exact hz
  · rcases List.mem_append.mp hp with q | q
    · have := goP_bd hr q; have := hr.1; omega
    · rw [List.mem_singleton.mp q]; exact hl
  · rcases List.mem_append.mp hp with q | q
    · rcases go_pred hr q with w | w | w
      · exact .inl w
      · exact .inr (.inl (List.mem_append_left _ w))
      · exact .inr (.inr (List.mem_append_left _ w))
    · rw [List.mem_singleton.mp q]
      obtain ⟨n, r, e, h1, _, h3⟩ := stopsP_mem.mp hs
      have := met_pred hr e h1
      rw [show (n : Int) - z.1 = z.2 by omega] at this
      rcases this with w | w | w
      · exact .inl w
      · exact .inr (.inl (List.mem_append_left _ w))
      · exact .inr (.inr (List.mem_append_left _ w))
/-! closing -/
def restP (rows : List (List Int)) (z : Int × Int) : List (Int × Int) := (goP rows).filter fun x => decide (x ≠ z)
theorem rest_mem {rows : List (List Int)} {z p : Int × Int} : p ∈ restP rows z ↔ p ∈ goP rows ∧ p ≠ z := by
  unfold restP
  rw [List.mem_filter, decide_eq_true_eq]
def clOk (rows : List (List Int)) (z : Int × Int) : Bool := decide (z ∈ goP rows) && decide (unr (restP rows z) = [])
theorem clOk_ps {rows : List (List Int)} (hr : PlanOk rows) {z : Int × Int} (h : clOk rows z = true) : PsOk (restP rows z) := by
  unfold clOk at h
  rw [Bool.and_eq_true, decide_eq_true_eq, decide_eq_true_eq] at h
  refine ⟨fun p hp => nn_go hr p (rest_mem.mp hp).1, fun w => ?_, h.2⟩
  obtain ⟨p, h1, h2⟩ := longP_iff.mp w
  have := goP_bd hr (rest_mem.mp h1).1
  have := hr.1
  omega
/-- what may_close asks -/
theorem clOk_iff {rows : List (List Int)} (hr : PlanOk rows) {a b : Int} (ha : 0 ≤ a) (hb : 0 ≤ b) : clOk rows (a, b) = true ↔ (a, b) ∈ goP rows ∧ ¬ ((a + 1, b) ∈ goP rows ∧ (b = 0 ∨ (a + 1, b - 1) ∉ goP rows)) ∧ ¬ ((a, b + 1) ∈ goP rows ∧ (a = 0 ∨ (a - 1, b + 1) ∉ goP rows)) := by
  unfold clOk
  rw [Bool.and_eq_true, decide_eq_true_eq, decide_eq_true_eq]
  have neg : ∀ {p : Int × Int}, p ∈ goP rows → 0 ≤ p.1 ∧ 0 ≤ p.2 := fun {p} hp => nn_go hr p hp
  constructor
  · rintro ⟨h1, h2⟩
    have no : ∀ y, y ∉ unr (restP rows (a, b)) := fun y => by rw [h2]; simp
    refine ⟨h1, fun ⟨q1, q2⟩ => ?_, fun ⟨q1, q2⟩ => ?_⟩
    · refine no (a + 1, b) (unr_mem.mpr ⟨rest_mem.mpr ⟨q1, fun e => by have := congrArg Prod.fst e; dsimp only at this; omega⟩, fun e => by have := congrArg Prod.fst e; dsimp only at this; omega, fun w => ?_, fun w => ?_⟩)
      · exact (rest_mem.mp w).2 (by simp)
      · rcases q2 with q2 | q2
        · have := neg (rest_mem.mp w).1
          dsimp only at this
          omega
        · exact q2 (rest_mem.mp w).1
    · refine no (a, b + 1) (unr_mem.mpr ⟨rest_mem.mpr ⟨q1, fun e => by have := congrArg Prod.snd e; dsimp only at this; omega⟩, fun e => by have := congrArg Prod.snd e; dsimp only at this; omega, fun w => ?_, fun w => ?_⟩)
      · rcases q2 with q2 | q2
        · have := neg (rest_mem.mp w).1
          dsimp only at this
          omega
        · exact q2 (rest_mem.mp w).1
      · exact (rest_mem.mp w).2 (by simp)
  · rintro ⟨h1, h2, h3⟩
    refine ⟨h1, List.eq_nil_iff_forall_not_mem.mpr fun y hy => ?_⟩
    obtain ⟨y1, y2, y3, y4⟩ := unr_mem.mp hy
    obtain ⟨g1, g2⟩ := rest_mem.mp y1
    obtain ⟨c, e⟩ := y
    dsimp only at *
    rcases go_pred hr g1 with q | q | q
    · exact y2 (Prod.ext q.1 q.2)
    · dsimp only at q
      by_cases w : (c - 1, e) = (a, b)
      · have w1 := congrArg Prod.fst w
        have w2 := congrArg Prod.snd w
        dsimp only at w1 w2
        have ec : c = a + 1 := by omega
        subst ec w2
        refine h2 ⟨g1, ?_⟩
        by_cases e0 : e = 0
        · exact .inl e0
        · refine .inr fun u => y4 (rest_mem.mpr ⟨u, fun v => ?_⟩)
          have := congrArg Prod.fst v
          dsimp only at this
          omega
      · exact y3 (rest_mem.mpr ⟨q, w⟩)
    · dsimp only at q
      by_cases w : (c, e - 1) = (a, b)
      · have w1 := congrArg Prod.fst w
        have w2 := congrArg Prod.snd w
        dsimp only at w1 w2
        have ec : e = b + 1 := by omega
        subst ec w1
        refine h3 ⟨g1, ?_⟩
        by_cases e0 : c = 0
        · exact .inl e0
        · refine .inr fun u => y3 (rest_mem.mpr ⟨u, fun v => ?_⟩)
          have := congrArg Prod.fst v
          dsimp only at this
          omega
      · exact y4 (rest_mem.mpr ⟨q, w⟩)
/-! the reached places and the counts -/
def succs (z : Int × Int) : List (Int × Int) := [(z.1 + 1, z.2), (z.1, z.2 + 1)]
def stepR (re : List (Int × Int)) (z : Int × Int) : List (Int × Int) := re ++ (succs z).filter fun y => decide (y ∉ re)
theorem succs_nd (z : Int × Int) : (succs z).Nodup := by
  unfold succs
  simp
  omega
theorem stepR_mem {re : List (Int × Int)} {z p : Int × Int} : p ∈ stepR re z ↔ p ∈ re ∨ p ∈ succs z := by
  unfold stepR
  rw [List.mem_append, List.mem_filter]
  simp only [decide_eq_true_eq]
  by_cases h : p ∈ re <;> simp [h]
theorem stepR_nd {re : List (Int × Int)} {z : Int × Int} (h : re.Nodup) : (stepR re z).Nodup := by
  unfold stepR
  refine List.nodup_append.mpr ⟨h, (succs_nd z).sublist List.filter_sublist, fun x hx y hy e => ?_⟩
  have := (List.mem_filter.mp hy).2
  rw [decide_eq_true_eq] at this
  exact this (e ▸ hx)
theorem foldR_mem {p : Int × Int} : ∀ (go re : List (Int × Int)), p ∈ go.foldl stepR re ↔ p ∈ re ∨ ∃ z ∈ go, p ∈ succs z
  | [], re => by simp
  | z :: go, re => by
    rw [List.foldl_cons, foldR_mem go, stepR_mem]
    simp only [List.mem_cons, exists_eq_or_imp, or_assoc]
theorem foldR_nd : ∀ (go re : List (Int × Int)), re.Nodup → (go.foldl stepR re).Nodup
  | [], _, h => h
  | z :: go, re, h => by
    rw [List.foldl_cons]
    exact foldR_nd go _ (stepR_nd h)
def reR (d : List (Int × Int)) : List (Int × Int) := d.foldl stepR [(0, 0)]
theorem goP_nd {rows : List (List Int)} (h : ∀ r ∈ rows, Asc r) : (goP rows).Nodup := by
  have key : ∀ (rows : List (List Int)) (k : Nat), (∀ r ∈ rows, Asc r) → ((rows.zipIdx k).flatMap fun x => x.1.map fun a => (a, (x.2 : Int) - a)).Nodup := by
    intro rows
    induction rows with
    | nil => intro k _; simp
    | cons r rs ih =>
      intro k hk
      rw [List.zipIdx_cons, List.flatMap_cons, List.nodup_append]
      refine ⟨?_, ih _ (fun x hx => hk x (.tail _ hx)), fun x hx y hy e => ?_⟩
      · refine List.Pairwise.map _ (fun a b h => ?_) (hk r (.head _))
        intro e
        have := congrArg Prod.fst e
        dsimp only at this
        omega
      · obtain ⟨a, _, rfl⟩ := List.mem_map.mp hx
        obtain ⟨⟨r2, n⟩, hz, hy2⟩ := List.mem_flatMap.mp hy
        obtain ⟨b, _, rfl⟩ := List.mem_map.mp hy2
        have := List.le_snd_of_mem_zipIdx hz
        have e1 := congrArg Prod.fst e
        have e2 := congrArg Prod.snd e
        dsimp only at *
        omega
  exact key rows 0 h
theorem reach_mem {rows : List (List Int)} {p : Int × Int} : p ∈ reachP rows ↔ p = (0, 0) ∨ ∃ z ∈ goP rows, p ∈ succs z := by
  rw [goP_mem]
  constructor
  · rintro ⟨n, r, e, h1, h2⟩
    cases n with
    | zero =>
      cases e
      simp at h1
      exact .inl (Prod.ext h1 (by dsimp only; omega))
    | succ m =>
      unfold metR at e
      rw [List.getElem?_cons_succ, List.getElem?_map] at e
      cases e2 : rows[m]? with
      | none => rw [e2] at e; cases e
      | some r0 =>
        rw [e2] at e
        cases e
        right
        rcases (nx_mem _ _).mp h1 with q | q
        · refine ⟨(p.1, p.2 - 1), goP_mem.mpr ⟨m, r0, e2, q, by dsimp only; omega⟩, ?_⟩
          unfold succs
          simp
        · refine ⟨(p.1 - 1, p.2), goP_mem.mpr ⟨m, r0, e2, q, by dsimp only; omega⟩, ?_⟩
          unfold succs
          simp
  · rintro (rfl | ⟨z, hz, hp⟩)
    · exact ⟨0, [0], rfl, by simp, rfl⟩
    · obtain ⟨n, r, e, h1, h2, h3⟩ := met_succ hz
      unfold succs at hp
      simp only [List.mem_cons, List.not_mem_nil, or_false] at hp
      rcases hp with rfl | rfl
      · exact ⟨n, r, e, h2, by dsimp only; omega⟩
      · exact ⟨n, r, e, h1, by dsimp only; omega⟩
theorem reR_mem {rows : List (List Int)} {d : List (Int × Int)} (hd : ∀ p, p ∈ d ↔ p ∈ goP rows) (p : Int × Int) : p ∈ reR d ↔ p ∈ reachP rows := by
  unfold reR
  rw [foldR_mem, reach_mem, List.mem_singleton]
  constructor
  · rintro (q | ⟨z, h1, h2⟩)
    · exact .inl q
    · exact .inr ⟨z, (hd z).mp h1, h2⟩
  · rintro (q | ⟨z, h1, h2⟩)
    · exact .inl q
    · exact .inr ⟨z, (hd z).mpr h1, h2⟩
theorem nd_len {l m : List (Int × Int)} (h1 : l.Nodup) (h2 : m.Nodup) (h : ∀ p, p ∈ l ↔ p ∈ m) : l.length = m.length := ((List.perm_ext_iff_of_nodup h1 h2).mpr h).length_eq
theorem row_asc {rows : List (List Int)} (hr : PlanOk rows) : ∀ r ∈ rows, Asc r := fun r h => (Pl.mem hr h).2.1
theorem reR_len {rows : List (List Int)} (hr : PlanOk rows) {d : List (Int × Int)} (hd : ∀ p, p ∈ d ↔ p ∈ goP rows) : (reR d).length = (reachP rows).length :=
  nd_len (foldR_nd _ _ (by simp)) (goP_nd (metR_asc hr)) (reR_mem hd)
/-- the stops are the reached places that are no go places -/
theorem stops_count {rows : List (List Int)} (hr : PlanOk rows) : (stopsP rows).length + (goP rows).length = (reachP rows).length := by
  rw [← stops_filter]
  have h1 := goP_nd (metR_asc hr)
  have h2 := goP_nd (row_asc hr)
  have hin : ∀ p, p ∈ goP rows → p ∈ reachP rows := fun p hp => by
    have hb := goP_bd hr hp
    obtain ⟨n, r, e, q1, q2⟩ := goP_mem.mp hp
    have ro := rowOk_at hr e
    cases e2 : (metR rows)[n]? with
    | none => rw [e2] at ro; exact absurd (ro.2.2 _ q1) (by simp)
    | some g => rw [e2] at ro; exact goP_mem.mpr ⟨n, g, e2, ro.2.2 _ q1, q2⟩
  have e : (goP rows).length = ((reachP rows).filter fun z => decide (z ∈ goP rows)).length := by
    refine nd_len h2 (h1.sublist List.filter_sublist) fun p => ?_
    rw [List.mem_filter, decide_eq_true_eq]
    exact ⟨fun q => ⟨hin p q, q⟩, fun q => q.2⟩
  rw [e, Nat.add_comm]
  have := (List.filter_append_perm (fun z => decide (z ∈ goP rows)) (reachP rows)).length_eq
  rw [List.length_append] at this
  rw [← this]
  congr 2
  refine List.filter_congr fun z _ => ?_
  by_cases q : z ∈ goP rows <;> simp [q]
/-! .. walked -/
def forBody : Stmt → List Stmt
  | .For _ _ b _ _ => b
  | _ => []
local macro_rules | `(tactic| kct_strs) => `(tactic| first | (with_reducible refine od_inP ?_) | (with_reducible refine od_ninP ?_) | (with_reducible refine od_eqP ?_) | (with_reducible refine od_neP ?_))
inductive cLawGaps : List D → (D → Prop) → EK → Prop
  | mk {P : D → Prop} {E : EK} (rows : List (List Int)) (hr : PlanOk rows) (k : P (.lst ((gapsR rows).map gapD))) : cLawGaps [.lst (rows.map rowL)] P E
theorem mo_cLawGaps : ∀ (ds : List D) (P P' : D → Prop) (E E' : EK), (∀ d, P d → P' d) → (∀ v ns es, E v ns es → E' v ns es) → cLawGaps ds P E → cLawGaps ds P' E' := by
  intro ds P P' E E' hp he h
  cases h with
  | mk rows hr k => exact .mk rows hr (by first | exact hp _ k | exact k.imp hp | (intros; apply hp; apply k <;> assumption))
abbrev S__law_gaps : Scp := { N := ["rows", "out", "n", "k"], sc := defScope (top 57), vs := [("rows", 0), ("out", 1), ("n", 2), ("k", 3)], ss := [("rows", 0), ("out", 1), ("n", 2), ("k", 3)], gl := ["len", "range"], lv := 1 }
theorem b__law_gaps {U : Env1} (hB : Blt U ["range", "len"])  (G H : Hp) (ds) (P) (E) (h : cLawGaps ds P E) : JSs S__law_gaps (U.cg G H fun _ => E) (defBody (top 57)) (startD S__law_gaps.N ds) { nx := fun _ => P .non, rt := P } := by
  obtain ⟨rows, hr, k⟩ := h
  have hs : 5000 < sizeLine := by decide
  have hml : (rows.map rowL).length = rows.length := List.length_map _
  have a1 := hr.1
  kat_tups
  refine eachD (fun d rest δ' => ∃ s2 s3 : Sl, δ' = [.fz (.lst (rows.map rowL)), .ow ((gapsR (rows.take d.length)).map gapD), s2, s3]) src_rg1 ⟨_, _, rfl⟩ ?_ ?_
  · rintro d x rest δ' hx ⟨s2, s3, rfl⟩
    obtain ⟨e1, e2⟩ := rgD_split hx
    simp only [Int.zero_add] at e1 e2
    subst e1
    rw [hml] at e2
    have hd : d.length < rows.length := by omega
    have er := List.getElem?_eq_getElem hd
    have hg := hr.2.get gd0 er
    have hgl := hg.len
    have gl := gapsR_len (take_ok0 hr d.length)
    have atr : L2.atI (rows.map rowL) ((d.length : Nat) : Int) = some (rowL rows[d.length]) := by
      rw [atI_mapG (by omega) (by omega)]
      rfl
    generalize hw : rows[d.length] = r at *
    have zl := zip_len r
    have hrm : (r.map D.int).length = r.length := List.length_map _
    kat_tups
    refine ixd_lst atr ?_
    kat_tups
    refine eachD (fun d2 r2 δ' => ∃ s3 : Sl, δ' = [.fz (.lst (rows.map rowL)), .ow ((gapsR (rows.take d.length) ++ ((r.zip r.tail).take d2.length).filterMap (gapP d.length)).map gapD), .fz (.int (d.length : Nat)), s3]) src_rg ⟨_, by first | (rw [List.length_nil, List.take_zero, List.filterMap_nil, List.append_nil]; done) | (rw [List.length_nil, List.take_zero, List.filterMap_nil, List.append_nil]; rfl)⟩ ?_ ?_
    · rintro d2 y r2 δ' hx2 ⟨s3, rfl⟩
      obtain ⟨e3, e4⟩ := rgD_split hx2
      rw [hrm] at e4
      subst e3
      have h1 : d2.length + 1 < r.length := by omega
      have at1 : L2.atI (r.map D.int) (1 + (d2.length : Nat) : Int) = some (.int r[d2.length + 1]) := by
        have := atI_map (is := r) (i := d2.length + 1) h1
        rwa [show ((d2.length + 1 : Nat) : Int) = 1 + (d2.length : Nat) by omega] at this
      have at0 : L2.atI (r.map D.int) (1 + (d2.length : Nat) - 1 : Int) = some (.int (r[d2.length]'(by omega))) := by
        have := atI_map (is := r) (i := d2.length) (by omega)
        rwa [show ((d2.length : Nat) : Int) = 1 + (d2.length : Nat) - 1 by omega] at this
      have ez := zip_at h1
      have e5 : ((r.zip r.tail).take (d2.length + 1)).filterMap (gapP d.length) = ((r.zip r.tail).take d2.length).filterMap (gapP d.length) ++ (if r[d2.length]'(by omega) + 2 ≤ r[d2.length + 1] then [((d.length : Int), r[d2.length]'(by omega), r[d2.length + 1])] else []) := by
        rw [take_snoc ez, List.filterMap_append]
        congr 1
        unfold gapP
        by_cases q : r[d2.length]'(by omega) + 2 ≤ r[d2.length + 1]
        · simp [q]
        · simp [q]
      have fl : (((r.zip r.tail).take d2.length).filterMap (gapP d.length)).length ≤ 20 := by
        refine Nat.le_trans (List.length_filterMap_le _ _) ?_
        rw [List.length_take]
        omega
      rw [List.length_append, List.length_singleton, e5]
      kat_tups
      refine ixd_lst atr ?_
      kat_tups
      refine ixd_lst at1 ?_
      kat_tups
      refine ixd_lst atr ?_
      kat_tups
      refine ixd_lst at0 ?_
      kat_tups
      refine ite_d (fun c => ?_) (fun c => ?_)
      · kat_tups
        refine ixd_lst atr ?_
        kat_tups
        refine ixd_lst at0 ?_
        kat_tups
        refine ixd_lst atr ?_
        kat_tups
        refine ixd_lst at1 ?_
        kat_tups
        refine ⟨by rw [List.length_map, List.length_append]; omega, .fz (.int (1 + (d2.length : Nat))), ?_⟩
        rw [if_pos (by omega), ← List.append_assoc, List.map_append (l₂ := [_])]
        rfl
      · kat_tups
        refine ⟨.fz (.int (1 + (d2.length : Nat))), ?_⟩
        rw [if_neg (by omega), List.append_nil]
        rfl
    · rintro δ' ⟨s3, rfl⟩
      refine ⟨.fz (.int (d.length : Nat)), s3, ?_⟩
      rw [List.length_append, List.length_singleton, take_snoc er, gapsR_snoc, List.length_take, Nat.min_eq_left (by omega), gapsOf_eq, rgD_len, hrm, List.take_of_length_le (l := r.zip r.tail) (by omega)]
  · rintro δ' ⟨s2, s3, rfl⟩
    rw [rgD_len, hml, List.take_of_length_le (by omega)]
    kat_tups
    try exact k
theorem inR_eq {rows : List (List Int)} {a b : Int} (h0 : 0 ≤ a + b) : inR rows a b = decide ((a, b) ∈ goP rows) := decide_eq_decide.mpr (go_at2 (rows := rows) (p := (a, b)) h0).symm
inductive cHasStop (CP : Addr) : List D → (D → Prop) → EK → Prop
  | mk {P : D → Prop} {E : EK} (rows : List (List Int)) (a b : Int) (h0 : 0 ≤ a + b) (k : P (.bl (decide ((a, b) ∈ stopsP rows)))) : cHasStop CP [plD CP rows, plcD (a, b)] P E
theorem mo_cHasStop {CP : Addr} : ∀ (ds : List D) (P P' : D → Prop) (E E' : EK), (∀ d, P d → P' d) → (∀ v ns es, E v ns es → E' v ns es) → (cHasStop CP) ds P E → (cHasStop CP) ds P' E' := by
  intro ds P P' E E' hp he h
  cases h with
  | mk rows a b h0 k => exact .mk rows a b h0 (by first | exact hp _ k | exact k.imp hp | (intros; apply hp; apply k <;> assumption))
abbrev S_Plan_has_stop : Scp := { N := ["self", "place", "a", "b", "n"], sc := defScope (mtop 30 9), vs := [("self", 0), ("place", 1), ("a", 2), ("b", 3), ("n", 4)], ss := [("self", 0), ("place", 1), ("a", 2), ("b", 3), ("n", 4)], gl := ["row_at"], lv := 2 }
local macro_rules | `(tactic| lsm_bools) => `(tactic| first | refine cRowAt.mk _ _ (by first | assumption | omega | decide) ?_)
theorem b_Plan_has_stop {U : Env1} {CP : Addr} (hC : PlanC U CP) (F_row_at : U.Def "row_at" 2 [] cRowAt) (G H : Hp) (ds) (P) (E) (h : (cHasStop CP) ds P E) : JSs S_Plan_has_stop (U.cg G H fun _ => E) (defBody (mtop 30 9)) (startD S_Plan_has_stop.N ds) { nx := fun _ => P .non, rt := P } := by
  obtain ⟨hcl, hcm, hn1, hn2, hins, hne, hob, hsf, hml, hcy⟩ := hC
  obtain ⟨rows, a, b, h0, k⟩ := h
  have hi := stop_iff (rows := rows) h0
  unfold rowAt at hi
  kat_tups
  refine ite_d (fun c => ?_) (fun c => ?_)
  · kat_tups
    have e : decide ((a, b) ∈ stopsP rows) = !decide (a ∈ (rows[(a + b).toNat]?).getD []) := by
      rw [← decide_not]
      exact decide_eq_decide.mpr ⟨fun q => (hi.mp q).2, fun q => hi.mpr ⟨c, q⟩⟩
    rw [e] at k
    exact k
  · rw [decide_eq_false (fun q => c (hi.mp q).1)] at k
    exact k
theorem tol60 {i : Int} (h0 : 0 ≤ i) (h : i < 10 ^ 60) : i.natAbs.log2 < 1900 := by
  by_cases e : i.natAbs = 0
  · rw [e]
    decide
  · rw [Nat.log2_lt e]
    have : i.natAbs < 10 ^ 60 := by omega
    exact Nat.lt_of_lt_of_le this (by decide +kernel)
inductive cOpen (CP : Addr) (XA : Str → Addr) : List D → (D → Prop) → EK → Prop
  | mk {P : D → Prop} {E : EK} (rows : List (List Int)) (hr : PlanOk rows) (a b : Int) (ha : 0 ≤ a) (hb : 0 ≤ b) (k : if (a, b) ∉ stopsP rows then E (.ref (XA "NotStop")) [] [] else if 12 ≤ a + b then E (.ref (XA "TooLong")) [fldOf "TooLong"] [.int 12] else P (plD CP (opR rows (a, b)))) : cOpen CP XA [plD CP rows, plcD (a, b)] P E
theorem mo_cOpen {CP : Addr} {XA : Str → Addr} : ∀ (ds : List D) (P P' : D → Prop) (E E' : EK), (∀ d, P d → P' d) → (∀ v ns es, E v ns es → E' v ns es) → (cOpen CP XA) ds P E → (cOpen CP XA) ds P' E' := by
  intro ds P P' E E' hp he h
  cases h with
  | mk rows hr a b ha hb k => exact .mk rows hr a b ha hb (if q20 : (a, b) ∉ stopsP rows then (by rw [if_pos q20] at k ⊢; exact (by first | exact hp _ k | exact hp _ _ k | exact he _ _ _ k | (intros; apply hp; apply k <;> assumption))) else (by rw [if_neg q20] at k ⊢; exact (if q10 : 12 ≤ a + b then (by rw [if_pos q10] at k ⊢; exact (by first | exact hp _ k | exact hp _ _ k | exact he _ _ _ k | (intros; apply hp; apply k <;> assumption))) else (by rw [if_neg q10] at k ⊢; exact (by first | exact hp _ k | exact hp _ _ k | exact he _ _ _ k | (intros; apply hp; apply k <;> assumption))))))
abbrev S_open_at : Scp := { N := ["plan", "place", "a", "b"], sc := defScope (top 33), vs := [("plan", 0), ("place", 1), ("a", 2), ("b", 3)], ss := [("plan", 0), ("place", 1), ("a", 2), ("b", 3)], gl := ["MOST_LOOKS", "NotStop", "TooLong", "of_places"], lv := 5 }
local macro_rules | `(tactic| lsm_bools) => `(tactic| first | refine cHasStop.mk _ _ _ (by first | assumption | omega | decide) ?_ | refine cGoPlaces.mk _ (by first | assumption | omega | decide) ?_ | refine cOfP.mk _ _ (by first | assumption | omega | decide) (by first | assumption | omega | decide) (by first | assumption | omega | decide) ?_)
theorem b_open_at {U : Env1} {CP : Addr} (hC : PlanC U CP) {XA : Str → Addr} (hE : ErrC U XA xMade xRaised xNames) (F_Plan_has_stop : MethOk U.P U.w U.K U.mg U.base CP "has_stop" 3 (cHasStop CP)) (F_Plan_go_places : MethOk U.P U.w U.K U.mg U.base CP "go_places" 2 (cGoPlaces CP)) (F_of_places_cOfP : U.Def "of_places" 5 [] (cOfP CP)) (G H : Hp) (ds) (P) (E) (h : (cOpen CP XA) ds P E) : JSs S_open_at (U.cg G H fun _ => E) (defBody (top 33)) (startD S_open_at.N ds) { nx := fun _ => P .non, rt := P } := by
  obtain ⟨hcl, hcm, hn1, hn2, hins, hne, hob, hsf, hml, hcy⟩ := hC
  obtain ⟨rows, hr, a, b, ha, hb, k⟩ := h
  have hl := goP_len hr
  have h0 : 0 ≤ a + b := by omega
  have hs : 5000 < sizeLine := by decide
  kat_tups
  refine ite_nd (fun h => ?_) (fun h => ?_)
  · rw [if_pos h] at k
    kat_tups
    try exact k
  · rw [if_neg (fun q => q h)] at k
    kat_tups
    refine ite_d (fun h2 => ?_) (fun h2 => ?_)
    · rw [if_pos (show 12 ≤ a + b by omega)] at k
      kat_tups
      try exact k
    · rw [if_neg (show ¬ 12 ≤ a + b by omega)] at k
      have ok := psOk_open hr (z := (a, b)) ⟨ha, hb⟩ h (by dsimp only; omega)
      kat_tups
      refine of_od (of_cat (by rw [List.length_map]; simp only [List.length_cons, List.length_nil]; omega) ?_)
      rw [show ((goP rows).map plcD ++ [D.tup [D.int a, D.int b]]) = (goP rows ++ [(a, b)]).map plcD from by rw [List.map_append]; rfl]
      kat_tups
      exact cOfP.mk (goP rows ++ [(a, b)]) (opR rows (a, b)) ok.plan (by rw [List.length_append, List.length_singleton]; omega) ok.go k
inductive cMay (CP : Addr) : List D → (D → Prop) → EK → Prop
  | mk {P : D → Prop} {E : EK} (rows : List (List Int)) (hr : PlanOk rows) (a b : Int) (ha : 0 ≤ a) (hb : 0 ≤ b) (k : P (.bl (clOk rows (a, b)))) : cMay CP [plD CP rows, plcD (a, b)] P E
theorem mo_cMay {CP : Addr} : ∀ (ds : List D) (P P' : D → Prop) (E E' : EK), (∀ d, P d → P' d) → (∀ v ns es, E v ns es → E' v ns es) → (cMay CP) ds P E → (cMay CP) ds P' E' := by
  intro ds P P' E E' hp he h
  cases h with
  | mk rows hr a b ha hb k => exact .mk rows hr a b ha hb (by first | exact hp _ k | exact k.imp hp | (intros; apply hp; apply k <;> assumption))
abbrev S_may_close : Scp := { N := ["plan", "place", "a", "b"], sc := defScope (top 34), vs := [("plan", 0), ("place", 1), ("a", 2), ("b", 3)], ss := [("plan", 0), ("place", 1), ("a", 2), ("b", 3)], gl := [], lv := 4 }
local macro_rules | `(tactic| lsm_bools) => `(tactic| first | refine cContains.mk _ _ _ (by first | assumption | omega | decide) ?_)
theorem b_may_close {U : Env1} {CP : Addr} (hC : PlanC U CP) (F_Plan___contains__ : MethOk U.P U.w U.K U.mg U.base CP "__contains__" 3 (cContains CP)) (G H : Hp) (ds) (P) (E) (h : (cMay CP) ds P E) : JSs S_may_close (U.cg G H fun _ => E) (defBody (top 34)) (startD S_may_close.N ds) { nx := fun _ => P .non, rt := P } := by
  obtain ⟨hcl, hcm, hn1, hn2, hins, hne, hob, hsf, hml, hcy⟩ := hC
  obtain ⟨rows, hr, a, b, ha, hb, k⟩ := h
  have h0 : 0 ≤ a + b := by omega
  have hi := clOk_iff hr ha hb
  have e0 := inR_eq (rows := rows) h0
  have e1 := inR_eq (rows := rows) (a := a + 1) (b := b) (by omega)
  have e2 := inR_eq (rows := rows) (a := a + 1) (b := b - 1) (by omega)
  have e3 := inR_eq (rows := rows) (a := a) (b := b + 1) (by omega)
  have e4 := inR_eq (rows := rows) (a := a - 1) (b := b + 1) (by omega)
  have p1 : (0 : Int) ≤ a + 1 + b := by omega
  have p2 : (0 : Int) ≤ a + 1 + (b - 1) := by omega
  have p3 : (0 : Int) ≤ a + (b + 1) := by omega
  have p4 : (0 : Int) ≤ a - 1 + (b + 1) := by omega
  have kf : ¬ ((a, b) ∈ goP rows ∧ ¬ ((a + 1, b) ∈ goP rows ∧ (b = 0 ∨ (a + 1, b - 1) ∉ goP rows)) ∧ ¬ ((a, b + 1) ∈ goP rows ∧ (a = 0 ∨ (a - 1, b + 1) ∉ goP rows))) → P (.bl false) := fun h => by
    have : clOk rows (a, b) = false := by
      cases e : clOk rows (a, b) with
      | false => rfl
      | true => exact absurd (hi.mp e) h
    rwa [this] at k
  have kt : ((a, b) ∈ goP rows ∧ ¬ ((a + 1, b) ∈ goP rows ∧ (b = 0 ∨ (a + 1, b - 1) ∉ goP rows)) ∧ ¬ ((a, b + 1) ∈ goP rows ∧ (a = 0 ∨ (a - 1, b + 1) ∉ goP rows))) → P (.bl true) := fun h => by
    rwa [hi.mpr h] at k
  have tl : (a, b) ∈ goP rows → ¬ ((a + 1, b) ∈ goP rows ∧ (b = 0 ∨ (a + 1, b - 1) ∉ goP rows)) → JSs S_may_close (U.cg G H fun _ => E) ((defBody (top 34)).drop 3) [.fz (plD CP rows), .fz (plcD (a, b)), .fz (.int a), .fz (.int b)] { nx := fun _ => P .non, rt := P } := fun g1 g2 => by
    kat_tups
    rw [e3]
    refine ite_d (fun c1 => ?_) (fun c1 => ?_)
    · kat_tups
      refine ite_d (fun c2 => ?_) (fun c2 => ?_)
      · kat_tups
        exact kf fun q => q.2.2 ⟨c1, .inl c2⟩
      · kat_tups
        rw [e4]
        refine ite_nd (fun c3 => ?_) (fun c3 => ?_)
        · kat_tups
          exact kf fun q => q.2.2 ⟨c1, .inr c3⟩
        · kat_tups
          exact kt ⟨g1, g2, fun q => q.2.elim c2 fun w => w c3⟩
    · kat_tups
      exact kt ⟨g1, g2, fun q => c1 q.1⟩
  kat_tups
  rw [e0]
  refine ite_nd (fun c0 => ?_) (fun c0 => ?_)
  · kat_tups
    exact kf fun q => c0 q.1
  · kat_tups
    rw [e1]
    refine ite_d (fun c1 => ?_) (fun c1 => ?_)
    · kat_tups
      refine ite_d (fun c2 => ?_) (fun c2 => ?_)
      · kat_tups
        exact kf fun q => q.2.1 ⟨c1, .inl c2⟩
      · kat_tups
        rw [e2]
        refine ite_nd (fun c3 => ?_) (fun c3 => ?_)
        · kat_tups
          exact kf fun q => q.2.1 ⟨c1, .inr c3⟩
        · refine zs_nil ?_
          exact tl c0 fun q => q.2.elim c2 fun w => w c3
    · refine zs_nil ?_
      exact tl c0 fun q => c1 q.1
inductive cClose (CP : Addr) (XA : Str → Addr) : List D → (D → Prop) → EK → Prop
  | mk {P : D → Prop} {E : EK} (rows : List (List Int)) (hr : PlanOk rows) (a b : Int) (ha : 0 ≤ a) (hb : 0 ≤ b) (hs : a + b < 10 ^ 60) (k : if clOk rows (a, b) = true then P (plD CP (rowsP (restP rows (a, b)))) else E (.ref (XA "BadPlan")) [fldOf "BadPlan"] [.int (a + b)]) : cClose CP XA [plD CP rows, plcD (a, b)] P E
theorem mo_cClose {CP : Addr} {XA : Str → Addr} : ∀ (ds : List D) (P P' : D → Prop) (E E' : EK), (∀ d, P d → P' d) → (∀ v ns es, E v ns es → E' v ns es) → (cClose CP XA) ds P E → (cClose CP XA) ds P' E' := by
  intro ds P P' E E' hp he h
  cases h with
  | mk rows hr a b ha hb hs k => exact .mk rows hr a b ha hb hs (if q23 : clOk rows (a, b) = true then (by rw [if_pos q23] at k ⊢; exact (by first | exact hp _ k | exact hp _ _ k | exact he _ _ _ k | (intros; apply hp; apply k <;> assumption))) else (by rw [if_neg q23] at k ⊢; exact (by first | exact hp _ k | exact hp _ _ k | exact he _ _ _ k | (intros; apply hp; apply k <;> assumption))))
abbrev S_close_at : Scp := { N := ["plan", "place", "a", "b", "x"], sc := defScope (top 35), vs := [("plan", 0), ("place", 1), ("a", 2), ("b", 3)], ss := [("plan", 0), ("place", 1), ("a", 2), ("b", 3)], gl := ["BadPlan", "may_close", "of_places"], lv := 5 }
local macro_rules | `(tactic| lsm_bools) => `(tactic| first | refine cMay.mk _ (by first | assumption | omega | decide) _ _ (by first | assumption | omega | decide) (by first | assumption | omega | decide) ?_ | refine cGoPlaces.mk _ (by first | assumption | omega | decide) ?_ | refine cOfP.mk _ _ (by first | assumption | omega | decide) (by first | assumption | omega | decide) (by first | assumption | omega | decide) ?_)
local macro_rules | `(tactic| k_offL) => `(tactic| ((with_reducible apply at_98); first | refine jf_je (jf_lc (S' := { N := S_close_at.N, sc := relS _ S_close_at.sc, vs := [("x", 4), ("a", 2), ("b", 3)], ss := [("x", 4)], gl := [], lv := 5 }) (own := [("x", 4)]) (ok_B (by decide +kernel) (by decide +kernel) rfl rfl rfl (by decide +kernel)) ?_)))
theorem b_close_at {U : Env1} {CP : Addr} (hC : PlanC U CP) {XA : Str → Addr} (hE : ErrC U XA xMade xRaised xNames) (F_may_close : U.Def "may_close" 5 [] (cMay CP)) (F_Plan_go_places : MethOk U.P U.w U.K U.mg U.base CP "go_places" 2 (cGoPlaces CP)) (F_of_places_cOfP : U.Def "of_places" 5 [] (cOfP CP)) (G H : Hp) (ds) (P) (E) (h : (cClose CP XA) ds P E) : JSs S_close_at (U.cg G H fun _ => E) (defBody (top 35)) (startD S_close_at.N ds) { nx := fun _ => P .non, rt := P } := by
  obtain ⟨hcl, hcm, hn1, hn2, hins, hne, hob, hsf, hml, hcy⟩ := hC
  obtain ⟨rows, hr, a, b, ha, hb, hs, k⟩ := h
  have hl := goP_len hr
  have h0 : 0 ≤ a + b := by omega
  have hrl : (restP rows (a, b)).length ≤ 144 := Nat.le_trans (List.length_filter_le _ _) hl
  kat_tups
  cases hc : clOk rows (a, b) with
  | false =>
    rw [hc, if_neg (by decide)] at k
    kat_tups
    exact ⟨tolI (tol60 h0 hs), k⟩
  | true =>
    rw [hc, if_pos rfl] at k
    have ok := clOk_ps hr hc
    kat_tups
    refine lcF (fun x : Int × Int => if x ≠ (a, b) then some (plcD x) else none) (src_map (xs := goP rows)) (show (goP rows).length ≤ 1000000 by omega) ?_ ?_
    · rintro ⟨c, d⟩ _
      kat_tups
      refine ite_nd (fun h => ?_) (fun h => ?_)
      · kat_tups
        exact if_pos h
      · exact if_neg (fun q => q h)
    · rw [fm_if]
      kat_tups
      exact cOfP.mk (restP rows (a, b)) (rowsP (restP rows (a, b))) ok.plan (by omega) ok.go k
end
set_option Elab.async false
set_option linter.all false
set_option maxRecDepth 100000
set_option maxHeartbeats 4000000
section
/-! the go places opened one by one -/
theorem rowsP_congr {ps qs : List (Int × Int)} (h : ∀ p, p ∈ ps ↔ p ∈ qs) : rowsP ps = rowsP qs := by
  unfold rowsP
  congr 1
  refine List.map_congr_left fun n _ => rowN_congr h
theorem opR_ok {rows : List (List Int)} (hr : PlanOk rows) {z : Int × Int} (hz : 0 ≤ z.1 ∧ 0 ≤ z.2) (hs : z ∈ stopsP rows) (hl : z.1 + z.2 < 12) : PlanOk (opR rows z) := (psOk_open hr hz hs hl).plan
theorem opR_go {rows : List (List Int)} (hr : PlanOk rows) {z : Int × Int} (hz : 0 ≤ z.1 ∧ 0 ≤ z.2) (hs : z ∈ stopsP rows) (hl : z.1 + z.2 < 12) (p : Int × Int) : p ∈ goP rows ++ [z] ↔ p ∈ goP (opR rows z) := (psOk_open hr hz hs hl).go p
theorem rowsP_nil : rowsP [] = [] := by
  have h : ∀ n, rowN [] n = [] := fun n => by simp [rowN]
  unfold rowsP
  simp [h]
theorem pre_step {rows : List (List Int)} (hr : PlanOk rows) {d rest : List (Int × Int)} {z : Int × Int} (e : goP rows = d ++ z :: rest) :
    PsOk d ∧ PsOk (d ++ [z]) ∧ z ∈ stopsP (rowsP d) ∧ opR (rowsP d) z = rowsP (d ++ [z]) ∧ z.1 + z.2 < 12 ∧ 0 ≤ z.1 ∧ 0 ≤ z.2 := by
  have ok := psOk_pre hr e
  have ok2 : PsOk (d ++ [z]) := psOk_pre hr (rest := rest) (by rw [e]; simp)
  have hz : z ∈ d ++ [z] := by simp
  have hn := ok2.nn z hz
  have hl := ok2.lt hz
  have nd := goP_nd (row_asc hr)
  rw [e] at nd
  have hzd : z ∉ d := fun q => (List.nodup_append.mp nd).2.2 z q z (.head _) rfl
  have hgo : ∀ p, p ∈ d ↔ p ∈ goP (rowsP d) := ok.go
  refine ⟨ok, ok2, (stop_reach (by omega)).mpr ⟨reach_mem.mpr ?_, fun q => hzd ((hgo z).mpr q)⟩, ?_, hl, hn.1, hn.2⟩
  · have back : ∀ w : Int × Int, w ∈ d ++ [z] → w ≠ z → w ∈ goP (rowsP d) := fun w h1 h2 => by
      rcases List.mem_append.mp h1 with q | q
      · exact (hgo w).mp q
      · exact absurd (List.mem_singleton.mp q) h2
    rcases ok2.pred hz with q | q | q
    · exact .inl (Prod.ext q.1 q.2)
    · refine .inr ⟨_, back _ q (fun u => ?_), ?_⟩
      · have := congrArg Prod.fst u
        dsimp only at this
        omega
      · unfold succs
        simp
    · refine .inr ⟨_, back _ q (fun u => ?_), ?_⟩
      · have := congrArg Prod.snd u
        dsimp only at this
        omega
      · unfold succs
        simp
  · unfold opR
    refine rowsP_congr fun p => ?_
    rw [List.mem_append, List.mem_append, hgo p]
def stepD (d : List (Int × Int)) (z : Int × Int) : D := .tup [plcD z, .int ((stopsP (rowsP (d ++ [z]))).length : Nat), .int ((rowsP (d ++ [z])).length : Nat), .int ((gapsR (rowsP (d ++ [z]))).length : Nat)]
def stepsL (pre : List (Int × Int)) : List (Int × Int) → List D
  | [] => []
  | z :: rest => stepD pre z :: stepsL (pre ++ [z]) rest
theorem stepsL_snoc : ∀ (d pre : List (Int × Int)) (z : Int × Int), stepsL pre (d ++ [z]) = stepsL pre d ++ [stepD (pre ++ d) z]
  | [], pre, z => by simp [stepsL]
  | x :: d, pre, z => by
    rw [List.cons_append]
    unfold stepsL
    rw [stepsL_snoc d (pre ++ [x]) z]
    simp
theorem stepsL_len : ∀ (d pre : List (Int × Int)), (stepsL pre d).length = d.length
  | [], _ => rfl
  | x :: d, pre => by
    unfold stepsL
    rw [List.length_cons, List.length_cons, stepsL_len]
/-! row by row -/
def atNK (rows : List (List Int)) (n k : Nat) : List (Int × Int) := goP (rows.take n) ++ ((rowAt rows n).take k).map fun a => (a, (n : Int) - a)
theorem goP_take {rows : List (List Int)} {n : Nat} {r : List Int} (h : rows[n]? = some r) : goP (rows.take (n + 1)) = goP (rows.take n) ++ r.map fun a => (a, (n : Int) - a) := by
  have hn := (List.getElem?_eq_some_iff.mp h).1
  rw [List.take_add_one, h]
  show goP (rows.take n ++ [r]) = _
  rw [goP_snoc, List.length_take, Nat.min_eq_left (by omega)]
theorem goP_drop {rows : List (List Int)} (n : Nat) : ∃ rest, goP rows = goP (rows.take n) ++ rest := by
  have e : rows = rows.take n ++ rows.drop n := (List.take_append_drop n rows).symm
  refine ⟨((rows.drop n).zipIdx (0 + (rows.take n).length)).flatMap fun x => x.1.map fun a => (a, (x.2 : Int) - a), ?_⟩
  conv => lhs; rw [e]
  unfold goP
  rw [List.zipIdx_append, List.flatMap_append]
theorem atNK_zero {rows : List (List Int)} {n : Nat} : atNK rows n 0 = goP (rows.take n) := by simp [atNK]
theorem atNK_end {rows : List (List Int)} {n : Nat} {r : List Int} (h : rows[n]? = some r) : atNK rows n r.length = goP (rows.take (n + 1)) := by
  rw [goP_take h]
  unfold atNK rowAt
  rw [h]
  simp
theorem atNK_succ {rows : List (List Int)} {n k : Nat} {r : List Int} (h : rows[n]? = some r) (hk : k < r.length) : atNK rows n (k + 1) = atNK rows n k ++ [(r[k], (n : Int) - r[k])] := by
  unfold atNK rowAt
  rw [h]
  show _ ++ (r.take (k + 1)).map _ = (_ ++ (r.take k).map _) ++ _
  rw [List.take_add_one, List.getElem?_eq_getElem hk, List.append_assoc, List.map_append]
  rfl
theorem atNK_split {rows : List (List Int)} {n k : Nat} {r : List Int} (h : rows[n]? = some r) (hk : k < r.length) : ∃ rest, goP rows = atNK rows n k ++ (r[k], (n : Int) - r[k]) :: rest := by
  obtain ⟨rest, e⟩ := goP_drop (rows := rows) (n + 1)
  refine ⟨(r.drop (k + 1)).map (fun a => (a, (n : Int) - a)) ++ rest, ?_⟩
  rw [e, goP_take h]
  unfold atNK rowAt
  rw [h]
  have e2 : r = r.take k ++ r[k] :: r.drop (k + 1) := by simp
  have e3 : r.map (fun a => (a, (n : Int) - a)) = (r.take k).map (fun a => (a, (n : Int) - a)) ++ (r[k], (n : Int) - r[k]) :: (r.drop (k + 1)).map (fun a => (a, (n : Int) - a)) := by
    have := congrArg (List.map fun a => (a, (n : Int) - a)) e2
    rw [List.map_append, List.map_cons] at this
    exact this
  rw [e3]
  show _ = (goP (rows.take n) ++ (r.take k).map _) ++ _
  simp only [List.append_assoc, List.cons_append]
theorem rowsP_NK {rows : List (List Int)} (hr : PlanOk rows) {n k : Nat} {r : List Int} (h : rows[n]? = some r) (hk : k < r.length) : rowsP (atNK rows n (k + 1)) = rows.take n ++ [r.take (k + 1)] := by
  have hn := (List.getElem?_eq_some_iff.mp h).1
  have ok1 := take_ok0 hr n
  have ro := rowOk_at hr h
  have okp : PlanOk (rows.take n ++ [r.take (k + 1)]) := by
    refine ⟨by rw [List.length_append, List.length_take, List.length_singleton]; have := hr.1; omega, pl_append ok1.2 ?_⟩
    have eg : (((rows.take n).map nx).getLast?).getD [0] = ((metR rows)[n]?).getD [] := by
      cases n with
      | zero => rfl
      | succ m =>
        rw [metR_at (List.getElem?_eq_getElem (show m < rows.length by omega)), List.getLast?_map, List.getLast?_take, if_neg (by omega)]
        rw [show m + 1 - 1 = m by omega, List.getElem?_eq_getElem (show m < rows.length by omega)]
        rfl
    rw [eg]
    refine ⟨fun z => ?_, ro.2.1.sublist (List.take_sublist _ _), fun a ha => ro.2.2 a (List.mem_of_mem_take ha)⟩
    have := congrArg List.length z
    rw [List.length_take, List.length_nil] at this
    omega
  refine (psOk_of okp fun p => ?_).2
  rw [goP_snoc, List.length_take, Nat.min_eq_left (by omega)]
  unfold atNK rowAt
  rw [h]
  rfl
theorem zip_take : ∀ (r : List Int) (k : Nat), (r.take (k + 1)).zip (r.take (k + 1)).tail = (r.zip r.tail).take k
  | [], k => by simp
  | [a], k => by simp
  | a :: b :: r, 0 => by simp
  | a :: b :: r, k + 1 => by
    have ih := zip_take (b :: r) k
    simp only [List.take_succ_cons, List.tail_cons, List.zip_cons_cons] at ih ⊢
    rw [ih]
def gapN (n : Int) (r : List Int) (k : Nat) : Nat := (gapsOf n (r.take k)).length
theorem gapN_zero {n : Int} {r : List Int} : gapN n r 0 = 0 := rfl
theorem gapN_one {n : Int} {r : List Int} : gapN n r 1 = 0 := by
  unfold gapN
  rw [gapsOf_eq, zip_take]
  rfl
theorem gapN_succ {n : Int} {r : List Int} {k : Nat} (h : k + 1 < r.length) : gapN n r (k + 2) = gapN n r (k + 1) + if r[k] + 2 ≤ r[k + 1] then 1 else 0 := by
  unfold gapN
  rw [gapsOf_eq, zip_take, gapsOf_eq, zip_take, List.take_add_one, zip_at h, List.filterMap_append, List.length_append]
  congr 1
  unfold gapP
  by_cases q : r[k] + 2 ≤ r[k + 1]
  · simp [q]
  · simp [q]
theorem gapN_end {rows : List (List Int)} {n : Nat} {r : List Int} (h : rows[n]? = some r) : (gapsR (rows.take n)).length + gapN n r r.length = (gapsR (rows.take (n + 1))).length := by
  have hn := (List.getElem?_eq_some_iff.mp h).1
  rw [List.take_add_one, h]
  show _ = (gapsR (rows.take n ++ [r])).length
  rw [gapsR_snoc, List.length_append, List.length_take, Nat.min_eq_left (by omega)]
  unfold gapN
  rw [List.take_of_length_le (Nat.le_refl _)]
/-- what is told of one place -/
theorem step_vals {rows : List (List Int)} (hr : PlanOk rows) {n k : Nat} {r : List Int} (h : rows[n]? = some r) (hk : k < r.length) :
    (rowsP (atNK rows n (k + 1))).length = n + 1 ∧ (gapsR (rowsP (atNK rows n (k + 1)))).length = (gapsR (rows.take n)).length + gapN n r (k + 1) ∧ (reR (atNK rows n (k + 1))).length = (stopsP (rowsP (atNK rows n (k + 1)))).length + (atNK rows n (k + 1)).length := by
  have hn := (List.getElem?_eq_some_iff.mp h).1
  have e := rowsP_NK hr h hk
  obtain ⟨rest, e2⟩ := atNK_split h hk
  have ok := (pre_step hr e2).2.1
  rw [← atNK_succ h hk] at ok
  refine ⟨by rw [e, List.length_append, List.length_take, List.length_singleton, Nat.min_eq_left (by omega)], ?_, ?_⟩
  · rw [e, gapsR_snoc, List.length_append, List.length_take, Nat.min_eq_left (by omega)]
    rfl
  · have c := stops_count ok.plan
    have l := reR_len ok.plan ok.go
    have nd : (atNK rows n (k + 1)).Nodup := by
      have nd := goP_nd (row_asc hr)
      rw [e2] at nd
      rw [atNK_succ h hk]
      exact nd.sublist (List.Sublist.append_left (List.singleton_sublist.mpr (.head _)) _)
    have l2 := nd_len nd (goP_nd (row_asc ok.plan)) ok.go
    omega
/-! .. walked -/
local macro_rules | `(tactic| kct_strs) => `(tactic| first | (with_reducible refine od_inP ?_) | (with_reducible refine od_ninP ?_) | (with_reducible refine od_eqP ?_) | (with_reducible refine od_neP ?_))
theorem planOk_nil : PlanOk [] := ⟨by decide, trivial⟩
inductive cGrow (CP : Addr) (XA : Str → Addr) : List D → (D → Prop) → EK → Prop
  | mk {P : D → Prop} {E : EK} (rows : List (List Int)) (hr : PlanOk rows) (a b : Int) (ha : 0 ≤ a) (hb : 0 ≤ b) (k : if (a, b) ∉ stopsP rows then E (.ref (XA "NotStop")) [] [] else if 12 ≤ a + b then E (.ref (XA "TooLong")) [fldOf "TooLong"] [.int 12] else P (.tup [plD CP (opR rows (a, b)), .int ((stopsP (opR rows (a, b))).length - (stopsP rows).length), .int ((opR rows (a, b)).length - rows.length), .int ((gapsR (opR rows (a, b))).length - (gapsR rows).length)])) : cGrow CP XA [plD CP rows, plcD (a, b)] P E
theorem mo_cGrow {CP : Addr} {XA : Str → Addr} : ∀ (ds : List D) (P P' : D → Prop) (E E' : EK), (∀ d, P d → P' d) → (∀ v ns es, E v ns es → E' v ns es) → (cGrow CP XA) ds P E → (cGrow CP XA) ds P' E' := by
  intro ds P P' E E' hp he h
  cases h with
  | mk rows hr a b ha hb k => exact .mk rows hr a b ha hb (if q20 : (a, b) ∉ stopsP rows then (by rw [if_pos q20] at k ⊢; exact (by first | exact hp _ k | exact hp _ _ k | exact he _ _ _ k | (intros; apply hp; apply k <;> assumption))) else (by rw [if_neg q20] at k ⊢; exact (if q10 : 12 ≤ a + b then (by rw [if_pos q10] at k ⊢; exact (by first | exact hp _ k | exact hp _ _ k | exact he _ _ _ k | (intros; apply hp; apply k <;> assumption))) else (by rw [if_neg q10] at k ⊢; exact (by first | exact hp _ k | exact hp _ _ k | exact he _ _ _ k | (intros; apply hp; apply k <;> assumption))))))
abbrev S_grow : Scp := { N := ["plan", "place", "wider", "stops", "gaps"], sc := defScope (top 36), vs := [("plan", 0), ("place", 1), ("wider", 2), ("stops", 3), ("gaps", 4)], ss := [("plan", 0), ("place", 1), ("wider", 2), ("stops", 3), ("gaps", 4)], gl := ["len", "open_at"], lv := 6 }
local macro_rules | `(tactic| lsm_bools) => `(tactic| first | refine cOpen.mk _ (by first | assumption | omega | decide) _ _ (by first | assumption | omega | decide) (by first | assumption | omega | decide) ?_ | refine cStops.mk _ (by first | assumption | omega | decide) ?_ | refine cLongest.mk _ ?_ | refine cGaps.mk _ (by first | assumption | omega | decide) ?_)
theorem b_grow {U : Env1} {CP : Addr} (hC : PlanC U CP) {XA : Str → Addr} (hE : ErrC U XA xMade xRaised xNames) (hB : Blt U ["len"]) (F_open_at : U.Def "open_at" 6 [] (cOpen CP XA)) (F_Plan_stops : MethOk U.P U.w U.K U.mg U.base CP "stops" 3 (cStops CP)) (F_Plan_longest : PropOk U.P U.w U.K U.mg U.base CP "longest" 2 (cLongest CP)) (F_Plan_gaps : PropOk U.P U.w U.K U.mg U.base CP "gaps" 3 (cGaps CP)) (G H : Hp) (ds) (P) (E) (h : (cGrow CP XA) ds P E) : JSs S_grow (U.cg G H fun _ => E) (defBody (top 36)) (startD S_grow.N ds) { nx := fun _ => P .non, rt := P } := by
  obtain ⟨hcl, hcm, hn1, hn2, hins, hne, hob, hsf, hml, hcy⟩ := hC
  obtain ⟨rows, hr, a, b, ha, hb, k⟩ := h
  kat_tups
  by_cases h : (a, b) ∈ stopsP rows
  · rw [if_neg (fun q => q h)] at k ⊢
    by_cases h2 : 12 ≤ a + b
    · rw [if_pos h2] at k ⊢
      exact k
    · rw [if_neg h2] at k ⊢
      have ho := opR_ok hr (z := (a, b)) ⟨ha, hb⟩ h (by dsimp only; omega)
      kat_tups
      simp only [List.length_map]
      kat_tups
      try exact k
  · rw [if_pos h] at k ⊢
    exact k
inductive cOpenings (CP : Addr) : List D → (D → Prop) → EK → Prop
  | mk {P : D → Prop} {E : EK} (rows : List (List Int)) (hr : PlanOk rows) (k : P (.lst (stepsL [] (goP rows)))) : cOpenings CP [plD CP rows] P E
theorem mo_cOpenings {CP : Addr} : ∀ (ds : List D) (P P' : D → Prop) (E E' : EK), (∀ d, P d → P' d) → (∀ v ns es, E v ns es → E' v ns es) → (cOpenings CP) ds P E → (cOpenings CP) ds P' E' := by
  intro ds P P' E E' hp he h
  cases h with
  | mk rows hr k => exact .mk rows hr (by first | exact hp _ k | exact k.imp hp | (intros; apply hp; apply k <;> assumption))
abbrev S_openings : Scp := { N := ["plan", "out", "opened", "place"], sc := defScope (top 37), vs := [("plan", 0), ("out", 1), ("opened", 2), ("place", 3)], ss := [("plan", 0), ("out", 1), ("opened", 2), ("place", 3)], gl := ["Plan", "len", "open_at"], lv := 6 }
local macro_rules | `(tactic| lsm_bools) => `(tactic| first | refine cPlan.mk _ (by first | assumption | omega | decide) ?_ | refine cOpen.mk _ (by first | assumption | omega | decide) _ _ (by first | assumption | omega | decide) (by first | assumption | omega | decide) ?_ | refine cGoPlaces.mk _ (by first | assumption | omega | decide) ?_ | refine cStops.mk _ (by first | assumption | omega | decide) ?_ | refine cLongest.mk _ ?_ | refine cGaps.mk _ (by first | assumption | omega | decide) ?_)
theorem b_openings {U : Env1} {CP : Addr} (hC : PlanC U CP) {XA : Str → Addr} (hE : ErrC U XA xMade xRaised xNames) (hB : Blt U ["len"]) (F_Plan : MakeOk U.P U.w U.K U.mg U.base "Plan" CP 3 cPlan) (F_open_at : U.Def "open_at" 6 [] (cOpen CP XA)) (F_Plan_go_places : MethOk U.P U.w U.K U.mg U.base CP "go_places" 2 (cGoPlaces CP)) (F_Plan_stops : MethOk U.P U.w U.K U.mg U.base CP "stops" 3 (cStops CP)) (F_Plan_longest : PropOk U.P U.w U.K U.mg U.base CP "longest" 2 (cLongest CP)) (F_Plan_gaps : PropOk U.P U.w U.K U.mg U.base CP "gaps" 3 (cGaps CP)) (G H : Hp) (ds) (P) (E) (h : (cOpenings CP) ds P E) : JSs S_openings (U.cg G H fun _ => E) (defBody (top 37)) (startD S_openings.N ds) { nx := fun _ => P .non, rt := P } := by
  obtain ⟨hcl, hcm, hn1, hn2, hins, hne, hob, hsf, hml, hcy⟩ := hC
  obtain ⟨rows, hr, k⟩ := h
  have hl := goP_len hr
  have hs : 5000 < sizeLine := by decide
  kat_tups
  refine cPlan.mk [] planOk_nil ?_
  kat_tups
  refine eachD (fun d rest δ' => ∃ s3 : Sl, δ' = [.fz (plD CP rows), .ow (stepsL [] d), .fz (plD CP (rowsP d)), s3]) src_map ⟨.no, by rw [rowsP_nil]; rfl⟩ ?_ ?_
  · rintro d ⟨a, b⟩ rest δ' hx ⟨s3, rfl⟩
    obtain ⟨ok, ok2, h1, h2, h3, h4, h5⟩ := pre_step hr hx
    have p1 := ok.plan
    have p2 := ok2.plan
    have hd : (stepsL [] d).length ≤ 144 := by
      rw [stepsL_len]
      have := congrArg List.length hx
      rw [List.length_append] at this
      omega
    have e := stepsL_snoc d [] (a, b)
    rw [List.nil_append] at e
    dsimp only at h3 h4 h5
    rw [e]
    generalize stepsL [] d = w at hd
    kat_tups
    rw [if_neg (fun q => q h1), if_neg (by omega), h2]
    kat_tups
    simp only [List.length_map]
    refine ⟨by omega, ?_⟩
    exact ⟨.fz (plcD (a, b)), rfl⟩
  · rintro δ' ⟨s3, rfl⟩
    kat_tups
    try exact k
inductive cNext : List D → (List D → Prop) → EK → Prop
  | mk {P : List D → Prop} {E : EK} (a b : Int) (k : P ((succs (a, b)).map plcD)) : cNext [plcD (a, b)] P E
theorem mo_cNext : ∀ (ds : List D) (P P' : List D → Prop) (E E' : EK), (∀ d, P d → P' d) → (∀ v ns es, E v ns es → E' v ns es) → cNext ds P E → cNext ds P' E' := by
  intro ds P P' E E' hp he h
  cases h with
  | mk a b k => exact .mk a b (by first | exact hp _ k | exact k.imp hp | (intros; apply hp; apply k <;> assumption))
abbrev S__law_next : Scp := { N := ["z"], sc := defScope (top 63), vs := [("z", 0)], ss := [("z", 0)], gl := [], lv := 1 }
theorem b__law_next {U : Env1}  (G H : Hp) (ds) (P) (E) (h : cNext ds P E) : JSs S__law_next (U.cgF G H (fun _ => E) (RfL P)) (defBody (top 63)) (startD S__law_next.N ds) { nx := fun _ => False, rt := fun _ => False } := by
  obtain ⟨a, b, k⟩ := h
  kat_tups
  try exact k
inductive cSteps : List D → (D → Prop) → EK → Prop
  | mk {P : D → Prop} {E : EK} (rows : List (List Int)) (hr : PlanOk rows) (k : P (.tup [.lst ((reR (goP rows)).map plcD), .lst (stepsL [] (goP rows))])) : cSteps [.lst (rows.map rowL)] P E
theorem mo_cSteps : ∀ (ds : List D) (P P' : D → Prop) (E E' : EK), (∀ d, P d → P' d) → (∀ v ns es, E v ns es → E' v ns es) → cSteps ds P E → cSteps ds P' E' := by
  intro ds P P' E E' hp he h
  cases h with
  | mk rows hr k => exact .mk rows hr (by first | exact hp _ k | exact k.imp hp | (intros; apply hp; apply k <;> assumption))
abbrev S__law_steps : Scp := { N := ["rows", "reached", "steps", "gaps_here", "n", "k", "z", "y"], sc := defScope (top 64), vs := [("rows", 0), ("reached", 1), ("steps", 2), ("gaps_here", 3), ("n", 4), ("k", 5), ("z", 6)], ss := [("rows", 0), ("reached", 1), ("steps", 2), ("gaps_here", 3), ("n", 4), ("k", 5), ("z", 6)], gl := ["_law_next", "len", "range"], lv := 2 }
local macro_rules | `(tactic| lsm_bools) => `(tactic| first | refine cNext.mk _ _ ?_)
local macro_rules | `(tactic| k_offL) => `(tactic| ((with_reducible apply at_98); first | refine jf_je (jf_lc (S' := { N := S__law_steps.N, sc := relS _ S__law_steps.sc, vs := [("y", 7), ("reached", 1)], ss := [("y", 7)], gl := [], lv := 2 }) (own := [("y", 7)]) (ok_B (by decide +kernel) (by decide +kernel) rfl rfl rfl (by decide +kernel)) ?_)))
local macro_rules | `(tactic| kd_addW) => `(tactic| first | ((with_reducible apply at_105); refine zs_set (by ktu_offI) ?_))
theorem b__law_steps {U : Env1} (hB : Blt U ["range", "len"]) (F__law_next : U.DefF "_law_next" 2 [] cNext) (G H : Hp) (ds) (P) (E) (h : cSteps ds P E) : JSs S__law_steps (U.cg G H fun _ => E) (defBody (top 64)) (startD S__law_steps.N ds) { nx := fun _ => P .non, rt := P } := by
  obtain ⟨rows, hr, k⟩ := h
  have hs : 5000 < sizeLine := by decide
  have hml : (rows.map rowL).length = rows.length := List.length_map _
  have a1 := hr.1
  have gl := goP_len hr
  kat_tups
  refine eachD (fun d rest δ' => ∃ s4 s5 s6 : Sl, δ' = [.fz (.lst (rows.map rowL)), .fz (.lst ((reR (goP (rows.take d.length))).map plcD)), .ow (stepsL [] (goP (rows.take d.length))), .fz (.int ((gapsR (rows.take d.length)).length : Nat)), s4, s5, s6, .no]) src_rg1 ⟨_, _, _, rfl⟩ ?_ ?_
  · rintro d x rest δ' hx ⟨s4, s5, s6, rfl⟩
    obtain ⟨e1, e2⟩ := rgD_split hx
    simp only [Int.zero_add] at e1 e2
    subst e1
    rw [hml] at e2
    have hd : d.length < rows.length := by omega
    have er := List.getElem?_eq_getElem hd
    have hg := hr.2.get gd0 er
    have hgl := hg.len
    have atr : L2.atI (rows.map rowL) ((d.length : Nat) : Int) = some (rowL rows[d.length]) := by
      rw [atI_mapG (by omega) (by omega)]
      rfl
    generalize hw : rows[d.length] = r at *
    have hrm : (r.map D.int).length = r.length := List.length_map _
    kat_tups
    refine ixd_lst atr ?_
    kat_tups
    refine eachD (fun d2 r2 δ' => ∃ s5 s6 : Sl, δ' = [.fz (.lst (rows.map rowL)), .fz (.lst ((reR (atNK rows d.length d2.length)).map plcD)), .ow (stepsL [] (atNK rows d.length d2.length)), .fz (.int (((gapsR (rows.take d.length)).length + gapN d.length r d2.length : Nat) : Int)), .fz (.int (d.length : Nat)), s5, s6, .no]) src_rg1 ⟨s5, s6, ?_⟩ ?_ ?_
    · rw [List.length_nil, atNK_zero, gapN_zero, Nat.add_zero]
      rfl
    · rintro d2 y r2 δ' hx2 ⟨s5, s6, rfl⟩
      obtain ⟨e3, e4⟩ := rgD_split hx2
      simp only [Int.zero_add] at e3 e4
      subst e3
      rw [hrm] at e4
      have hk : d2.length < r.length := by omega
      have at1 : L2.atI (r.map D.int) ((d2.length : Nat) : Int) = some (.int r[d2.length]) := atI_map hk
      have eS := atNK_succ er hk
      obtain ⟨v1, v2, v3⟩ := step_vals hr er hk
      obtain ⟨rest2, eg⟩ := atNK_split er hk
      have hle : (atNK rows d.length d2.length).length ≤ 144 := by
        have := congrArg List.length eg
        rw [List.length_append] at this
        omega
      have hre : (reR (atNK rows d.length d2.length)).length ≤ 400 := by
        have key : ∀ (l re : List (Int × Int)), (l.foldl stepR re).length ≤ re.length + 2 * l.length := by
          intro l
          induction l with
          | nil => intro re; simp
          | cons x l ih =>
            intro re
            rw [List.foldl_cons]
            have h1 := ih (stepR re x)
            have h2 : (stepR re x).length ≤ re.length + 2 := by
              unfold stepR
              rw [List.length_append]
              have := List.length_filter_le (fun y => decide (y ∉ re)) (succs x)
              have : (succs x).length = 2 := rfl
              omega
            rw [List.length_cons]
            omega
        have := key (atNK rows d.length d2.length) [(0, 0)]
        unfold reR
        simp only [List.length_cons, List.length_nil] at this
        omega
      have eR : reR (atNK rows d.length (d2.length + 1)) = stepR (reR (atNK rows d.length d2.length)) (r[d2.length], (d.length : Int) - r[d2.length]) := by
        rw [eS]
        unfold reR
        rw [List.foldl_append]
        rfl
      have eL : stepsL [] (atNK rows d.length (d2.length + 1)) = stepsL [] (atNK rows d.length d2.length) ++ [stepD (atNK rows d.length d2.length) (r[d2.length], (d.length : Int) - r[d2.length])] := by
        rw [eS, stepsL_snoc, List.nil_append]
      have hsl : (stepsL [] (atNK rows d.length d2.length)).length = (atNK rows d.length d2.length).length := stepsL_len _ _
      have hsD : stepD (atNK rows d.length d2.length) (r[d2.length], (d.length : Int) - r[d2.length]) = .tup [plcD (r[d2.length], (d.length : Int) - r[d2.length]), .int (((reR (atNK rows d.length (d2.length + 1))).length : Int) - (stepsL [] (atNK rows d.length d2.length)).length - 1), .int ((d.length : Int) + 1), .int (((gapsR (rows.take d.length)).length + gapN d.length r (d2.length + 1) : Nat) : Int)] := by
        unfold stepD
        rw [← eS, v1, v2, hsl, v3]
        have : (atNK rows d.length (d2.length + 1)).length = (atNK rows d.length d2.length).length + 1 := by rw [eS, List.length_append]; rfl
        rw [this]
        congr 4
        omega
      have tl : ∀ (N B : List Sl → Prop), (∀ s5 s6, N [.fz (.lst (rows.map rowL)), .fz (.lst ((reR (atNK rows d.length (d2.length + 1))).map plcD)), .ow (stepsL [] (atNK rows d.length (d2.length + 1))), .fz (.int (((gapsR (rows.take d.length)).length + gapN d.length r (d2.length + 1) : Nat) : Int)), .fz (.int (d.length : Nat)), s5, s6, .no]) → JSs S__law_steps (U.cg G H fun _ => E) ((forBody ((forBody ((defBody (top 64)).getD 3 (.Pass ⟨0, 0, 0, 0⟩))).getD 0 (.Pass ⟨0, 0, 0, 0⟩))).drop 3) [.fz (.lst (rows.map rowL)), .fz (.lst ((reR (atNK rows d.length (d2.length + 1))).map plcD)), .ow (stepsL [] (atNK rows d.length d2.length)), .fz (.int (((gapsR (rows.take d.length)).length + gapN d.length r (d2.length + 1) : Nat) : Int)), .fz (.int (d.length : Nat)), .fz (.int (d2.length : Nat)), .fz (plcD (r[d2.length], (d.length : Int) - r[d2.length])), .no] { nx := N, rt := P, bk := B, ct := N } := fun N B hN => by
        rw [eL, hsD] at hN
        kat_tups
        rw [List.length_map]
        refine ⟨by omega, ?_⟩
        exact hN _ _
      kat_tups
      refine ixd_lst atr ?_
      kat_tups
      refine ixd_lst at1 ?_
      kat_tups
      refine ixd_lst atr ?_
      kat_tups
      refine ixd_lst at1 ?_
      kat_tups
      refine lcF (fun y : Int × Int => if y ∉ reR (atNK rows d.length d2.length) then some (plcD y) else none) (src_map (xs := succs (r[d2.length], (d.length : Int) - r[d2.length]))) (show 2 ≤ 1000000 by decide) ?_ ?_
      · rintro ⟨c, e⟩ _
        kat_tups
        refine ite_nd (fun h => ?_) (fun h => ?_)
        · kat_tups
          exact if_pos h
        · exact if_neg (fun q => q h)
      rw [fm_if]
      refine of_od (of_cat ?_ ?_)
      · have := List.length_filter_le (fun y => decide (y ∉ reR (atNK rows d.length d2.length))) (succs (r[d2.length], (d.length : Int) - r[d2.length]))
        have e2 : (succs (r[d2.length], (d.length : Int) - r[d2.length])).length = 2 := rfl
        rw [List.length_map, List.length_map]
        omega
      rw [← List.map_append, show reR (atNK rows d.length d2.length) ++ (succs (r[d2.length], (d.length : Int) - r[d2.length])).filter (fun y => decide (y ∉ reR (atNK rows d.length d2.length))) = reR (atNK rows d.length (d2.length + 1)) from eR.symm]
      have fin : ∀ (s5 s6 : Sl), ∃ s5' s6' : Sl, ([.fz (.lst (rows.map rowL)), .fz (.lst ((reR (atNK rows d.length (d2.length + 1))).map plcD)), .ow (stepsL [] (atNK rows d.length (d2.length + 1))), .fz (.int (((gapsR (rows.take d.length)).length + gapN d.length r (d2.length + 1) : Nat) : Int)), .fz (.int (d.length : Nat)), s5, s6, .no] : List Sl) = [.fz (.lst (rows.map rowL)), .fz (.lst ((reR (atNK rows d.length (d2 ++ [((d2.length : Nat) : Int)]).length)).map plcD)), .ow (stepsL [] (atNK rows d.length (d2 ++ [((d2.length : Nat) : Int)]).length)), .fz (.int (((gapsR (rows.take d.length)).length + gapN d.length r (d2 ++ [((d2.length : Nat) : Int)]).length : Nat) : Int)), .fz (.int (d.length : Nat)), s5', s6', .no] := fun s5 s6 => by
        rw [List.length_append, List.length_singleton]
        exact ⟨_, _, rfl⟩
      kat_tups
      refine ite_d (fun c1 => ?_) (fun c1 => ?_)
      · obtain ⟨m, hm⟩ : ∃ m, d2.length = m + 1 := ⟨d2.length - 1, by omega⟩
        have at0 : L2.atI (r.map D.int) ((d2.length : Nat) - 1 : Int) = some (.int (r[d2.length - 1]'(by omega))) := by
          have := atI_map (is := r) (i := d2.length - 1) (by omega)
          rwa [show ((d2.length - 1 : Nat) : Int) = (d2.length : Nat) - 1 by omega] at this
        have gs : gapN d.length r (d2.length + 1) = gapN d.length r d2.length + if (r[d2.length - 1]'(by omega)) + 2 ≤ r[d2.length] then 1 else 0 := by
          have := gapN_succ (n := (d.length : Int)) (r := r) (k := m) (by omega)
          simp only [hm]
          exact this
        kat_tups
        refine ixd_lst atr ?_
        kat_tups
        refine ixd_lst at1 ?_
        kat_tups
        refine ixd_lst atr ?_
        kat_tups
        refine ixd_lst at0 ?_
        kat_tups
        refine ite_d (fun c2 => ?_) (fun c2 => ?_)
        · rw [if_pos (by omega)] at gs
          repeat ((fail_if_success (with_reducible apply at_106)); kas_types)
          have e9 : (((gapsR (rows.take d.length)).length + gapN d.length r d2.length : Nat) : Int) + 1 = (((gapsR (rows.take d.length)).length + gapN d.length r (d2.length + 1) : Nat) : Int) := by omega
          rw [e9]
          refine tl _ _ ?_
          exact fin
        · have gs2 : gapN d.length r d2.length = gapN d.length r (d2.length + 1) := by
            rw [gs, if_neg (by omega)]
            rfl
          refine zs_nil ?_
          rw [gs2]
          refine tl _ _ ?_
          exact fin
      · have gs : gapN d.length r d2.length = gapN d.length r (d2.length + 1) := by
          have h0 : d2.length = 0 := by omega
          rw [h0, gapN_zero, gapN_one]
        refine zs_nil ?_
        rw [gs]
        refine tl _ _ ?_
        exact fin
    · rintro δ' ⟨s5, s6, rfl⟩
      have ge := gapN_end er
      rw [rgD_len, hrm, show ((r.length : Int) - 0).toNat = r.length by omega, atNK_end er, ge, List.length_append, List.length_singleton]
      exact ⟨_, _, _, rfl⟩
  · rintro δ' ⟨s4, s5, s6, rfl⟩
    rw [rgD_len, hml, List.take_of_length_le (by omega)]
    refine jss_freeze 2 rfl ?_
    kat_tups
    try exact k
end
set_option Elab.async false
set_option linter.all false
set_option maxRecDepth 100000
set_option maxHeartbeats 4000000
section
/-! what is due, what is answered -/
local macro_rules | `(tactic| kct_strs) => `(tactic| first | (with_reducible refine od_inP ?_) | (with_reducible refine od_ninP ?_) | (with_reducible refine od_eqP ?_) | (with_reducible refine od_neP ?_))
def suiteOf : List Stmt → List Stmt
  | .Try _ (.ExceptHandler _ _ s _ :: _) _ _ _ :: _ => s
  | _ => []
theorem mark_ints (bs : List Bool) : (bs.map fun b : Bool => D.int (if b then 1 else 0)) = (bs.map fun b : Bool => if b then (1 : Int) else 0).map D.int := by rw [List.map_map]; rfl
theorem src_bl (bs : List Bool) : Src (bs.map D.bl).length (atD (bs.map D.bl)) bs D.bl := src_map
/-- what is due for a word and a place -/
def dueV (w : Str) (rows : List (List Int)) (z : Int × Int) : D :=
  if w = "close" then (if clOk rows z = true then .lst [.lst ((rowsP (restP rows z)).map rowL)] else .tup [.str "BadPlan", .int (z.1 + z.2)])
  else if z ∉ stopsP rows then .tup [.str "NotStop"] else if 12 ≤ z.1 + z.2 then .tup [.str "TooLong", .int 12]
  else if w = "open" then .lst [.lst ((opR rows z).map rowL)]
  else .lst [.lst ((opR rows z).map rowL), .int ((stopsP (opR rows z)).length - (stopsP rows).length), .int ((opR rows z).length - rows.length), .int ((gapsR (opR rows z)).length - (gapsR rows).length)]
def askV (CP : Addr) (w : Str) (rows : List (List Int)) (z : Int × Int) : D :=
  if w = "close" then (if clOk rows z = true then .tup [.str "told", .lst [plD CP (rowsP (restP rows z))]] else .tup [.str "BadPlan", .int (z.1 + z.2)])
  else if z ∉ stopsP rows then .tup [.str "NotStop"] else if 12 ≤ z.1 + z.2 then .tup [.str "TooLong", .int 12]
  else if w = "open" then .tup [.str "told", .lst [plD CP (opR rows z)]]
  else .tup [.str "told", .tup [plD CP (opR rows z), .int ((stopsP (opR rows z)).length - (stopsP rows).length), .int ((opR rows z).length - rows.length), .int ((gapsR (opR rows z)).length - (gapsR rows).length)]]
inductive cGrouped : List D → (D → Prop) → EK → Prop
  | mk {P : D → Prop} {E : EK} (ps : List (Int × Int)) (ok : PsOk ps) (nd : ps.Nodup) (hl : ps.length ≤ 1000) (k : P (.lst ((rowsP ps).map rowL))) : cGrouped [.lst (ps.map plcD)] P E
theorem mo_cGrouped : ∀ (ds : List D) (P P' : D → Prop) (E E' : EK), (∀ d, P d → P' d) → (∀ v ns es, E v ns es → E' v ns es) → cGrouped ds P E → cGrouped ds P' E' := by
  intro ds P P' E E' hp he h
  cases h with
  | mk ps ok nd hl k => exact .mk ps ok nd hl (by first | exact hp _ k | exact k.imp hp | (intros; apply hp; apply k <;> assumption))
abbrev S__law_grouped : Scp := { N := ["places", "rows", "z"], sc := defScope (top 62), vs := [("places", 0), ("rows", 1), ("z", 2)], ss := [("places", 0), ("rows", 1), ("z", 2)], gl := ["_law_in_order", "len"], lv := 4 }
local macro_rules | `(tactic| lsm_bools) => `(tactic| first | refine cInOrder.mk _ (by first | assumption | omega | decide) ?_)
local macro_rules | `(tactic| kd_addW) => `(tactic| first | ((with_reducible apply at_107); refine zs_setM (by ktu_offI) ?_))
theorem b__law_grouped {U : Env1} (hB : Blt U ["len"]) (F__law_in_order : U.Def "_law_in_order" 4 [] cInOrder) (G H : Hp) (ds) (P) (E) (h : cGrouped ds P E) : JSs S__law_grouped (U.cg G H fun _ => E) (defBody (top 62)) (startD S__law_grouped.N ds) { nx := fun _ => P .non, rt := P } := by
  obtain ⟨ps, ok, nd, hl, k⟩ := h
  have hs : 5000 < sizeLine := by decide
  have hlen : (inOrd ps).length = ps.length := inOrd_perm.length_eq
  have nd2 : (inOrd ps).Nodup := inOrd_perm.nodup_iff.mpr nd
  kat_tups
  refine eachD (fun d rest δ' => ∃ (L : Nat) (s2 : Sl), GrI d L ∧ L ≤ 12 ∧ δ' = [.fz (.lst (ps.map plcD)), .mt (tabL L (rowN d)) [], s2]) src_map ⟨0, _, GrI.nil, by omega, rfl⟩ ?_ ?_
  · rintro d ⟨a, b⟩ rest δ' hx ⟨L, s2, gi, hL, rfl⟩
    have st := GrI.step ok hx gi
    obtain ⟨q1, q2, q3, q4, q5⟩ := st
    have hz : (a, b) ∈ ps := inOrd_mem.mp (by rw [hx]; simp)
    have hnz := ok.nn _ hz
    have hnn : NnP d := fun p hp => ok.nn p (inOrd_mem.mp (by rw [hx]; simp [hp]))
    have nxt := gi.next hnz hnn
    have hzd : (a, b) ∉ d := fun q => by
      rw [hx] at nd2
      exact (List.nodup_append.mp nd2).2.2 _ q _ (.head _) rfl
    dsimp only at *
    have tl : ∀ (N B : List Sl → Prop) (m : Nat), a + b = m → m < 12 → GrI (d ++ [(a, b)]) (m + 1) → (∀ s2, N [.fz (.lst (ps.map plcD)), .mt (tabL (m + 1) (rowN (d ++ [(a, b)]))) [], s2]) → JSs S__law_grouped (U.cg G H fun _ => E) ((forBody ((defBody (top 62)).getD 1 (.Pass ⟨0, 0, 0, 0⟩))).drop 1) [.fz (.lst (ps.map plcD)), .mt (tabL (m + 1) (rowN d)) [], .fz (plcD (a, b))] { nx := N, rt := P, bk := B, ct := N } := fun N B m hm hm12 hg hN => by
      have em : (a + b).toNat = m := by omega
      have hrl := rowN_len (ps := d) (n := m)
      have h3 : a ∉ rowN d m := fun q => hzd (by
        have := (rowN_mem hnn).mp q
        rwa [show (m : Int) - a = b by omega] at this)
      kat_tups
      refine ixM_at (j := m) (by rfl) rfl ?_ ?_
      · unfold ixN
        rw [if_neg (by decide), if_pos (by rw [List.length_map, List.length_range]; omega), List.length_map, List.length_range]
        congr 1
        omega
      refine ownT rfl (by omega) ?_
      kat_tups
      refine ⟨by rw [List.length_map, List.length_map]; omega, ?_⟩
      have e : tabL (m + 1) (fun n => if n = m then rowN d n ++ [a] else rowN d n) = tabL (m + 1) (rowN (d ++ [(a, b)])) := tabL_congr fun n _ => by
        have := rowN_put (z := (a, b)) hnz hnn q2 (by rw [em]; exact h3) n
        rw [em] at this
        exact this
      exact n_mt (NN := N) (tabL_put.trans e) (hN _)
    kat_tups
    rw [tabL_flat]
    kat_tups
    rw [List.length_map, List.length_range]
    refine ite_d (fun h => ?_) (fun h => ?_)
    · kat_tups
      refine ⟨by rw [List.length_map, List.length_range]; omega, ?_⟩
      refine n_mt (NN := fun δ' => JSs _ _ _ δ' _) (tabL_snoc q3) ?_
      exact tl _ _ L h (by omega) (nxt.1 h) fun s2 => ⟨_, _, nxt.1 h, by omega, rfl⟩
    · refine zs_nil ?_
      obtain ⟨m, rfl⟩ : ∃ m, L = m + 1 := ⟨L - 1, by omega⟩
      have h2 : a + b = ((m + 1 : Nat) : Int) - 1 := by omega
      exact tl _ _ m (by omega) (by omega) (nxt.2 h2) fun s2 => ⟨_, _, nxt.2 h2, by omega, rfl⟩
  · rintro δ' ⟨L, s2, gi, hL, rfl⟩
    refine jss_frzT 1 rfl ?_
    kat_tups
    have := GrI.fin ok gi (fun p => inOrd_mem)
    rw [← this, List.map_map] at k
    exact k
theorem close_back {rows : List (List Int)} (hr : PlanOk rows) {z : Int × Int} (hz : 0 ≤ z.1 ∧ 0 ≤ z.2) (hs : z ∈ stopsP rows) (hl : z.1 + z.2 < 12) : clOk (opR rows z) z = true ∧ rowsP (restP (opR rows z) z) = rows := by
  have hg := opR_go hr hz hs hl
  have hn := stopsP_go hs
  have hm : ∀ p, p ∈ restP (opR rows z) z ↔ p ∈ goP rows := fun p => by
    rw [rest_mem, ← hg p, List.mem_append, List.mem_singleton]
    constructor
    · rintro ⟨q | q, w⟩
      · exact q
      · exact absurd q w
    · exact fun q => ⟨.inl q, fun w => hn (w ▸ q)⟩
  obtain ⟨o1, o2⟩ := psOk_of hr hm
  refine ⟨?_, o2⟩
  unfold clOk
  rw [Bool.and_eq_true, decide_eq_true_eq, decide_eq_true_eq]
  exact ⟨(hg z).mp (by simp), o1.un⟩
theorem cd_isEb {S : Scp} {Γ : Cg} {P : D → Prop} {U : Env1} {XA : Str → Addr} {made raised names : List Str} (hE : ErrC U XA made raised names) (hK : Γ.K = U.K) {y z : Str} {b : Bool} {a : Addr} {d : Option Addr} {ns : List Str} {ds : List D} (hmd : Γ.md = .hot (a, XA y, d)) (hy : y ∈ raised) (hz : z ∈ names) (e : isSub y z = b) (h : P (.bl b)) : CallD S Γ (.builtin "isinstance") [.exc a d ns ds, .cls (XA z)] P :=
  cd_isE hmd (by rw [hK]; exact hE.ec y hy) rfl (by rw [hK]; exact (hE.kit y hy z hz).trans (congrArg some e)) h
local macro_rules | `(tactic| kd_addB) => `(tactic| ((with_reducible apply at_32); first | refine cd_isEb (by assumption) rfl rfl (by assumption) (by decide +kernel) (by assumption) ?_ | refine cd_isEV (by assumption) rfl rfl (by assumption) ?_))
inductive cAsk19 (CP : Addr) : List D → (D → Prop) → EK → Prop
  | mk {P : D → Prop} {E : EK} (w : Str) (hw : w = "open" ∨ w = "close" ∨ w = "grow") (rows : List (List Int)) (hr : PlanOk rows) (a b : Int) (ha : 0 ≤ a) (hb : 0 ≤ b) (h60 : a + b < 10 ^ 60) (k : P (askV CP w rows (a, b))) : cAsk19 CP [.str w, plD CP rows, plcD (a, b)] P E
theorem mo_cAsk19 {CP : Addr} : ∀ (ds : List D) (P P' : D → Prop) (E E' : EK), (∀ d, P d → P' d) → (∀ v ns es, E v ns es → E' v ns es) → (cAsk19 CP) ds P E → (cAsk19 CP) ds P' E' := by
  intro ds P P' E E' hp he h
  cases h with
  | mk w hw rows hr a b ha hb h60 k => exact .mk w hw rows hr a b ha hb h60 (by first | exact hp _ k | exact k.imp hp | (intros; apply hp; apply k <;> assumption))
abbrev S__law_ask : Scp := { N := ["word", "plan", "z", "told", "e", "marks", "mark"], sc := defScope (top 66), vs := [("word", 0), ("plan", 1), ("z", 2), ("told", 3), ("e", 4), ("marks", 5)], ss := [("word", 0), ("plan", 1), ("z", 2), ("told", 3), ("e", 4), ("marks", 5)], gl := ["BadCourse", "BadDesign", "BadEnds", "BadFraction", "BadLot", "BadPage", "BadPlan", "BadPoly", "BadShare", "BadTelling", "BadText", "BadVerdict", "HasGap", "NotStop", "Refused", "TooDeep", "TooLong", "TooMany", "TrialError", "Untold", "ValueError", "close_at", "grow", "isinstance", "open_at", "sum"], lv := 7 }
local macro_rules | `(tactic| lsm_bools) => `(tactic| first | refine cOpen.mk _ (by first | assumption | omega | decide) _ _ (by first | assumption | omega | decide) (by first | assumption | omega | decide) ?_ | refine cClose.mk _ (by first | assumption | omega | decide) _ _ (by first | assumption | omega | decide) (by first | assumption | omega | decide) (by first | assumption | omega | decide) ?_ | refine cGrow.mk _ (by first | assumption | omega | decide) _ _ (by first | assumption | omega | decide) (by first | assumption | omega | decide) ?_)
local macro_rules | `(tactic| k_offL) => `(tactic| ((with_reducible apply at_98); first | refine jf_je (jf_lc (S' := { N := S__law_ask.N, sc := relS _ S__law_ask.sc, vs := [("mark", 6)], ss := [("mark", 6)], gl := ["int"], lv := 7 }) (own := [("mark", 6)]) (ok_B (by decide +kernel) (by decide +kernel) rfl rfl rfl (by decide +kernel)) ?_) | refine jf_je (jf_lcH (S' := { N := S__law_ask.N, sc := relS _ S__law_ask.sc, vs := [("mark", 6)], ss := [("mark", 6)], gl := ["int"], lv := 7 }) (own := [("mark", 6)]) (ok_B (by decide +kernel) (by decide +kernel) rfl rfl rfl (by decide +kernel)) ?_)))
local macro_rules | `(tactic| kd_addW) => `(tactic| first | ((with_reducible apply at_108); refine zs_set (by ktu_offI) ?_) | ((with_reducible apply at_109); refine zs_set (by ktu_offI) ?_))
theorem b__law_ask {U : Env1} {CP : Addr} (hC : PlanC U CP) {XA : Str → Addr} (hE : ErrC U XA xMade xRaised xNames) (hB : Blt U ["isinstance", "sum", "int", "ValueError"]) (F_open_at : U.Def "open_at" 6 [] (cOpen CP XA)) (F_close_at : U.Def "close_at" 6 [] (cClose CP XA)) (F_grow : U.Def "grow" 7 [] (cGrow CP XA)) (G H : Hp) (ds) (P) (E) (h : (cAsk19 CP) ds P E) : JSs S__law_ask (U.cg G H fun _ => E) (defBody (top 66)) (startD S__law_ask.N ds) { nx := fun _ => P .non, rt := P } := by
  obtain ⟨hcl, hcm, hn1, hn2, hins, hne, hob, hsf, hml, hcy⟩ := hC
  obtain ⟨w, hw, rows, hr, a, b, ha, hb, h60, k⟩ := h
  have cA : ∀ (ww y : Str) (ns : List Str) (ds : List D) (b0 b1 b2 b3 b4 b5 b6 b7 b8 b9 b10 b11 b12 b13 b14 b15 b16 b17 b18 : Bool), y ∈ xRaised → isSub y "TrialError" = true → isSub y "NotStop" = b0 → isSub y "BadPlan" = b1 → isSub y "TooLong" = b2 → isSub y "TooMany" = b3 → isSub y "BadText" = b4 → isSub y "BadEnds" = b5 → isSub y "BadTelling" = b6 → isSub y "BadVerdict" = b7 → isSub y "BadCourse" = b8 → isSub y "BadLot" = b9 → isSub y "BadShare" = b10 → isSub y "BadPoly" = b11 → isSub y "BadFraction" = b12 → isSub y "BadDesign" = b13 → isSub y "HasGap" = b14 → isSub y "Untold" = b15 → isSub y "TooDeep" = b16 → isSub y "BadPage" = b17 → isSub y "Refused" = b18 →
      ([b0, b1, b2, b3, b4, b5, b6, b7, b8, b9, b10, b11, b12, b13, b14, b15, b16, b17, b18] = [true, false, false, false, false, false, false, false, false, false, false, false, false, false, false, false, false, false, false] ∧ y = "NotStop" ∧ ns = [] ∧ ds = [] ∧ P (.tup [.str "NotStop"]) ∨ [b0, b1, b2, b3, b4, b5, b6, b7, b8, b9, b10, b11, b12, b13, b14, b15, b16, b17, b18] = [false, false, true, false, false, false, false, false, false, false, false, false, false, false, false, false, false, false, false] ∧ y = "TooLong" ∧ ns = [fldOf "TooLong"] ∧ ds = [.int 12] ∧ P (.tup [.str "TooLong", .int 12]) ∨ [b0, b1, b2, b3, b4, b5, b6, b7, b8, b9, b10, b11, b12, b13, b14, b15, b16, b17, b18] = [false, true, false, false, false, false, false, false, false, false, false, false, false, false, false, false, false, false, false] ∧ y = "BadPlan" ∧ ns = [fldOf "BadPlan"] ∧ ds = [.int (a + b)] ∧ P (.tup [.str "BadPlan", .int (a + b)])) →
      catchX S__law_ask (U.cg G H fun _ => E) (.ref (XA "TrialError")) 4 (suiteOf (defBody (top 66))) P (startD S__law_ask.N [.str ww, plD CP rows, plcD (a, b)]) (.ref (XA y)) ns ds := by
    intro ww y ns ds b0 b1 b2 b3 b4 b5 b6 b7 b8 b9 b10 b11 b12 b13 b14 b15 b16 b17 b18 hy ht e0 e1 e2 e3 e4 e5 e6 e7 e8 e9 e10 e11 e12 e13 e14 e15 e16 e17 e18 hc
    refine catchT hE rfl hy (by decide +kernel) ht (fun a' d => ?_)
    kat_tups
    refine lcM (fun b : Bool => .int (if b then 1 else 0)) (src_bl [b0, b1, b2, b3, b4, b5, b6, b7, b8, b9, b10, b11, b12, b13, b14, b15, b16, b17, b18]) (by simp) ?_ ?_
    · intro b _
      kat_tups
    · rw [mark_ints]
      clear e0 e1 e2 e3 e4 e5 e6 e7 e8 e9 e10 e11 e12 e13 e14 e15 e16 e17 e18
      rcases hc with ⟨hq, rfl, rfl, rfl, kk⟩ | ⟨hq, rfl, rfl, rfl, kk⟩ | ⟨hq, rfl, rfl, rfl, kk⟩ <;> (cases hq; kat_tups; try exact kk)
  have cN : ∀ (ww : Str), (askV CP ww rows (a, b) = .tup [.str "NotStop"]) → P (askV CP ww rows (a, b)) → catchX S__law_ask (U.cg G H fun _ => E) (.ref (XA "TrialError")) 4 (suiteOf (defBody (top 66))) P (startD S__law_ask.N [.str ww, plD CP rows, plcD (a, b)]) (.ref (XA "NotStop")) [] [] := fun ww e kk => by
    rw [e] at kk
    exact cA ww "NotStop" [] [] _ _ _ _ _ _ _ _ _ _ _ _ _ _ _ _ _ _ _ (by decide +kernel) (by decide +kernel) rfl rfl rfl rfl rfl rfl rfl rfl rfl rfl rfl rfl rfl rfl rfl rfl rfl rfl rfl (.inl ⟨by decide +kernel, rfl, rfl, rfl, kk⟩)
  have cT : ∀ (ww : Str), (askV CP ww rows (a, b) = .tup [.str "TooLong", .int 12]) → P (askV CP ww rows (a, b)) → catchX S__law_ask (U.cg G H fun _ => E) (.ref (XA "TrialError")) 4 (suiteOf (defBody (top 66))) P (startD S__law_ask.N [.str ww, plD CP rows, plcD (a, b)]) (.ref (XA "TooLong")) [fldOf "TooLong"] [.int 12] := fun ww e kk => by
    rw [e] at kk
    exact cA ww "TooLong" _ _ _ _ _ _ _ _ _ _ _ _ _ _ _ _ _ _ _ _ _ (by decide +kernel) (by decide +kernel) rfl rfl rfl rfl rfl rfl rfl rfl rfl rfl rfl rfl rfl rfl rfl rfl rfl rfl rfl (.inr (.inl ⟨by decide +kernel, rfl, rfl, rfl, kk⟩))
  have cB : ∀ (ww : Str), (askV CP ww rows (a, b) = .tup [.str "BadPlan", .int (a + b)]) → P (askV CP ww rows (a, b)) → catchX S__law_ask (U.cg G H fun _ => E) (.ref (XA "TrialError")) 4 (suiteOf (defBody (top 66))) P (startD S__law_ask.N [.str ww, plD CP rows, plcD (a, b)]) (.ref (XA "BadPlan")) [fldOf "BadPlan"] [.int (a + b)] := fun ww e kk => by
    rw [e] at kk
    exact cA ww "BadPlan" _ _ _ _ _ _ _ _ _ _ _ _ _ _ _ _ _ _ _ _ _ (by decide +kernel) (by decide +kernel) rfl rfl rfl rfl rfl rfl rfl rfl rfl rfl rfl rfl rfl rfl rfl rfl rfl rfl rfl (.inr (.inr ⟨by decide +kernel, rfl, rfl, rfl, kk⟩))
  rcases hw with rfl | rfl | rfl
  · kat_tups
    by_cases h : (a, b) ∈ stopsP rows
    · rw [if_neg (fun q => q h)]
      by_cases h2 : 12 ≤ a + b
      · rw [if_pos h2]
        exact cT "open" (by unfold askV; rw [if_neg (by decide), if_neg (fun q => q h), if_pos h2]) k
      · rw [if_neg h2]
        unfold askV at k
        rw [if_neg (by decide), if_neg (fun q => q h), if_neg h2, if_pos (by decide)] at k
        kat_tups
        try exact k
    · rw [if_pos h]
      exact cN "open" (by unfold askV; rw [if_neg (by decide), if_pos h]) k
  · kat_tups
    by_cases h : clOk rows (a, b) = true
    · rw [if_pos h]
      unfold askV at k
      rw [if_pos rfl, if_pos h] at k
      kat_tups
      try exact k
    · rw [if_neg h]
      exact cB "close" (by unfold askV; rw [if_pos rfl, if_neg h]) k
  · kat_tups
    by_cases h : (a, b) ∈ stopsP rows
    · rw [if_neg (fun q => q h)]
      by_cases h2 : 12 ≤ a + b
      · rw [if_pos h2]
        exact cT "grow" (by unfold askV; rw [if_neg (by decide), if_neg (fun q => q h), if_pos h2]) k
      · rw [if_neg h2]
        unfold askV at k
        rw [if_neg (by decide), if_neg (fun q => q h), if_neg h2, if_neg (by decide)] at k
        kat_tups
        try exact k
    · rw [if_pos h]
      exact cN "grow" (by unfold askV; rw [if_neg (by decide), if_pos h]) k
end
set_option Elab.async false
set_option linter.all false
set_option maxRecDepth 100000
set_option maxHeartbeats 4000000
section
/-! due, right -/
local macro_rules | `(tactic| kct_strs) => `(tactic| first | (with_reducible refine od_inP ?_) | (with_reducible refine od_ninP ?_) | (with_reducible refine od_eqP ?_) | (with_reducible refine od_neP ?_))
abbrev stepsD (rows : List (List Int)) : D := .tup [.lst ((reR (goP rows)).map plcD), .lst (stepsL [] (goP rows))]
def prs (pre : List (Int × Int)) : List (Int × Int) → List (List (Int × Int) × (Int × Int))
  | [] => []
  | z :: rest => (pre, z) :: prs (pre ++ [z]) rest
theorem stepsL_prs : ∀ (d pre : List (Int × Int)), stepsL pre d = (prs pre d).map fun x => stepD x.1 x.2
  | [], _ => rfl
  | z :: d, pre => by
    unfold stepsL prs
    rw [List.map_cons, stepsL_prs d]
theorem prs_snd : ∀ (d pre : List (Int × Int)), (prs pre d).map (fun x => plcD x.2) = d.map plcD
  | [], _ => rfl
  | z :: d, pre => by
    unfold prs
    rw [List.map_cons, List.map_cons, prs_snd d]
theorem prs_len (d pre : List (Int × Int)) : (prs pre d).length = d.length := by
  have := congrArg List.length (prs_snd d pre)
  rwa [List.length_map, List.length_map] at this
theorem mem_re {rows : List (List Int)} {p : Int × Int} : p ∈ reR (goP rows) ↔ p ∈ reachP rows := reR_mem (fun _ => Iff.rfl) p
theorem unr_some : ∀ (n : Nat) (rest : List (Int × Int)) (y : Int × Int), NnP rest → (0, 0) ∉ rest → y ∈ rest → y.1 + y.2 ≤ n → unr rest ≠ []
  | n, rest, y, hn, h0, hy, hl, e => by
    have no : y ∉ unr rest := by rw [e]; simp
    have hy1 := hn y hy
    have : (y.1 - 1, y.2) ∈ rest ∨ (y.1, y.2 - 1) ∈ rest := by
      by_cases h1 : (y.1 - 1, y.2) ∈ rest
      · exact .inl h1
      · by_cases h2 : (y.1, y.2 - 1) ∈ rest
        · exact .inr h2
        · exact absurd (unr_mem.mpr ⟨hy, fun e => h0 (e ▸ hy), h1, h2⟩) no
    cases n with
    | zero =>
      rcases this with q | q
      · have := hn _ q; dsimp only at this; omega
      · have := hn _ q; dsimp only at this; omega
    | succ n =>
      rcases this with q | q
      · exact unr_some n rest _ hn h0 q (by dsimp only; omega) e
      · exact unr_some n rest _ hn h0 q (by dsimp only; omega) e
theorem rest_nn {rows : List (List Int)} (hr : PlanOk rows) {z : Int × Int} : NnP (restP rows z) := fun p hp => nn_go hr p (rest_mem.mp hp).1
theorem cl_no0 {rows : List (List Int)} (hr : PlanOk rows) {z y : Int × Int} (hy : y ∈ restP rows z) (h : (0, 0) ∉ restP rows z) : ¬ clOk rows z = true := fun q => by
  unfold clOk at q
  rw [Bool.and_eq_true, decide_eq_true_eq, decide_eq_true_eq] at q
  exact unr_some (y.1 + y.2).toNat _ y (rest_nn hr) h hy (by have := rest_nn hr y hy; omega) q.2
theorem cl_no1 {rows : List (List Int)} {z y : Int × Int} (hy : y ∈ restP rows z) (h : ¬ (y = (0, 0)) ∧ (y.1 - 1, y.2) ∉ restP rows z ∧ (y.1, y.2 - 1) ∉ restP rows z) : ¬ clOk rows z = true := fun q => by
  unfold clOk at q
  rw [Bool.and_eq_true, decide_eq_true_eq, decide_eq_true_eq] at q
  have := unr_mem.mpr ⟨hy, h.1, h.2.1, h.2.2⟩
  rw [q.2] at this
  exact absurd this (by simp)
theorem cl_no2 {rows : List (List Int)} {z : Int × Int} (h : z ∉ goP rows) : ¬ clOk rows z = true := fun q => by
  unfold clOk at q
  rw [Bool.and_eq_true, decide_eq_true_eq] at q
  exact h q.1
theorem cl_yes {rows : List (List Int)} {z : Int × Int} (h : z ∈ goP rows) (hd : ∀ y ∈ restP rows z, ¬ (¬ (y = (0, 0)) ∧ (y.1 - 1, y.2) ∉ restP rows z ∧ (y.1, y.2 - 1) ∉ restP rows z)) : clOk rows z = true := by
  unfold clOk
  rw [Bool.and_eq_true, decide_eq_true_eq, decide_eq_true_eq]
  refine ⟨h, List.eq_nil_iff_forall_not_mem.mpr fun y hy => ?_⟩
  obtain ⟨h1, h2, h3, h4⟩ := unr_mem.mp hy
  exact hd y h1 ⟨h2, h3, h4⟩
theorem many_eq {rows : List (List Int)} (hr : PlanOk rows) {z : Int × Int} (hz : 0 ≤ z.1 ∧ 0 ≤ z.2) (hs : z ∈ stopsP rows) (hl : z.1 + z.2 < 12) :
    ((((succs z).filter fun y => decide (y ∉ reR (goP rows))).length : Nat) : Int) - 1 = ((stopsP (opR rows z)).length : Int) - (stopsP rows).length := by
  have ok := opR_ok hr hz hs hl
  have og := opR_go hr hz hs hl
  have c1 := stops_count hr
  have c2 := stops_count ok
  have l1 := reR_len hr (d := goP rows) fun _ => Iff.rfl
  have l2 := reR_len ok (d := goP rows ++ [z]) og
  have nd : (goP rows ++ [z]).Nodup := by
    refine List.nodup_append.mpr ⟨goP_nd (row_asc hr), by simp, fun x hx y hy e => ?_⟩
    rw [List.mem_singleton.mp hy] at e
    exact stopsP_go hs (e ▸ hx)
  have l3 := nd_len nd (goP_nd (row_asc ok)) og
  have l4 : (reR (goP rows ++ [z])).length = (reR (goP rows)).length + ((succs z).filter fun y => decide (y ∉ reR (goP rows))).length := by
    unfold reR
    rw [List.foldl_append]
    show (stepR _ z).length = _
    unfold stepR
    rw [List.length_append]
  rw [List.length_append, List.length_singleton] at l3
  omega
inductive cDue19 : List D → (D → Prop) → EK → Prop
  | mk {P : D → Prop} {E : EK} (w : Str) (hw : w = "open" ∨ w = "close" ∨ w = "grow") (rows : List (List Int)) (hr : PlanOk rows) (a b : Int) (ha : 0 ≤ a) (hb : 0 ≤ b) (k : P (dueV w rows (a, b))) : cDue19 [.str w, .lst (rows.map rowL), plcD (a, b), stepsD rows] P E
theorem mo_cDue19 : ∀ (ds : List D) (P P' : D → Prop) (E E' : EK), (∀ d, P d → P' d) → (∀ v ns es, E v ns es → E' v ns es) → cDue19 ds P E → cDue19 ds P' E' := by
  intro ds P P' E E' hp he h
  cases h with
  | mk w hw rows hr a b ha hb k => exact .mk w hw rows hr a b ha hb (by first | exact hp _ k | exact k.imp hp | (intros; apply hp; apply k <;> assumption))
abbrev S__law_due : Scp := { N := ["word", "rows", "z", "steps", "go", "rest", "y", "out", "many", "step"], sc := defScope (top 65), vs := [("word", 0), ("rows", 1), ("z", 2), ("steps", 3), ("go", 4), ("rest", 5), ("y", 6), ("out", 7), ("many", 8)], ss := [("word", 0), ("rows", 1), ("z", 2), ("steps", 3), ("go", 4), ("rest", 5), ("y", 6), ("out", 7), ("many", 8)], gl := ["_law_gaps", "_law_grouped", "_law_next", "len"], lv := 5 }
local macro_rules | `(tactic| lsm_bools) => `(tactic| first | refine cGrouped.mk _ _ _ (by first | assumption | omega | decide) ?_ | refine cNext.mk _ _ ?_ | refine cLawGaps.mk _ (by first | assumption | omega | decide) ?_)
local macro_rules | `(tactic| k_offL) => `(tactic| ((with_reducible apply at_98); first | refine jf_je (jf_lc (S' := { N := S__law_due.N, sc := relS _ S__law_due.sc, vs := [("y", 6), ("steps", 3)], ss := [("y", 6)], gl := [], lv := 5 }) (own := [("y", 6)]) (ok_B (by decide +kernel) (by decide +kernel) rfl rfl rfl (by decide +kernel)) ?_)))
local macro_rules | `(tactic| kd_addW) => `(tactic| ((with_reducible apply at_100); first | refine zs_setLc (S' := { N := S__law_due.N, sc := relS _ S__law_due.sc, vs := [("y", 6), ("z", 2)], ss := [("y", 6)], gl := [], lv := 5 }) (own := [("y", 6)]) (by ktu_offI) (ok_B (by decide +kernel) (by decide +kernel) rfl rfl rfl (by decide +kernel)) (by decide +kernel) ?_ | refine zs_setLc (S' := { N := S__law_due.N, sc := relS _ S__law_due.sc, vs := [("step", 9)], ss := [("step", 9)], gl := [], lv := 5 }) (own := [("step", 9)]) (by ktu_offI) (ok_B (by decide +kernel) (by decide +kernel) rfl rfl rfl (by decide +kernel)) (by decide +kernel) ?_))
theorem b__law_due {U : Env1} (hB : Blt U ["len"]) (F__law_grouped : U.Def "_law_grouped" 5 [] cGrouped) (F__law_next : U.DefF "_law_next" 2 [] cNext) (F__law_gaps : U.Def "_law_gaps" 2 [] cLawGaps) (G H : Hp) (ds) (P) (E) (h : cDue19 ds P E) : JSs S__law_due (U.cg G H fun _ => E) (defBody (top 65)) (startD S__law_due.N ds) { nx := fun _ => P .non, rt := P } := by
  obtain ⟨w, hw, rows, hr, a, b, ha, hb, k⟩ := h
  have hs : 5000 < sizeLine := by decide
  have hl := goP_len hr
  rw [show stepsD rows = .tup [.lst ((reR (goP rows)).map plcD), .lst ((prs [] (goP rows)).map fun x => stepD x.1 x.2)] by rw [← stepsL_prs]]
  kat_tups
  refine lcM (fun x => plcD x.2) src_map (by rw [prs_len]; omega) ?_ ?_
  · rintro ⟨d, z⟩ _
    kat_tups
    done
  rw [prs_snd]
  kat_tups
  refine ite_d (fun hc => ?_) (fun hc => ?_)
  · unfold dueV at k
    rw [if_pos hc] at k
    kat_tups
    refine lcF (fun y : Int × Int => if y ≠ (a, b) then some (plcD y) else none) src_map (by omega) ?_ ?_
    · rintro ⟨c, e⟩ _
      kat_tups
      refine ite_nd (fun h => ?_) (fun h => ?_)
      · kat_tups
        exact if_pos h
      · exact if_neg (fun q => q h)
    rw [fm_if, show (goP rows).filter (fun y => decide (y ≠ (a, b))) = restP rows (a, b) from rfl]
    have hrl : (restP rows (a, b)).length ≤ (goP rows).length := List.length_filter_le _ _
    have bad : ¬ clOk rows (a, b) = true → P (.tup [.str "BadPlan", .int (a + b)]) := fun h => by
      rw [if_neg h] at k
      exact k
    kat_tups
    refine eachD (fun d rest δ' => (∀ y ∈ d, ¬ (¬ (y = (0, 0)) ∧ (y.1 - 1, y.2) ∉ restP rows (a, b) ∧ (y.1, y.2 - 1) ∉ restP rows (a, b))) ∧ ∃ s : Sl, δ' = [.fz (.str w), .fz (.lst (rows.map rowL)), .fz (plcD (a, b)), .fz (.tup [.lst ((reR (goP rows)).map plcD), .lst ((prs [] (goP rows)).map fun x => stepD x.1 x.2)]), .fz (.lst ((goP rows).map plcD)), .fz (.lst ((restP rows (a, b)).map plcD)), s, .no, .no, .no]) src_map ⟨by simp, _, rfl⟩ ?_ ?_
    · rintro d ⟨c, e⟩ rest δ' hx ⟨hd, s, rfl⟩
      have hm : (c, e) ∈ restP rows (a, b) := by rw [hx]; simp
      kat_tups
      have B1 : (c, e) ≠ (0, 0) → (c - 1, e) ∉ restP rows (a, b) → (c, e - 1) ∉ restP rows (a, b) → P (.tup [.str "BadPlan", .int (a + b)]) := fun q1 q2 q3 => bad (cl_no1 hm ⟨q1, q2, q3⟩)
      have G1 : ¬ ((c, e) ≠ (0, 0) ∧ (c - 1, e) ∉ restP rows (a, b) ∧ (c, e - 1) ∉ restP rows (a, b)) → ∀ y ∈ d ++ [(c, e)], ¬ (¬ (y = (0, 0)) ∧ (y.1 - 1, y.2) ∉ restP rows (a, b) ∧ (y.1, y.2 - 1) ∉ restP rows (a, b)) := fun q y hy => by
        rcases List.mem_append.mp hy with w | w
        · exact hd y w
        · rw [List.mem_singleton.mp w]
          exact q
      refine ite_nd (fun h0 => ?_) (fun h0 => ?_)
      · refine L2.iteT ?_
        kat_tups
        exact bad (cl_no0 hr hm h0)
      kat_tups
      refine ite_nd (fun h1 => ?_) (fun h1 => ?_)
      · kat_tups
        refine ite_nd (fun h2 => ?_) (fun h2 => ?_)
        · kat_tups
          refine ite_nd (fun h3 => ?_) (fun h3 => ?_)
          · kat_tups
            exact B1 h1 h2 h3
          · refine zs_nil ⟨G1 fun q => q.2.2 h3, _, rfl⟩
        · refine L2.iteF ?_
          refine zs_nil ⟨G1 fun q => q.2.1 h2, _, rfl⟩
      · refine L2.iteF ?_
        refine zs_nil ⟨G1 fun q => q.1 h1, _, rfl⟩
    · rintro δ' ⟨hd, s, rfl⟩
      kat_tups
      refine ite_nd (fun h1 => ?_) (fun h1 => ?_)
      · kat_tups
        exact bad (cl_no2 h1)
      · have hok := cl_yes h1 hd
        rw [if_pos hok] at k
        have ok := clOk_ps hr hok
        have nd : (restP rows (a, b)).Nodup := (goP_nd (row_asc hr)).sublist List.filter_sublist
        kat_tups
        refine cGrouped.mk _ ok nd (by omega) ?_
        kat_tups
        try exact k
  unfold dueV at k
  rw [if_neg hc] at k
  have hsr := stop_reach (rows := rows) (p := (a, b)) (by dsimp only; omega)
  have hmr := mem_re (rows := rows) (p := (a, b))
  kat_tups
  have no : (a, b) ∉ stopsP rows → P (.tup [.str "NotStop"]) := fun h => by
    rw [if_pos h] at k
    exact k
  refine ite_nd (fun h1 => ?_) (fun h1 => ?_)
  · refine L2.iteT ?_
    kat_tups
    exact no fun q => h1 (hmr.mpr (hsr.mp q).1)
  kat_tups
  refine ite_d (fun h2 => ?_) (fun h2 => ?_)
  · kat_tups
    exact no fun q => (hsr.mp q).2 h2
  have hst : (a, b) ∈ stopsP rows := hsr.mpr ⟨hmr.mp h1, h2⟩
  rw [if_neg (fun q => q hst)] at k
  obtain ⟨n, r, er, _, _, h5⟩ := stopsP_mem.mp hst
  have hn12 : a + b ≤ 12 := by
    have := (List.getElem?_eq_some_iff.mp er).1
    rw [metR_len] at this
    have := hr.1
    dsimp only at h5
    omega
  kat_tups
  refine ite_d (fun h3 => ?_) (fun h3 => ?_)
  · rw [if_pos (by omega)] at k
    kat_tups
    try exact k
  rw [if_neg (by omega)] at k
  have ok := psOk_open hr (z := (a, b)) ⟨ha, hb⟩ hst (by dsimp only; omega)
  have nd : (goP rows ++ [(a, b)]).Nodup := by
    refine List.nodup_append.mpr ⟨goP_nd (row_asc hr), by simp, fun x hx y hy e => ?_⟩
    rw [List.mem_singleton.mp hy] at e
    exact h2 (e ▸ hx)
  have me := many_eq hr ⟨ha, hb⟩ hst (by dsimp only; omega)
  kat_tups
  refine of_od (of_cat ?_ ?_)
  · rw [List.length_map]
    show _ + 1 ≤ _
    omega
  rw [show (goP rows).map plcD ++ [plcD (a, b)] = (goP rows ++ [(a, b)]).map plcD by rw [List.map_append]; rfl]
  kat_tups
  refine cGrouped.mk _ ok nd (by rw [List.length_append, List.length_singleton]; omega) ?_
  have eo : rowsP (goP rows ++ [(a, b)]) = opR rows (a, b) := rfl
  have hok := opR_ok hr (z := (a, b)) ⟨ha, hb⟩ hst (by dsimp only; omega)
  rw [eo]
  kat_tups
  refine ite_d (fun h4 => ?_) (fun h4 => ?_)
  · rw [if_pos h4] at k
    kat_tups
    try exact k
  rw [if_neg h4] at k
  kat_tups
  refine lcF (fun y : Int × Int => if y ∉ reR (goP rows) then some (plcD y) else none) (src_map (xs := succs (a, b))) (show 2 ≤ 1000000 by decide) ?_ ?_
  · rintro ⟨c, e⟩ _
    kat_tups
    refine ite_nd (fun h => ?_) (fun h => ?_)
    · kat_tups
      exact if_pos h
    · exact if_neg (fun q => q h)
  rw [fm_if]
  kat_tups
  have hgl := gapsR_len hr
  have hgl2 := gapsR_len hok
  kat_tups
  simp only [List.length_map]
  kat_tups
  rw [me]
  try exact k
end
set_option Elab.async false
set_option linter.all false
set_option maxRecDepth 100000
set_option maxHeartbeats 4000000
section
/-! right; law -/
local macro_rules | `(tactic| kct_strs) => `(tactic| first | (with_reducible refine od_inP ?_) | (with_reducible refine od_ninP ?_) | (with_reducible refine od_eqP ?_) | (with_reducible refine od_neP ?_) | (with_reducible refine od_neB ?_))
theorem dp_rowJ {j : Nat} {r : List Int} (h : r.length ≤ 1000) : Dp (j + 1) (rowL r) := dp_lmap (by omega) fun _ _ => dp_int
theorem dp_rowsJ {j : Nat} {rows : List (List Int)} (hr : PlanOk rows) : Dp (j + 2) (.lst (rows.map rowL)) := dp_lmap (by have := hr.1; omega) fun r h => dp_rowJ (by have := (Pl.mem hr h).len; omega)
local macro_rules | `(tactic| lsm_bools) => `(tactic| refine cSame.mk _ (by repeat (first | exact dp_int | exact dp_bl | exact dp_str | exact dp_non | exact dp_rowsJ (by assumption) | (refine dp_lst (by simp) ?_) | (refine dp_tup (by simp) ?_) | exact dp_all_nil | refine dp_all_cons ?_ ?_)) ?_)
theorem cases19 {CP : Addr} {w : Str} (hw : w = "open" ∨ w = "close" ∨ w = "grow") {rows : List (List Int)} {z : Int × Int} :
    (dueV w rows z = .tup [.str "NotStop"] ∧ askV CP w rows z = .tup [.str "NotStop"]) ∨ (dueV w rows z = .tup [.str "TooLong", .int 12] ∧ askV CP w rows z = .tup [.str "TooLong", .int 12])
    ∨ (dueV w rows z = .tup [.str "BadPlan", .int (z.1 + z.2)] ∧ askV CP w rows z = .tup [.str "BadPlan", .int (z.1 + z.2)])
    ∨ (w = "close" ∧ clOk rows z = true ∧ dueV w rows z = .lst [.lst ((rowsP (restP rows z)).map rowL)] ∧ askV CP w rows z = .tup [.str "told", .lst [plD CP (rowsP (restP rows z))]])
    ∨ (w = "open" ∧ (z ∈ stopsP rows ∧ z.1 + z.2 < 12) ∧ dueV w rows z = .lst [.lst ((opR rows z).map rowL)] ∧ askV CP w rows z = .tup [.str "told", .lst [plD CP (opR rows z)]])
    ∨ (w = "grow" ∧ (z ∈ stopsP rows ∧ z.1 + z.2 < 12) ∧ dueV w rows z = .lst [.lst ((opR rows z).map rowL), .int ((stopsP (opR rows z)).length - (stopsP rows).length), .int ((opR rows z).length - rows.length), .int ((gapsR (opR rows z)).length - (gapsR rows).length)]
      ∧ askV CP w rows z = .tup [.str "told", .tup [plD CP (opR rows z), .int ((stopsP (opR rows z)).length - (stopsP rows).length), .int ((opR rows z).length - rows.length), .int ((gapsR (opR rows z)).length - (gapsR rows).length)]]) := by
  have co : ("open" : Str) ≠ "close" := by decide
  have cg : ("grow" : Str) ≠ "close" := by decide
  have og : ("grow" : Str) ≠ "open" := by decide
  unfold dueV askV
  by_cases h1 : z ∈ stopsP rows
  · have n1 : ¬ z ∉ stopsP rows := fun q => q h1
    by_cases h2 : 12 ≤ z.1 + z.2
    · rcases hw with rfl | rfl | rfl
      · exact .inr (.inl (by rw [if_neg co, if_neg co, if_neg n1, if_neg n1, if_pos h2, if_pos h2]; exact ⟨rfl, rfl⟩))
      · by_cases h3 : clOk rows z = true
        · exact .inr (.inr (.inr (.inl (by rw [if_pos rfl, if_pos rfl, if_pos h3, if_pos h3]; exact ⟨rfl, h3, rfl, rfl⟩))))
        · exact .inr (.inr (.inl (by rw [if_pos rfl, if_pos rfl, if_neg h3, if_neg h3]; exact ⟨rfl, rfl⟩)))
      · exact .inr (.inl (by rw [if_neg cg, if_neg cg, if_neg n1, if_neg n1, if_pos h2, if_pos h2]; exact ⟨rfl, rfl⟩))
    · have h2' : z.1 + z.2 < 12 := by omega
      rcases hw with rfl | rfl | rfl
      · exact .inr (.inr (.inr (.inr (.inl (by rw [if_neg co, if_neg co, if_neg n1, if_neg n1, if_neg h2, if_neg h2, if_pos rfl, if_pos rfl]; exact ⟨rfl, ⟨h1, h2'⟩, rfl, rfl⟩)))))
      · by_cases h3 : clOk rows z = true
        · exact .inr (.inr (.inr (.inl (by rw [if_pos rfl, if_pos rfl, if_pos h3, if_pos h3]; exact ⟨rfl, h3, rfl, rfl⟩))))
        · exact .inr (.inr (.inl (by rw [if_pos rfl, if_pos rfl, if_neg h3, if_neg h3]; exact ⟨rfl, rfl⟩)))
      · exact .inr (.inr (.inr (.inr (.inr (by rw [if_neg cg, if_neg cg, if_neg n1, if_neg n1, if_neg h2, if_neg h2, if_neg og, if_neg og]; exact ⟨rfl, ⟨h1, h2'⟩, rfl, rfl⟩)))))
  · rcases hw with rfl | rfl | rfl
    · exact .inl (by rw [if_neg co, if_neg co, if_pos h1, if_pos h1]; exact ⟨rfl, rfl⟩)
    · by_cases h3 : clOk rows z = true
      · exact .inr (.inr (.inr (.inl (by rw [if_pos rfl, if_pos rfl, if_pos h3, if_pos h3]; exact ⟨rfl, h3, rfl, rfl⟩))))
      · exact .inr (.inr (.inl (by rw [if_pos rfl, if_pos rfl, if_neg h3, if_neg h3]; exact ⟨rfl, rfl⟩)))
    · exact .inl (by rw [if_neg cg, if_neg cg, if_pos h1, if_pos h1]; exact ⟨rfl, rfl⟩)
theorem cut_l {P : D → Prop} {ds ds' : List D} {l u : Option Int} (e : cutD ds l u = ds') (h : P (.lst ds')) : cutA P l u (.lst ds) := by subst e; exact h
theorem cut_t {P : D → Prop} {ds ds' : List D} {l u : Option Int} (hw : ¬ (HT.sIx ds.length 0 l = 0 ∧ HT.sIx ds.length ds.length u = ds.length)) (e : cutD ds l u = ds') (h : P (.tup ds')) : cutA P l u (.tup ds) := by subst e; exact ⟨hw, h⟩
inductive cRight19 (CP : Addr) : List D → (D → Prop) → EK → Prop
  | mk {P : D → Prop} {E : EK} (w : Str) (hw : w = "open" ∨ w = "close" ∨ w = "grow") (rows : List (List Int)) (hr : PlanOk rows) (a b : Int) (ha : 0 ≤ a) (hb : 0 ≤ b) (h60 : a + b < 10 ^ 60) (k : P (.bl true)) : cRight19 CP [.str w, plD CP rows, .lst (rows.map rowL), plcD (a, b), dueV w rows (a, b)] P E
theorem mo_cRight19 {CP : Addr} : ∀ (ds : List D) (P P' : D → Prop) (E E' : EK), (∀ d, P d → P' d) → (∀ v ns es, E v ns es → E' v ns es) → (cRight19 CP) ds P E → (cRight19 CP) ds P' E' := by
  intro ds P P' E E' hp he h
  cases h with
  | mk w hw rows hr a b ha hb h60 k => exact .mk w hw rows hr a b ha hb h60 (by first | exact hp _ k | exact k.imp hp | (intros; apply hp; apply k <;> assumption))
abbrev S__law_right : Scp := { N := ["word", "plan", "rows", "z", "due", "told", "made_plan", "x"], sc := defScope (top 67), vs := [("word", 0), ("plan", 1), ("rows", 2), ("z", 3), ("due", 4), ("told", 5), ("made_plan", 6)], ss := [("word", 0), ("plan", 1), ("rows", 2), ("z", 3), ("due", 4), ("told", 5), ("made_plan", 6)], gl := ["Plan", "_law_ask", "_law_copy", "_law_same", "close_at", "isinstance", "len", "list", "tuple"], lv := 8 }
local macro_rules | `(tactic| lsm_bools) => `(tactic| first | refine cAsk19.mk _ (by first | assumption | omega | decide) _ (by first | assumption | omega | decide) _ _ (by first | assumption | omega | decide) (by first | assumption | omega | decide) (by first | assumption | omega | decide) ?_ | refine cPlan.mk _ (by first | assumption | omega | decide) ?_ | refine cClose.mk _ (by first | assumption | omega | decide) _ _ (by first | assumption | omega | decide) (by first | assumption | omega | decide) (by first | assumption | omega | decide) ?_ | refine cCopy.mk _ (by first | assumption | omega | decide) ?_ | refine cRows.mk _ (by first | assumption | omega | decide) ?_ | refine cEq.mk _ _ (by first | assumption | omega | decide) (by first | assumption | omega | decide) ?_)
local macro_rules | `(tactic| k_offL) => `(tactic| ((with_reducible apply at_98); first | refine jf_je (jf_lc (S' := { N := S__law_right.N, sc := relS _ S__law_right.sc, vs := [("x", 7)], ss := [("x", 7)], gl := [], lv := 8 }) (own := [("x", 7)]) (ok_B (by decide +kernel) (by decide +kernel) rfl rfl rfl (by decide +kernel)) ?_)))
theorem b__law_right {U : Env1} {CP : Addr} (hC : PlanC U CP) {XA : Str → Addr} (hE : ErrC U XA xMade xRaised xNames) (hB : Blt U ["isinstance", "list", "len", "tuple"]) (F__law_ask : U.Def "_law_ask" 8 [] (cAsk19 CP)) (F__law_same : U.Def "_law_same" 7 [] (cSame 5)) (F_Plan : MakeOk U.P U.w U.K U.mg U.base "Plan" CP 3 cPlan) (F_close_at : U.Def "close_at" 6 [] (cClose CP XA)) (F__law_copy : U.DefF "_law_copy" 2 [] cCopy) (F_Plan_rows : MethOk U.P U.w U.K U.mg U.base CP "rows" 2 (cRows CP)) (F_Plan___eq__ : MethOk U.P U.w U.K U.mg U.base CP "__eq__" 2 (cEq CP)) (G H : Hp) (ds) (P) (E) (h : (cRight19 CP) ds P E) : JSs S__law_right (U.cg G H fun _ => E) (defBody (top 67)) (startD S__law_right.N ds) { nx := fun _ => P .non, rt := P } := by
  obtain ⟨hcl, hcm, hn1, hn2, hins, hne, hob, hsf, hml, hcy⟩ := hC
  obtain ⟨w, hw, rows, hr, a, b, ha, hb, h60, k⟩ := h
  have hs : 5000 < sizeLine := by decide
  rcases cases19 (CP := CP) hw (rows := rows) (z := (a, b)) with ⟨e1, e2⟩ | ⟨e1, e2⟩ | ⟨e1, e2⟩ | ⟨ew, hc, e1, e2⟩ | ⟨ew, ⟨hst, hl⟩, e1, e2⟩ | ⟨ew, ⟨hst, hl⟩, e1, e2⟩
  · rw [e1]
    kat_tups
    rw [e2]
    kat_tups
    done
  · rw [e1]
    kat_tups
    rw [e2]
    kat_tups
    done
  · rw [e1]
    kat_tups
    rw [e2]
    kat_tups
    done
  · subst ew
    rw [e1]
    have ok := (clOk_ps hr hc).plan
    have a1 := ok.1
    kat_tups
    rw [e2]
    kat_tups
    refine cut_l (ds' := []) rfl (seq_lst ?_)
    refine lcM id src_ds (by simp) (fun x hx => ?_) ?_
    · kat_tups
      done
    kat_tups
    refine cut_l (ds' := []) rfl ?_
    rw [List.map_id]
    kat_tups
    try (simpa using k)
  · subst ew
    rw [e1]
    have ok := opR_ok hr (z := (a, b)) ⟨ha, hb⟩ hst hl
    have a1 := ok.1
    obtain ⟨q1, q2⟩ := close_back hr (z := (a, b)) ⟨ha, hb⟩ hst hl
    kat_tups
    rw [e2]
    kat_tups
    refine cut_l (ds' := []) rfl (seq_lst ?_)
    refine lcM id src_ds (by simp) (fun x hx => ?_) ?_
    · kat_tups
      done
    kat_tups
    refine cut_l (ds' := []) rfl ?_
    rw [List.map_id]
    kat_tups
    rw [if_pos q1, q2]
    have l1 := hr.1
    kat_tups
    try (simpa using k)
  · subst ew
    rw [e1]
    have ok := opR_ok hr (z := (a, b)) ⟨ha, hb⟩ hst hl
    have a1 := ok.1
    kat_tups
    rw [e2]
    kat_tups
    refine cut_t (ds' := [.int ((stopsP (opR rows (a, b))).length - (stopsP rows).length), .int ((opR rows (a, b)).length - rows.length), .int ((gapsR (opR rows (a, b))).length - (gapsR rows).length)]) (fun q => absurd q.1 (show ¬ (1 : Nat) = 0 by decide)) rfl (seq_tup ?_)
    refine lcM id src_ds (by simp) (fun x hx => ?_) ?_
    · kat_tups
      done
    kat_tups
    refine cut_l (ds' := [.int ((stopsP (opR rows (a, b))).length - (stopsP rows).length), .int ((opR rows (a, b)).length - rows.length), .int ((gapsR (opR rows (a, b))).length - (gapsR rows).length)]) rfl ?_
    rw [List.map_id]
    kat_tups
    try (simpa using k)
end
set_option Elab.async false
set_option linter.all false
set_option maxRecDepth 100000
set_option maxHeartbeats 4000000
section
/-! places drawn; law -/
local macro_rules | `(tactic| kct_strs) => `(tactic| first | (with_reducible refine od_inP ?_) | (with_reducible refine od_ninP ?_) | (with_reducible refine od_eqP ?_) | (with_reducible refine od_neP ?_))
/-- a place that may be asked -/
def PlQ (d : D) : Prop := ∃ a b : Int, 0 ≤ a ∧ 0 ≤ b ∧ a + b < 10 ^ 60 ∧ d = plcD (a, b)
theorem plQ_mk {a b : Int} (ha : 0 ≤ a) (hb : 0 ≤ b) (h : a + b < 10 ^ 60) : PlQ (plcD (a, b)) := ⟨a, b, ha, hb, h, rfl⟩
theorem plQ_go {rows : List (List Int)} (hr : PlanOk rows) {d : D} (h : d ∈ (goP rows).map plcD) : PlQ d := by
  obtain ⟨⟨a, b⟩, hp, rfl⟩ := List.mem_map.mp h
  have := goP_bd hr hp
  have := hr.1
  dsimp only at *
  have h60 : (100 : Int) < 10 ^ 60 := by decide
  exact plQ_mk (by omega) (by omega) (by omega)
theorem re_bd {rows : List (List Int)} (hr : PlanOk rows) {p : Int × Int} (h : p ∈ reR (goP rows)) : 0 ≤ p.1 ∧ 0 ≤ p.2 ∧ p.1 + p.2 ≤ 12 := by
  have hl := hr.1
  rcases reach_mem.mp (mem_re.mp h) with q | ⟨z, h1, h2⟩
  · subst q
    exact ⟨by decide, by decide, by decide⟩
  · have hb := goP_bd hr h1
    unfold succs at h2
    simp only [List.mem_cons, List.not_mem_nil, or_false] at h2
    rcases h2 with rfl | rfl <;> (dsimp only; omega)
theorem plQ_re {rows : List (List Int)} (hr : PlanOk rows) {d : D} (h : d ∈ (reR (goP rows)).map plcD) : PlQ d := by
  obtain ⟨⟨a, b⟩, hp, rfl⟩ := List.mem_map.mp h
  have := re_bd hr hp
  dsimp only at *
  have h60 : (100 : Int) < 10 ^ 60 := by decide
  exact plQ_mk (by omega) (by omega) (by omega)
def shP (rows : List (List Int)) : List (Int × Int) := (reR (goP rows)).filter fun z => decide (z ∉ goP rows)
theorem shP_ne {rows : List (List Int)} (hr : PlanOk rows) : shP rows ≠ [] := fun e => by
  have no : ∀ p, p ∈ reR (goP rows) → p ∉ goP rows → False := fun p h1 h2 => by
    have : p ∈ shP rows := List.mem_filter.mpr ⟨h1, decide_eq_true h2⟩
    rw [e] at this
    cases this
  by_cases h0 : rows.length = 0
  · refine no (0, 0) (mem_re.mpr (reach_mem.mpr (.inl rfl))) fun q => ?_
    have := goP_bd hr q
    omega
  · have hn : rows.length - 1 < rows.length := by omega
    have ro := rowOk_at hr (List.getElem?_eq_getElem hn)
    obtain ⟨a, ha⟩ := List.exists_mem_of_ne_nil _ ro.1
    have hg : (a, ((rows.length - 1 : Nat) : Int) - a) ∈ goP rows := goP_mem.mpr ⟨_, _, List.getElem?_eq_getElem hn, ha, by dsimp only; omega⟩
    refine no (a + 1, ((rows.length - 1 : Nat) : Int) - a) (mem_re.mpr (reach_mem.mpr (.inr ⟨_, hg, by unfold succs; simp⟩))) fun q => ?_
    have := goP_bd hr q
    dsimp only at this
    omega
theorem re_len {rows : List (List Int)} (hr : PlanOk rows) : (reR (goP rows)).length ≤ 169 := by
  rw [reR_len hr (fun _ => Iff.rfl)]
  exact reachP_len hr
theorem shP_len {rows : List (List Int)} (hr : PlanOk rows) : (shP rows).length ≤ 169 := Nat.le_trans (List.length_filter_le _ _) (re_len hr)
theorem dp_stepsL {rows : List (List Int)} (hr : PlanOk rows) : Dp 5 (.lst (stepsL [] (goP rows))) := by
  rw [stepsL_prs]
  refine dp_lmap (by rw [prs_len]; have := goP_len hr; omega) fun x _ => ?_
  refine dp_tup (by simp) ?_
  repeat (first | exact dp_int | (refine dp_tup (by simp) ?_) | exact dp_all_nil | refine dp_all_cons ?_ ?_)
local macro_rules | `(tactic| lsm_bools) => `(tactic| refine cSame.mk _ (by repeat (first | exact dp_int | exact dp_bl | exact dp_str | exact dp_non | exact dp_rowsJ (by assumption) | exact dp_stepsL (by assumption) | (refine dp_lst (by simp) ?_) | (refine dp_tup (by simp) ?_) | exact dp_all_nil | refine dp_all_cons ?_ ?_)) ?_)
inductive cPlace19 : List D → (D → Prop) → EK → Prop
  | mk {P : D → Prop} {E : EK} (cells : List Int) (hl : cells.length ≤ 63) (most : Int) (hm : 0 ≤ most) (hm2 : most ≤ 100) (k : ∀ a b : Int, 0 ≤ a → 0 ≤ b → a + b ≤ most → P (plcD (a, b))) : cPlace19 [.sto cells, .int most] P E
theorem mo_cPlace19 : ∀ (ds : List D) (P P' : D → Prop) (E E' : EK), (∀ d, P d → P' d) → (∀ v ns es, E v ns es → E' v ns es) → cPlace19 ds P E → cPlace19 ds P' E' := by
  intro ds P P' E E' hp he h
  cases h with
  | mk cells hl most hm hm2 k => exact .mk cells hl most hm hm2 (by first | exact hp _ k | exact k.imp hp | (intros; apply hp; apply k <;> assumption))
abbrev S__law_place : Scp := { N := ["store", "most", "n", "a"], sc := defScope (top 60), vs := [("store", 0), ("most", 1), ("n", 2), ("a", 3)], ss := [("store", 0), ("most", 1), ("n", 2), ("a", 3)], gl := ["_law_between"], lv := 4 }
local macro_rules | `(tactic| lsm_bools) => `(tactic| first | refine cBetween.mk _ (by first | assumption | omega | decide) _ _ (fun v hk1 hk2 => ?_))
theorem b__law_place {U : Env1} (F__law_between : U.Def "_law_between" 4 [] cBetween) (G H : Hp) (ds) (P) (E) (h : cPlace19 ds P E) : JSs S__law_place (U.cg G H fun _ => E) (defBody (top 60)) (startD S__law_place.N ds) { nx := fun _ => P .non, rt := P } := by
  obtain ⟨cells, hl, most, hm, hm2, k⟩ := h
  kat_tups
  rename_i n hn1 hn2
  kat_tups
  rename_i a ha1 ha2
  refine k _ _ (by omega) (by omega) (by omega)
inductive cNoStop : List D → (D → Prop) → EK → Prop
  | mk {P : D → Prop} {E : EK} (cells : List Int) (hl : cells.length ≤ 63) (rows : List (List Int)) (hr : PlanOk rows) (k : ∀ d : D, PlQ d → P d) : cNoStop [.sto cells, .lst (rows.map rowL)] P E
theorem mo_cNoStop : ∀ (ds : List D) (P P' : D → Prop) (E E' : EK), (∀ d, P d → P' d) → (∀ v ns es, E v ns es → E' v ns es) → cNoStop ds P E → cNoStop ds P' E' := by
  intro ds P P' E E' hp he h
  cases h with
  | mk cells hl rows hr k => exact .mk cells hl rows hr (by first | exact hp _ k | exact k.imp hp | (intros; apply hp; apply k <;> assumption))
abbrev S__law_no_stop : Scp := { N := ["store", "rows", "far"], sc := defScope (top 61), vs := [("store", 0), ("rows", 1), ("far", 2)], ss := [("store", 0), ("rows", 1), ("far", 2)], gl := ["_law_go", "_law_pick", "_law_take", "len"], lv := 4 }
local macro_rules | `(tactic| lsm_bools) => `(tactic| first | refine cTake.mk _ (by first | assumption | omega | decide) _ (fun v hk1 hk2 => ?_) | refine cPick.mk _ (by first | assumption | omega | decide) _ (by first | assumption | omega | decide) (by first | assumption | omega | decide) (fun d hk1 => ?_) | refine cGo.mk _ (by first | assumption | omega | decide) ?_)
local macro_rules | `(tactic| kd_addW) => `(tactic| first | ((with_reducible apply at_110); refine zs_set (by ktu_offI) ?_))
theorem b__law_no_stop {U : Env1} (hB : Blt U ["len"]) (F__law_take : U.Def "_law_take" 3 [] cTake) (F__law_pick : U.Def "_law_pick" 4 [] cPick) (F__law_go : U.Def "_law_go" 2 [] cGo) (G H : Hp) (ds) (P) (E) (h : cNoStop ds P E) : JSs S__law_no_stop (U.cg G H fun _ => E) (defBody (top 61)) (startD S__law_no_stop.N ds) { nx := fun _ => P .non, rt := P } := by
  obtain ⟨cells, hl, rows, hr, k⟩ := h
  have a1 := hr.1
  have gl := goP_len hr
  have far : JSs S__law_no_stop (U.cg G H fun _ => E) ((defBody (top 61)).drop 2) [.fz (.sto cells), .fz (.lst (rows.map rowL)), .fz (.lst [.tup [.int ((rows.length : Int) + 1), .int 0], .tup [.int 0, .int ((rows.length : Int) + 1)], .tup [.int (10000000000000000000000000000000000000000 - 1), .int 0], .tup [.int (10000000000000000000000000000000000000000 - 1), .int (10000000000000000000000000000000000000000 - 1)]])] { nx := fun _ => P .non, rt := P } := by
    have c1 : (100 : Int) < 10 ^ 60 := by decide
    have c2 : (10000000000000000000000000000000000000000 - 1 + (10000000000000000000000000000000000000000 - 1) : Int) < 10 ^ 60 := by decide
    have c3 : (0 : Int) ≤ 10000000000000000000000000000000000000000 - 1 := by decide
    have c4 : (10000000000000000000000000000000000000000 - 1 + 0 : Int) < 10 ^ 60 := by decide
    kat_tups
    refine cPick.mk cells hl _ (by simp) (by simp) (fun d hd => ?_)
    simp only [List.mem_cons, List.not_mem_nil, or_false] at hd
    refine k d ?_
    rcases hd with rfl | rfl | rfl | rfl
    · exact plQ_mk (by omega) (by omega) (by omega)
    · exact plQ_mk (by omega) (by omega) (by omega)
    · exact plQ_mk c3 (by decide) c4
    · exact plQ_mk c3 c3 c2
  kat_tups
  rw [List.length_map]
  refine ite_d (fun h0 => ?_) (fun h0 => ?_)
  · kat_tups
    rename_i v hv1 hv2
    refine ite_d (fun h1 => ?_) (fun h1 => ?_)
    · kat_tups
      refine cPick.mk cells hl _ (fun z => ?_) (by rw [List.length_map]; omega) (fun d hd => ?_)
      · have hn : 0 < rows.length := by omega
        have ro := rowOk_at hr (List.getElem?_eq_getElem hn)
        obtain ⟨a, ha⟩ := List.exists_mem_of_ne_nil _ ro.1
        have hg : (a, ((0 : Nat) : Int) - a) ∈ goP rows := goP_mem.mpr ⟨_, _, List.getElem?_eq_getElem hn, ha, by dsimp only; omega⟩
        rw [List.map_eq_nil_iff.mp z] at hg
        cases hg
      · exact k d (plQ_go hr hd)
    · refine zs_nil ?_
      exact far
  · refine L2.iteF ?_
    refine zs_nil ?_
    exact far
def goodsOf (full : List (List Int)) : List Int := ((full.map nx).getLast?).getD [0]
theorem full_step {full : List (List Int)} (hf : PlanOk full) (hl : full.length < 12) {a : Int} (ha : a ∈ goodsOf full) : PlanOk (full ++ [[a]]) := by
  refine ⟨by rw [List.length_append, List.length_singleton]; omega, pl_append hf.2 ⟨by simp, by simp [Asc], fun b hb => ?_⟩⟩
  rw [List.mem_singleton.mp hb]
  exact ha
theorem goodsOf_ne {full : List (List Int)} (hf : PlanOk full) : goodsOf full ≠ [] := by
  unfold goodsOf
  rw [List.getLast?_map]
  cases e : full.getLast? with
  | none => simp
  | some r => exact nx_ne (Pl.mem hf (List.mem_of_getLast? e)).1
theorem goodsOf_len {full : List (List Int)} (hf : PlanOk full) : (goodsOf full).length ≤ 100 := by
  unfold goodsOf
  rw [List.getLast?_map]
  cases e : full.getLast? with
  | none => simp
  | some r =>
    have h := (Pl.mem hf (List.mem_of_getLast? e))
    have := h.nx.len
    show (nx r).length ≤ 100
    omega
abbrev rpD19 (CP : Addr) (r : List (List Int)) : D := .tup [.lst (r.map rowL), plD CP r]
abbrev S_law : Scp := { N := ["script", "store", "most", "rows", "full", "n", "goods", "plans", "pair", "steps", "reached", "go", "stops_here", "z", "places", "word", "k"], sc := defScope (top 68), vs := [("script", 0), ("store", 1), ("most", 2), ("rows", 3), ("full", 4), ("n", 5), ("goods", 6), ("plans", 7), ("pair", 8), ("steps", 9), ("reached", 10), ("go", 11), ("stops_here", 12), ("z", 13), ("places", 14), ("word", 15)], ss := [("script", 0), ("store", 1), ("most", 2), ("rows", 3), ("full", 4), ("n", 5), ("goods", 6), ("plans", 7), ("pair", 8), ("steps", 9), ("reached", 10), ("go", 11), ("stops_here", 12), ("z", 13), ("places", 14), ("word", 15)], gl := ["Plan", "_law_copy", "_law_draws", "_law_due", "_law_go", "_law_next_goods", "_law_no_stop", "_law_pick", "_law_place", "_law_right", "_law_rows", "_law_same", "_law_steps", "_law_take", "len", "openings", "range"], lv := 9 }
local macro_rules | `(tactic| lsm_bools) => `(tactic| first | refine cDraws.mk _ (by first | assumption | omega | decide) ?_ | refine cTake.mk _ (by first | assumption | omega | decide) _ (fun v hk1 hk2 => ?_) | refine cRows0.mk _ (by first | assumption | omega | decide) _ (by first | assumption | omega | decide) (by first | assumption | omega | decide) (fun rows hk1 hk2 => ?_) | refine cNextL.mk _ (by first | assumption | omega | decide) (by first | assumption | omega | decide) ?_ | refine cPick.mk _ (by first | assumption | omega | decide) _ (by first | assumption | omega | decide) (by first | assumption | omega | decide) (fun d hk1 => ?_) | refine cPlan.mk _ (by first | assumption | omega | decide) ?_ | refine cSteps.mk _ (by first | assumption | omega | decide) ?_ | refine cGo.mk _ (by first | assumption | omega | decide) ?_ | refine cNoStop.mk _ (by first | assumption | omega | decide) _ (by first | assumption | omega | decide) (fun d hk1 => ?_) | refine cPlace19.mk _ (by first | assumption | omega | decide) _ (by first | assumption | omega | decide) (by first | assumption | omega | decide) (fun a b hk2 hk3 hk4 => ?_) | refine cRight19.mk _ (by first | assumption | omega | decide) _ (by first | assumption | omega | decide) _ _ (by first | assumption | omega | decide) (by first | assumption | omega | decide) (by first | assumption | omega | decide) ?_ | refine cDue19.mk _ (by first | assumption | omega | decide) _ (by first | assumption | omega | decide) _ _ (by first | assumption | omega | decide) (by first | assumption | omega | decide) ?_ | refine cOpenings.mk _ (by first | assumption | omega | decide) ?_ | refine cCopy.mk _ (by first | assumption | omega | decide) ?_ | refine cRows.mk _ (by first | assumption | omega | decide) ?_)
local macro_rules | `(tactic| k_offL) => `(tactic| ((with_reducible apply at_98); first | refine jf_je (jf_lc (S' := { N := S_law.N, sc := relS _ S_law.sc, vs := [("k", 16), ("stops_here", 12), ("store", 1)], ss := [("k", 16)], gl := ["_law_pick"], lv := 9 }) (own := [("k", 16)]) (ok_B (by decide +kernel) (by decide +kernel) rfl rfl rfl (by decide +kernel)) ?_) | refine jf_je (jf_lc (S' := { N := S_law.N, sc := relS _ S_law.sc, vs := [("k", 16), ("go", 11), ("store", 1)], ss := [("k", 16)], gl := ["_law_pick"], lv := 9 }) (own := [("k", 16)]) (ok_B (by decide +kernel) (by decide +kernel) rfl rfl rfl (by decide +kernel)) ?_)))
local macro_rules | `(tactic| kd_addW) => `(tactic| ((with_reducible apply at_100); first | refine zs_setLcC (S' := { N := S_law.N, sc := relS _ S_law.sc, vs := [("z", 13), ("go", 11)], ss := [("z", 13)], gl := [], lv := 9 }) (own := [("z", 13)]) (by ktu_offI) (ok_B (by decide +kernel) (by decide +kernel) rfl rfl rfl (by decide +kernel)) (by decide +kernel) ?_))
local macro_rules | `(tactic| kd_addW) => `(tactic| first | ((with_reducible apply at_111); refine zs_setFL (by ktu_offI) ?_))
local macro_rules | `(tactic| kd_addW) => `(tactic| first | ((with_reducible apply at_112); refine zs_set (by ktu_offI) ?_) | ((with_reducible apply at_101); refine zs_set (by ktu_offI) ?_))
theorem b_law {U : Env1} {CP : Addr} (hC : PlanC U CP) (hB : Blt U ["range", "len"]) (F__law_draws : U.Def "_law_draws" 2 [] cDraws) (F__law_take : U.Def "_law_take" 3 [] cTake) (F__law_rows : U.DefF "_law_rows" 6 [] cRows0) (F__law_next_goods : U.DefF "_law_next_goods" 2 [] cNextL) (F__law_pick : U.Def "_law_pick" 4 [] cPick) (F_Plan : MakeOk U.P U.w U.K U.mg U.base "Plan" CP 3 cPlan) (F__law_steps : U.Def "_law_steps" 3 [] cSteps) (F__law_go : U.Def "_law_go" 2 [] cGo) (F__law_no_stop : U.Def "_law_no_stop" 5 [] cNoStop) (F__law_place : U.Def "_law_place" 5 [] cPlace19) (F__law_right : U.Def "_law_right" 9 [] (cRight19 CP)) (F__law_due : U.Def "_law_due" 6 [] cDue19) (F__law_same : U.Def "_law_same" 7 [] (cSame 5)) (F_openings : U.Def "openings" 7 [] (cOpenings CP)) (F__law_copy : U.DefF "_law_copy" 2 [] cCopy) (F_Plan_rows : MethOk U.P U.w U.K U.mg U.base CP "rows" 2 (cRows CP)) (G H : Hp) (ds) (P) (E) (h : cLaw ds P E) : JSs S_law (U.cg G H fun _ => E) (defBody (top 68)) (startD S_law.N ds) { nx := fun _ => P .non, rt := P } := by
  obtain ⟨hcl, hcm, hn1, hn2, hins, hne, hob, hsf, hml, hcy⟩ := hC
  obtain ⟨ns, hl, hbits, k⟩ := h
  have hs : 5000 < sizeLine := by decide
  have start : ∀ (m : Int), m ≤ 12 → 0 ≤ m → JSs S_law (U.cg G H fun _ => E) ((defBody (top 68)).drop 3) [.fz (.scr ns), .fz (.sto ns), .fz (.int m), .no, .no, .no, .no, .no, .no, .no, .no, .no, .no, .no, .no, .no, .no] { nx := fun _ => P .non, rt := P } := fun m m1 m2 => by
    kat_tups
    rename_i rows r1 r2
    have a1 := r1.1
    kat_tups
    rw [List.length_map]
    refine ⟨⟨by omega, by omega, by decide, by decide⟩, ?_⟩
    refine eachD (fun d rest δ' => ∃ (full : List (List Int)) (s5 s6 : Sl), PlanOk full ∧ full.length = rows.length + d.length ∧ δ' = [.fz (.scr ns), .fz (.sto ns), .fz (.int m), .fz (.lst (rows.map rowL)), .ow (full.map rowL), s5, s6, .no, .no, .no, .no, .no, .no, .no, .no, .no, .no]) src_rg ⟨rows, _, _, r1, rfl, rfl⟩ ?_ ?_
    · rintro d x rest δ' hx ⟨full, s5, s6, hf, hfl, rfl⟩
      obtain ⟨e1, e2⟩ := rgD_split hx
      have gn := goodsOf_ne hf
      have gl := goodsOf_len hf
      have tail : ∀ (N B C : List Sl → Prop) (s5 : Sl), (∀ a : Int, a ∈ goodsOf full → N [.fz (.scr ns), .fz (.sto ns), .fz (.int m), .fz (.lst (rows.map rowL)), .ow ((full ++ [[a]]).map rowL), s5, .fz (rowL (goodsOf full)), .no, .no, .no, .no, .no, .no, .no, .no, .no, .no]) → JSs S_law (U.cg G H fun _ => E) ((forBody ((defBody (top 68)).getD 5 (.Pass ⟨0, 0, 0, 0⟩))).drop 2) [.fz (.scr ns), .fz (.sto ns), .fz (.int m), .fz (.lst (rows.map rowL)), .ow (full.map rowL), s5, .fz (rowL (goodsOf full)), .no, .no, .no, .no, .no, .no, .no, .no, .no, .no] { nx := N, rt := P, bk := B, ct := C } := fun N B C s5 hN => by
        kat_tups
        refine cPick.mk ns hl _ (fun z => gn (List.map_eq_nil_iff.mp z)) (by rw [List.length_map]; omega) (fun dd hd => ?_)
        obtain ⟨a, ha, rfl⟩ := List.mem_map.mp hd
        kat_tups
        refine ⟨by rw [List.length_map]; omega, ?_⟩
        have := hN a ha
        rw [List.map_append] at this
        exact this
      have fin : ∀ (a : Int) (s5 : Sl), a ∈ goodsOf full → ∃ (full2 : List (List Int)) (s5' s6' : Sl), PlanOk full2 ∧ full2.length = rows.length + (d ++ [x]).length ∧ [.fz (.scr ns), .fz (.sto ns), .fz (.int m), .fz (.lst (rows.map rowL)), .ow ((full ++ [[a]]).map rowL), s5, .fz (rowL (goodsOf full)), .no, .no, .no, .no, .no, .no, .no, .no, .no, .no] = [.fz (.scr ns), .fz (.sto ns), .fz (.int m), .fz (.lst (rows.map rowL)), .ow (full2.map rowL), s5', s6', .no, .no, .no, .no, .no, .no, .no, .no, .no, .no] := fun a s5 ha =>
        ⟨full ++ [[a]], _, _, full_step hf (by omega) ha, by rw [List.length_append, List.length_append, List.length_singleton, List.length_singleton]; omega, rfl⟩
      kat_tups
      refine ite_d (fun h0 => ?_) (fun h0 => ?_)
      · have h1 : full.length ≠ 0 := by omega
        obtain ⟨init, r, hfe⟩ : ∃ init r, full = init ++ [r] := ⟨full.dropLast, full.getLast (fun z => h1 (by rw [z]; rfl)), (List.dropLast_concat_getLast _).symm⟩
        have eg : goodsOf full = nx r := by
          unfold goodsOf
          rw [hfe, List.map_append]
          simp
        have hg := Pl.mem hf (show r ∈ full by rw [hfe]; simp)
        have hra := hg.2.1
        have hrl : r.length ≤ 1000 := by have := hg.len; omega
        rw [eg] at tail fin
        kat_tups
        refine ⟨-1, rowL r, rfl, atI_last (by rw [hfe]; simp), ?_⟩
        kat_tups
        refine cPick.mk ns hl _ (fun z => gn (by rw [eg]; exact List.map_eq_nil_iff.mp z)) (by rw [List.length_map, ← eg]; omega) (fun dd hd => ?_)
        obtain ⟨a, ha, rfl⟩ := List.mem_map.mp hd
        kat_tups
        refine ⟨by rw [List.length_map]; omega, ?_⟩
        have := fin a (.fz (.int x)) ha
        rw [List.map_append] at this
        exact this
      · have h1 : full = [] := List.length_eq_zero_iff.mp (by omega)
        subst h1
        refine zs_nil ?_
        refine tail _ _ _ _ fun a ha => fin a _ ha
    · rintro δ' ⟨full, s5, s6, hf, hfl, rfl⟩
      refine jss_freeze 4 rfl ?_
      have f1 := hf.1
      have l1 : ∀ {r : List (List Int)}, r ∈ [rows, full] → PlanOk r := fun {r} h => by
        simp only [List.mem_cons, List.not_mem_nil, or_false] at h
        rcases h with rfl | rfl
        · exact r1
        · exact hf
      kat_tups
      refine each (fun rest δ' => ∃ s8 s9 s10 s11 s12 s13 s14 s15 : Sl, δ' = [.fz (.scr ns), .fz (.sto ns), .fz (.int m), .fz (.lst (rows.map rowL)), .fz (.lst (full.map rowL)), s5, s6, .fz (.lst ([rows, full].map (rpD19 CP))), s8, s9, s10, s11, s12, s13, s14, s15, .no]) (src_map (xs := [rows, full]) (g := rpD19 CP)) ⟨_, _, _, _, _, _, _, _, rfl⟩ ?_ ?_
      · rintro pr rest δ' hx ⟨s8, s9, s10, s11, s12, s13, s14, s15, rfl⟩
        have hp := l1 hx
        have p1 := hp.1
        have rl := re_len hp
        have gl := goP_len hp
        have sl := shP_len hp
        have sn := shP_ne hp
        kat_tups
        refine lcF (fun y : Int × Int => if y ∉ goP pr then some (plcD y) else none) src_map (by omega) ?_ ?_
        · rintro ⟨c, e⟩ _
          kat_tups
          refine ite_nd (fun h => ?_) (fun h => ?_)
          · kat_tups
            exact if_pos h
          · exact if_neg (fun q => q h)
        rw [fm_if, show (reR (goP pr)).filter (fun y => decide (y ∉ goP pr)) = shP pr from rfl]
        have qs : ∀ d, d ∈ (shP pr).map plcD → PlQ d := fun d hd => by
          obtain ⟨z, hz, rfl⟩ := List.mem_map.mp hd
          exact plQ_re hp (List.mem_map.mpr ⟨z, (List.mem_filter.mp hz).1, rfl⟩)
        kat_tups
        refine ⟨fun i acc => (∀ d ∈ acc, PlQ d) ∧ acc.length ≤ i, ⟨by simp, by simp⟩, ?_, ?_⟩
        · rintro i acc hi ⟨ha, hal⟩
          kat_tups
          refine cPick.mk ns hl _ (fun z => sn (List.map_eq_nil_iff.mp z)) (by rw [List.length_map]; omega) (fun d hd => ?_)
          refine ⟨by omega, fun d2 h2 => ?_, by rw [List.length_append, List.length_singleton]; omega⟩
          rcases List.mem_append.mp h2 with w | w
          · exact ha d2 w
          · rw [List.mem_singleton.mp w]; exact qs d hd
        rintro acc1 ⟨q1, q2⟩
        obtain ⟨zl, hzl⟩ := Option.ne_none_iff_exists'.mp fun z => sn (List.getLast?_eq_none_iff.mp z)
        kat_tups
        refine ixd_lst (atI_last hzl) ?_
        kat_tups
        rename_i dn hdn
        refine of_od (of_cat (by simp only [List.length_cons, List.length_nil]; omega) ?_)
        have qz : PlQ (plcD zl) := qs _ (List.mem_map.mpr ⟨zl, List.mem_of_getLast? hzl, rfl⟩)
        have q0 : PlQ (plcD (0, 0)) := plQ_mk (by decide) (by decide) (by decide)
        have q3 : ∀ d ∈ acc1 ++ [plcD zl, dn], PlQ d := fun d hd => by
          rcases List.mem_append.mp hd with w | w
          · exact q1 d w
          · simp only [List.mem_cons, List.not_mem_nil, or_false] at w
            rcases w with rfl | rfl
            · exact qz
            · exact hdn
        have q4 : (acc1 ++ [plcD zl, dn]).length ≤ 6 := by
          rw [List.length_append]
          simp only [List.length_cons, List.length_nil]
          omega
        generalize acc1 ++ [plcD zl, dn] = ps1 at q3 q4
        kat_tups
        refine ⟨fun i acc => (∀ d ∈ acc, PlQ d) ∧ acc.length ≤ i, ⟨by simp, by simp⟩, ?_, ?_⟩
        · rintro i acc hi ⟨ha, hal⟩
          kat_tups
          refine of_od (of_cat (by rw [List.length_map]; simp only [List.length_cons, List.length_nil]; omega) ?_)
          kat_tups
          refine cPick.mk ns hl _ (by simp) (by rw [List.length_append, List.length_map]; simp only [List.length_cons, List.length_nil]; omega) (fun d hd => ?_)
          refine ⟨by omega, fun d2 h2 => ?_, by rw [List.length_append, List.length_singleton]; omega⟩
          rcases List.mem_append.mp h2 with w | w
          · exact ha d2 w
          · rw [List.mem_singleton.mp w]
            rcases List.mem_append.mp hd with u | u
            · exact plQ_go hp u
            · rw [List.mem_singleton.mp u]; exact q0
        rintro acc2 ⟨q5, q6⟩
        kat_tups
        rename_i pa pb w1 w2 w3
        refine of_od (of_cat (by rw [List.length_append]; simp only [List.length_cons, List.length_nil]; omega) ?_)
        kat_tups
        have hcl : (cutL (goP pr) (some (-2)) none).length ≤ (goP pr).length := by
          unfold cutL
          rw [List.length_take, List.length_drop]
          omega
        have hcm : ∀ z ∈ cutL (goP pr) (some (-2)) none, z ∈ goP pr := fun z hz => List.mem_of_mem_drop (List.mem_of_mem_take hz)
        refine of_od (of_cat (by simp only [List.length_append, List.length_cons, List.length_nil, List.length_map]; omega) ?_)
        have q7 : ∀ d ∈ ps1 ++ acc2 ++ [plcD (pa, pb)] ++ (cutL (goP pr) (some (-2)) none).map plcD, PlQ d := fun d hd => by
          rcases List.mem_append.mp hd with w | w
          · rcases List.mem_append.mp w with u | u
            · rcases List.mem_append.mp u with v | v
              · exact q3 d v
              · exact q5 d v
            · rw [List.mem_singleton.mp u]
              have h60 : (100 : Int) < 10 ^ 60 := by decide
              exact plQ_mk w1 w2 (by omega)
          · obtain ⟨z, hz, rfl⟩ := List.mem_map.mp w
            exact plQ_go hp (List.mem_map.mpr ⟨z, hcm z hz, rfl⟩)
        generalize ps1 ++ acc2 ++ [plcD (pa, pb)] ++ (cutL (goP pr) (some (-2)) none).map plcD = ps2 at q7
        kat_tups
        refine each (fun rest δ' => ∃ s13 s15 : Sl, δ' = [.fz (.scr ns), .fz (.sto ns), .fz (.int m), .fz (.lst (rows.map rowL)), .fz (.lst (full.map rowL)), s5, s6, .fz (.lst ([rows, full].map (rpD19 CP))), .fz (rpD19 CP pr), .fz (stepsD pr), .fz (.lst ((reR (goP pr)).map plcD)), .fz (.lst ((goP pr).map plcD)), .fz (.lst ((shP pr).map plcD)), s13, .fz (.lst ps2), s15, .no]) (src_ds (ds := ps2)) ⟨_, _, rfl⟩ ?_ ?_
        · rintro d rest δ' hd ⟨s13, s15, rfl⟩
          obtain ⟨a, b, ha, hb, h60, rfl⟩ := q7 d hd
          kat_tups
          refine each (fun rest δ' => ∃ s15 : Sl, δ' = [.fz (.scr ns), .fz (.sto ns), .fz (.int m), .fz (.lst (rows.map rowL)), .fz (.lst (full.map rowL)), s5, s6, .fz (.lst ([rows, full].map (rpD19 CP))), .fz (rpD19 CP pr), .fz (stepsD pr), .fz (.lst ((reR (goP pr)).map plcD)), .fz (.lst ((goP pr).map plcD)), .fz (.lst ((shP pr).map plcD)), .fz (plcD (a, b)), .fz (.lst ps2), s15, .no]) (src_map (xs := (["open", "close", "grow"] : List Str)) (g := D.str)) ⟨_, rfl⟩ ?_ ?_
          · rintro w rest δ' hw ⟨s15, rfl⟩
            have hww : w = "open" ∨ w = "close" ∨ w = "grow" := by simpa using hw
            kat_tups
            done
          · rintro δ' ⟨s15, rfl⟩
            exact ⟨_, _, rfl⟩
        · rintro δ' ⟨s13, s15, rfl⟩
          exact ⟨_, _, _, _, _, _, _, _, rfl⟩
      · rintro δ' ⟨s8, s9, s10, s11, s12, s13, s14, s15, rfl⟩
        kat_tups
        rw [show cutL [rows, full] none (some 1) = [rows] from rfl]
        refine of_od (of_cat (show (2 : Nat) + 1 ≤ sizeLine by decide) ?_)
        rw [← List.map_append]
        have l2 : ∀ {r : List (List Int)}, r ∈ [rows, full] ++ [rows] → PlanOk r := fun {r} h => by
          simp only [List.mem_cons, List.not_mem_nil, or_false, List.mem_append] at h
          rcases h with (rfl | rfl) | rfl
          · exact r1
          · exact hf
          · exact r1
        kat_tups
        refine each (fun rest δ' => ∃ s8 : Sl, δ' = [.fz (.scr ns), .fz (.sto ns), .fz (.int m), .fz (.lst (rows.map rowL)), .fz (.lst (full.map rowL)), s5, s6, .fz (.lst ([rows, full].map (rpD19 CP))), s8, s9, s10, s11, s12, s13, s14, s15, .no]) src_map ⟨_, rfl⟩ ?_ ?_
        · rintro pr rest δ' hx ⟨s8, rfl⟩
          have hp := l2 hx
          have p1 := hp.1
          kat_tups
          try exact ⟨_, rfl⟩
        · rintro δ' ⟨s8, rfl⟩
          kat_tups
          try exact k
  kat_tups
  refine ite_d (fun q => ?_) (fun q => ?_)
  · repeat ((fail_if_success (with_reducible apply at_113)); kas_types)
    exact start 12 (by decide) (by decide)
  · refine zs_nil ?_
    exact start 8 (by decide) (by decide)
end
end Z
set_option Elab.async false
set_option linter.all false
set_option maxRecDepth 100000
set_option maxHeartbeats 4000000
namespace Z
open PySem L2

theorem all_mk {l : PySem.W.OpenLaw} {w : World} {K : PySem.W.Frag} {h : Heap} {mg : Str → Option Value} {fa CP XTrialError XBadPlan XTooLong XTooMany XBadText XBadEnds XBadTelling XBadVerdict XBadCourse XNotStop XBadLot XBadShare XBadPoly XBadFraction XBadDesign XHasGap XUntold XTooDeep XBadPage XRefused fITooLong ccTooLong cdaTooLong NTooLong fIBadPlan ccBadPlan cdaBadPlan NBadPlan f0 f1 f2 f3 f4 f5 f6 f7 f8 f9 f10 f11 p11 f12 f13 p13 f14 f15 f16 f17 f18 f19 f20 f21 f22 f23 f24 f25 f26 f27 f28 f29 f30 f31 f32 cc32 PP32 f33 f34 f35 f36 f37 f38 f39 f40 f41 f42 f43 f44 f45 f46 f47 f48 : Addr} (X : K.In h) (G : h.Ns mainGlobals mg) (hfa : mg "law" = some (.ref fa))
    {ddTooLong xodTooLong xanTooLong cddTooLong cldTooLong ddBadPlan xodBadPlan xanBadPlan cddBadPlan cldBadPlan od32 an32 : Option Addr} {xslTooLong ccsTooLong cslTooLong xslBadPlan ccsBadPlan cslBadPlan sl32 : Array (Option Value)} {xocTooLong xkVTooLong xdcTooLong xpmTooLong xctTooLong cclTooLong clTooLong xocBadPlan xkVBadPlan xdcBadPlan xpmBadPlan xctBadPlan cclBadPlan clBadPlan oc0 kV0 dc0 pm0 ct0 cd0 oc1 kV1 dc1 pm1 ct1 cd1 oc2 kV2 dc2 pm2 ct2 cd2 oc3 kV3 dc3 pm3 ct3 cd3 oc4 kV4 dc4 pm4 ct4 cd4 oc5 kV5 dc5 pm5 ct5 cd5 oc6 kV6 dc6 pm6 ct6 cd6 oc7 kV7 dc7 pm7 ct7 cd7 oc8 kV8 dc8 pm8 ct8 cd8 oc9 kV9 dc9 pm9 ct9 cd9 oc10 kV10 dc10 pm10 ct10 cd10 oc11 kV11 dc11 pm11 ct11 cd11 oc12 kV12 dc12 pm12 ct12 cd12 oc13 kV13 dc13 pm13 ct13 cd13 oc14 kV14 dc14 pm14 ct14 cd14 oc15 kV15 dc15 pm15 ct15 cd15 oc16 kV16 dc16 pm16 ct16 cd16 oc17 kV17 dc17 pm17 ct17 cd17 oc18 kV18 dc18 pm18 ct18 cd18 oc19 kV19 dc19 pm19 ct19 cd19 oc20 kV20 dc20 pm20 ct20 cd20 oc21 kV21 dc21 pm21 ct21 cd21 oc22 kV22 dc22 pm22 ct22 cd22 oc23 kV23 dc23 pm23 ct23 cd23 oc24 kV24 dc24 pm24 ct24 cd24 oc25 kV25 dc25 pm25 ct25 cd25 oc26 kV26 dc26 pm26 ct26 cd26 oc27 kV27 dc27 pm27 ct27 cd27 oc28 kV28 dc28 pm28 ct28 cd28 oc29 kV29 dc29 pm29 ct29 cd29 oc30 kV30 dc30 pm30 ct30 cd30 oc31 kV31 dc31 pm31 ct31 cd31 oc32 kV32 dc32 pm32 ct32 oc33 kV33 dc33 pm33 ct33 cd33 oc34 kV34 dc34 pm34 ct34 cd34 oc35 kV35 dc35 pm35 ct35 cd35 oc36 kV36 dc36 pm36 ct36 cd36 oc37 kV37 dc37 pm37 ct37 cd37 oc38 kV38 dc38 pm38 ct38 cd38 oc39 kV39 dc39 pm39 ct39 cd39 oc40 kV40 dc40 pm40 ct40 cd40 oc41 kV41 dc41 pm41 ct41 cd41 oc42 kV42 dc42 pm42 ct42 cd42 oc43 kV43 dc43 pm43 ct43 cd43 oc44 kV44 dc44 pm44 ct44 cd44 oc45 kV45 dc45 pm45 ct45 cd45 oc46 kV46 dc46 pm46 ct46 cd46 oc47 kV47 dc47 pm47 ct47 cd47 oc48 kV48 dc48 pm48 ct48 cd48 : Value} {TT : List Addr} {tML : Tok} {nmTooLong qnTooLong fileTooLong : Str} {bsTooLong bmTooLong suTooLong : List Value} {snTooLong : List Str} {abTooLong : Bool} {colTooLong : Option Bool} {kATooLong kBTooLong kCTooLong kDTooLong kETooLong : Option Value} {vsTooLong : Array Value} {tfTooLong : Tok} {nmBadPlan qnBadPlan fileBadPlan : Str} {bsBadPlan bmBadPlan suBadPlan : List Value} {snBadPlan : List Str} {abBadPlan : Bool} {colBadPlan : Option Bool} {kABadPlan kBBadPlan kCBadPlan kDBadPlan kEBadPlan : Option Value} {vsBadPlan : Array Value} {tfBadPlan : Tok} {r11 : List Value} {r13 : List Value}
    (aC : PySem.W.nsIn K mainGlobals "Plan" = some (some (.ref CP)))
    (Qpg : PySem.W.plainGet K CP Str.empty = true)
    (Qhd : PySem.W.hasDictIn K CP = true)
    (Qpo : PySem.W.plainOver K CP = true)
    (Qsa : PySem.W.findIn K (.ref CP) "__setattr__" = some (some (.builtin "object.__setattr__")))
    (Qty : PySem.W.typeIn K (.ref CP) = some (.type "type"))
    (Qmk : PySem.W.makesIn K CP = true)
    (Qkc : PySem.W.keepIn K (.ref CP) = true)
    (Qn1 : PySem.W.findIn K (.ref CP) "go_rows" = some none)
    (Qn2 : PySem.W.findIn K (.ref CP) "met_rows" = some none)
    (Qhc : PySem.W.findIn K (.ref CP) "__class__" = some (some (.builtin "object.__class__")))
    (Qhg : PySem.W.specialIn K (.builtin "object.__class__") "__get__" = some (some (.builtin "getset_descriptor.__get__")))
    (Qht : PySem.W.takesIn K (.builtin "object.__class__") = some true)
    (Qhm : PySem.W.mroIn K CP (.type "object") = some true)
    (Qne : PySem.W.findIn K (.ref CP) "__ne__" = some (some (.builtin "object.__ne__")))
    (Qob : PySem.W.subIn K (.ref CP) (.type "object") = some true)
    (Qsf : PySem.W.selfFirst K CP = true)
    (aML : PySem.W.nsIn K mainGlobals "MOST_LOOKS" = some (some (.int 12 tML)))
    (aTrialError : PySem.W.nsIn K mainGlobals "TrialError" = some (some (.ref XTrialError)))
    (beTrialError : PySem.W.subIn K (.ref XTrialError) (.type "BaseException") = some true)
    (hdTrialError : PySem.W.hasDictIn K XTrialError = true)
    (tyTrialError : PySem.W.typeIn K (.ref XTrialError) = some (.type "type"))
    (aBadPlan : PySem.W.nsIn K mainGlobals "BadPlan" = some (some (.ref XBadPlan)))
    (beBadPlan : PySem.W.subIn K (.ref XBadPlan) (.type "BaseException") = some true)
    (hdBadPlan : PySem.W.hasDictIn K XBadPlan = true)
    (tyBadPlan : PySem.W.typeIn K (.ref XBadPlan) = some (.type "type"))
    (aTooLong : PySem.W.nsIn K mainGlobals "TooLong" = some (some (.ref XTooLong)))
    (beTooLong : PySem.W.subIn K (.ref XTooLong) (.type "BaseException") = some true)
    (hdTooLong : PySem.W.hasDictIn K XTooLong = true)
    (tyTooLong : PySem.W.typeIn K (.ref XTooLong) = some (.type "type"))
    (aTooMany : PySem.W.nsIn K mainGlobals "TooMany" = some (some (.ref XTooMany)))
    (beTooMany : PySem.W.subIn K (.ref XTooMany) (.type "BaseException") = some true)
    (hdTooMany : PySem.W.hasDictIn K XTooMany = true)
    (tyTooMany : PySem.W.typeIn K (.ref XTooMany) = some (.type "type"))
    (aBadText : PySem.W.nsIn K mainGlobals "BadText" = some (some (.ref XBadText)))
    (beBadText : PySem.W.subIn K (.ref XBadText) (.type "BaseException") = some true)
    (hdBadText : PySem.W.hasDictIn K XBadText = true)
    (tyBadText : PySem.W.typeIn K (.ref XBadText) = some (.type "type"))
    (aBadEnds : PySem.W.nsIn K mainGlobals "BadEnds" = some (some (.ref XBadEnds)))
    (beBadEnds : PySem.W.subIn K (.ref XBadEnds) (.type "BaseException") = some true)
    (hdBadEnds : PySem.W.hasDictIn K XBadEnds = true)
    (tyBadEnds : PySem.W.typeIn K (.ref XBadEnds) = some (.type "type"))
    (aBadTelling : PySem.W.nsIn K mainGlobals "BadTelling" = some (some (.ref XBadTelling)))
    (beBadTelling : PySem.W.subIn K (.ref XBadTelling) (.type "BaseException") = some true)
    (hdBadTelling : PySem.W.hasDictIn K XBadTelling = true)
    (tyBadTelling : PySem.W.typeIn K (.ref XBadTelling) = some (.type "type"))
    (aBadVerdict : PySem.W.nsIn K mainGlobals "BadVerdict" = some (some (.ref XBadVerdict)))
    (beBadVerdict : PySem.W.subIn K (.ref XBadVerdict) (.type "BaseException") = some true)
    (hdBadVerdict : PySem.W.hasDictIn K XBadVerdict = true)
    (tyBadVerdict : PySem.W.typeIn K (.ref XBadVerdict) = some (.type "type"))
    (aBadCourse : PySem.W.nsIn K mainGlobals "BadCourse" = some (some (.ref XBadCourse)))
    (beBadCourse : PySem.W.subIn K (.ref XBadCourse) (.type "BaseException") = some true)
    (hdBadCourse : PySem.W.hasDictIn K XBadCourse = true)
    (tyBadCourse : PySem.W.typeIn K (.ref XBadCourse) = some (.type "type"))
    (aNotStop : PySem.W.nsIn K mainGlobals "NotStop" = some (some (.ref XNotStop)))
    (beNotStop : PySem.W.subIn K (.ref XNotStop) (.type "BaseException") = some true)
    (hdNotStop : PySem.W.hasDictIn K XNotStop = true)
    (tyNotStop : PySem.W.typeIn K (.ref XNotStop) = some (.type "type"))
    (aBadLot : PySem.W.nsIn K mainGlobals "BadLot" = some (some (.ref XBadLot)))
    (beBadLot : PySem.W.subIn K (.ref XBadLot) (.type "BaseException") = some true)
    (hdBadLot : PySem.W.hasDictIn K XBadLot = true)
    (tyBadLot : PySem.W.typeIn K (.ref XBadLot) = some (.type "type"))
    (aBadShare : PySem.W.nsIn K mainGlobals "BadShare" = some (some (.ref XBadShare)))
    (beBadShare : PySem.W.subIn K (.ref XBadShare) (.type "BaseException") = some true)
    (hdBadShare : PySem.W.hasDictIn K XBadShare = true)
    (tyBadShare : PySem.W.typeIn K (.ref XBadShare) = some (.type "type"))
    (aBadPoly : PySem.W.nsIn K mainGlobals "BadPoly" = some (some (.ref XBadPoly)))
    (beBadPoly : PySem.W.subIn K (.ref XBadPoly) (.type "BaseException") = some true)
    (hdBadPoly : PySem.W.hasDictIn K XBadPoly = true)
    (tyBadPoly : PySem.W.typeIn K (.ref XBadPoly) = some (.type "type"))
    (aBadFraction : PySem.W.nsIn K mainGlobals "BadFraction" = some (some (.ref XBadFraction)))
    (beBadFraction : PySem.W.subIn K (.ref XBadFraction) (.type "BaseException") = some true)
    (hdBadFraction : PySem.W.hasDictIn K XBadFraction = true)
    (tyBadFraction : PySem.W.typeIn K (.ref XBadFraction) = some (.type "type"))
    (aBadDesign : PySem.W.nsIn K mainGlobals "BadDesign" = some (some (.ref XBadDesign)))
    (beBadDesign : PySem.W.subIn K (.ref XBadDesign) (.type "BaseException") = some true)
    (hdBadDesign : PySem.W.hasDictIn K XBadDesign = true)
    (tyBadDesign : PySem.W.typeIn K (.ref XBadDesign) = some (.type "type"))
    (aHasGap : PySem.W.nsIn K mainGlobals "HasGap" = some (some (.ref XHasGap)))
    (beHasGap : PySem.W.subIn K (.ref XHasGap) (.type "BaseException") = some true)
    (hdHasGap : PySem.W.hasDictIn K XHasGap = true)
    (tyHasGap : PySem.W.typeIn K (.ref XHasGap) = some (.type "type"))
    (aUntold : PySem.W.nsIn K mainGlobals "Untold" = some (some (.ref XUntold)))
    (beUntold : PySem.W.subIn K (.ref XUntold) (.type "BaseException") = some true)
    (hdUntold : PySem.W.hasDictIn K XUntold = true)
    (tyUntold : PySem.W.typeIn K (.ref XUntold) = some (.type "type"))
    (aTooDeep : PySem.W.nsIn K mainGlobals "TooDeep" = some (some (.ref XTooDeep)))
    (beTooDeep : PySem.W.subIn K (.ref XTooDeep) (.type "BaseException") = some true)
    (hdTooDeep : PySem.W.hasDictIn K XTooDeep = true)
    (tyTooDeep : PySem.W.typeIn K (.ref XTooDeep) = some (.type "type"))
    (aBadPage : PySem.W.nsIn K mainGlobals "BadPage" = some (some (.ref XBadPage)))
    (beBadPage : PySem.W.subIn K (.ref XBadPage) (.type "BaseException") = some true)
    (hdBadPage : PySem.W.hasDictIn K XBadPage = true)
    (tyBadPage : PySem.W.typeIn K (.ref XBadPage) = some (.type "type"))
    (aRefused : PySem.W.nsIn K mainGlobals "Refused" = some (some (.ref XRefused)))
    (beRefused : PySem.W.subIn K (.ref XRefused) (.type "BaseException") = some true)
    (hdRefused : PySem.W.hasDictIn K XRefused = true)
    (tyRefused : PySem.W.typeIn K (.ref XRefused) = some (.type "type"))
    (gaTooLong : PySem.W.findIn K (.ref XTooLong) "__getattribute__" = some (some (.builtin "BaseException.__getattribute__")))
    (ggTooLong : PySem.W.findIn K (.ref XTooLong) "__getattr__" = some none)
    (hcTooLong : PySem.W.findIn K (.ref XTooLong) "__class__" = some (some (.builtin "object.__class__")))
    (hmTooLong : PySem.W.mroIn K XTooLong (.type "object") = some true)
    (hvTooLong : PySem.W.subIn K (.ref XTooLong) (.type "ValueError") = some true)
    (sTooLong_TrialError : PySem.W.subIn K (.ref XTooLong) (.ref XTrialError) = some true)
    (sTooLong_BadPlan : PySem.W.subIn K (.ref XTooLong) (.ref XBadPlan) = some false)
    (sTooLong_TooLong : PySem.W.subIn K (.ref XTooLong) (.ref XTooLong) = some true)
    (sTooLong_TooMany : PySem.W.subIn K (.ref XTooLong) (.ref XTooMany) = some false)
    (sTooLong_BadText : PySem.W.subIn K (.ref XTooLong) (.ref XBadText) = some false)
    (sTooLong_BadEnds : PySem.W.subIn K (.ref XTooLong) (.ref XBadEnds) = some false)
    (sTooLong_BadTelling : PySem.W.subIn K (.ref XTooLong) (.ref XBadTelling) = some false)
    (sTooLong_BadVerdict : PySem.W.subIn K (.ref XTooLong) (.ref XBadVerdict) = some false)
    (sTooLong_BadCourse : PySem.W.subIn K (.ref XTooLong) (.ref XBadCourse) = some false)
    (sTooLong_NotStop : PySem.W.subIn K (.ref XTooLong) (.ref XNotStop) = some false)
    (sTooLong_BadLot : PySem.W.subIn K (.ref XTooLong) (.ref XBadLot) = some false)
    (sTooLong_BadShare : PySem.W.subIn K (.ref XTooLong) (.ref XBadShare) = some false)
    (sTooLong_BadPoly : PySem.W.subIn K (.ref XTooLong) (.ref XBadPoly) = some false)
    (sTooLong_BadFraction : PySem.W.subIn K (.ref XTooLong) (.ref XBadFraction) = some false)
    (sTooLong_BadDesign : PySem.W.subIn K (.ref XTooLong) (.ref XBadDesign) = some false)
    (sTooLong_HasGap : PySem.W.subIn K (.ref XTooLong) (.ref XHasGap) = some false)
    (sTooLong_Untold : PySem.W.subIn K (.ref XTooLong) (.ref XUntold) = some false)
    (sTooLong_TooDeep : PySem.W.subIn K (.ref XTooLong) (.ref XTooDeep) = some false)
    (sTooLong_BadPage : PySem.W.subIn K (.ref XTooLong) (.ref XBadPage) = some false)
    (sTooLong_Refused : PySem.W.subIn K (.ref XTooLong) (.ref XRefused) = some false)
    (nTooLong_BadPlan : XTooLong ≠ XBadPlan)
    (nTooLong_TooMany : XTooLong ≠ XTooMany)
    (nTooLong_BadText : XTooLong ≠ XBadText)
    (nTooLong_BadEnds : XTooLong ≠ XBadEnds)
    (nTooLong_BadTelling : XTooLong ≠ XBadTelling)
    (nTooLong_BadVerdict : XTooLong ≠ XBadVerdict)
    (nTooLong_BadCourse : XTooLong ≠ XBadCourse)
    (nTooLong_NotStop : XTooLong ≠ XNotStop)
    (nTooLong_BadLot : XTooLong ≠ XBadLot)
    (nTooLong_BadShare : XTooLong ≠ XBadShare)
    (nTooLong_BadPoly : XTooLong ≠ XBadPoly)
    (nTooLong_BadFraction : XTooLong ≠ XBadFraction)
    (nTooLong_BadDesign : XTooLong ≠ XBadDesign)
    (nTooLong_HasGap : XTooLong ≠ XHasGap)
    (nTooLong_Untold : XTooLong ≠ XUntold)
    (nTooLong_TooDeep : XTooLong ≠ XTooDeep)
    (nTooLong_BadPage : XTooLong ≠ XBadPage)
    (nTooLong_Refused : XTooLong ≠ XRefused)
    (gaBadPlan : PySem.W.findIn K (.ref XBadPlan) "__getattribute__" = some (some (.builtin "BaseException.__getattribute__")))
    (ggBadPlan : PySem.W.findIn K (.ref XBadPlan) "__getattr__" = some none)
    (hcBadPlan : PySem.W.findIn K (.ref XBadPlan) "__class__" = some (some (.builtin "object.__class__")))
    (hmBadPlan : PySem.W.mroIn K XBadPlan (.type "object") = some true)
    (hvBadPlan : PySem.W.subIn K (.ref XBadPlan) (.type "ValueError") = some true)
    (sBadPlan_TrialError : PySem.W.subIn K (.ref XBadPlan) (.ref XTrialError) = some true)
    (sBadPlan_BadPlan : PySem.W.subIn K (.ref XBadPlan) (.ref XBadPlan) = some true)
    (sBadPlan_TooLong : PySem.W.subIn K (.ref XBadPlan) (.ref XTooLong) = some false)
    (sBadPlan_TooMany : PySem.W.subIn K (.ref XBadPlan) (.ref XTooMany) = some false)
    (sBadPlan_BadText : PySem.W.subIn K (.ref XBadPlan) (.ref XBadText) = some false)
    (sBadPlan_BadEnds : PySem.W.subIn K (.ref XBadPlan) (.ref XBadEnds) = some false)
    (sBadPlan_BadTelling : PySem.W.subIn K (.ref XBadPlan) (.ref XBadTelling) = some false)
    (sBadPlan_BadVerdict : PySem.W.subIn K (.ref XBadPlan) (.ref XBadVerdict) = some false)
    (sBadPlan_BadCourse : PySem.W.subIn K (.ref XBadPlan) (.ref XBadCourse) = some false)
    (sBadPlan_NotStop : PySem.W.subIn K (.ref XBadPlan) (.ref XNotStop) = some false)
    (sBadPlan_BadLot : PySem.W.subIn K (.ref XBadPlan) (.ref XBadLot) = some false)
    (sBadPlan_BadShare : PySem.W.subIn K (.ref XBadPlan) (.ref XBadShare) = some false)
    (sBadPlan_BadPoly : PySem.W.subIn K (.ref XBadPlan) (.ref XBadPoly) = some false)
    (sBadPlan_BadFraction : PySem.W.subIn K (.ref XBadPlan) (.ref XBadFraction) = some false)
    (sBadPlan_BadDesign : PySem.W.subIn K (.ref XBadPlan) (.ref XBadDesign) = some false)
    (sBadPlan_HasGap : PySem.W.subIn K (.ref XBadPlan) (.ref XHasGap) = some false)
    (sBadPlan_Untold : PySem.W.subIn K (.ref XBadPlan) (.ref XUntold) = some false)
    (sBadPlan_TooDeep : PySem.W.subIn K (.ref XBadPlan) (.ref XTooDeep) = some false)
    (sBadPlan_BadPage : PySem.W.subIn K (.ref XBadPlan) (.ref XBadPage) = some false)
    (sBadPlan_Refused : PySem.W.subIn K (.ref XBadPlan) (.ref XRefused) = some false)
    (nBadPlan_TooLong : XBadPlan ≠ XTooLong)
    (nBadPlan_TooMany : XBadPlan ≠ XTooMany)
    (nBadPlan_BadText : XBadPlan ≠ XBadText)
    (nBadPlan_BadEnds : XBadPlan ≠ XBadEnds)
    (nBadPlan_BadTelling : XBadPlan ≠ XBadTelling)
    (nBadPlan_BadVerdict : XBadPlan ≠ XBadVerdict)
    (nBadPlan_BadCourse : XBadPlan ≠ XBadCourse)
    (nBadPlan_NotStop : XBadPlan ≠ XNotStop)
    (nBadPlan_BadLot : XBadPlan ≠ XBadLot)
    (nBadPlan_BadShare : XBadPlan ≠ XBadShare)
    (nBadPlan_BadPoly : XBadPlan ≠ XBadPoly)
    (nBadPlan_BadFraction : XBadPlan ≠ XBadFraction)
    (nBadPlan_BadDesign : XBadPlan ≠ XBadDesign)
    (nBadPlan_HasGap : XBadPlan ≠ XHasGap)
    (nBadPlan_Untold : XBadPlan ≠ XUntold)
    (nBadPlan_TooDeep : XBadPlan ≠ XTooDeep)
    (nBadPlan_BadPage : XBadPlan ≠ XBadPage)
    (nBadPlan_Refused : XBadPlan ≠ XRefused)
    (gaNotStop : PySem.W.findIn K (.ref XNotStop) "__getattribute__" = some (some (.builtin "BaseException.__getattribute__")))
    (ggNotStop : PySem.W.findIn K (.ref XNotStop) "__getattr__" = some none)
    (hcNotStop : PySem.W.findIn K (.ref XNotStop) "__class__" = some (some (.builtin "object.__class__")))
    (hmNotStop : PySem.W.mroIn K XNotStop (.type "object") = some true)
    (hvNotStop : PySem.W.subIn K (.ref XNotStop) (.type "ValueError") = some true)
    (sNotStop_TrialError : PySem.W.subIn K (.ref XNotStop) (.ref XTrialError) = some true)
    (sNotStop_BadPlan : PySem.W.subIn K (.ref XNotStop) (.ref XBadPlan) = some false)
    (sNotStop_TooLong : PySem.W.subIn K (.ref XNotStop) (.ref XTooLong) = some false)
    (sNotStop_TooMany : PySem.W.subIn K (.ref XNotStop) (.ref XTooMany) = some false)
    (sNotStop_BadText : PySem.W.subIn K (.ref XNotStop) (.ref XBadText) = some false)
    (sNotStop_BadEnds : PySem.W.subIn K (.ref XNotStop) (.ref XBadEnds) = some false)
    (sNotStop_BadTelling : PySem.W.subIn K (.ref XNotStop) (.ref XBadTelling) = some false)
    (sNotStop_BadVerdict : PySem.W.subIn K (.ref XNotStop) (.ref XBadVerdict) = some false)
    (sNotStop_BadCourse : PySem.W.subIn K (.ref XNotStop) (.ref XBadCourse) = some false)
    (sNotStop_NotStop : PySem.W.subIn K (.ref XNotStop) (.ref XNotStop) = some true)
    (sNotStop_BadLot : PySem.W.subIn K (.ref XNotStop) (.ref XBadLot) = some false)
    (sNotStop_BadShare : PySem.W.subIn K (.ref XNotStop) (.ref XBadShare) = some false)
    (sNotStop_BadPoly : PySem.W.subIn K (.ref XNotStop) (.ref XBadPoly) = some false)
    (sNotStop_BadFraction : PySem.W.subIn K (.ref XNotStop) (.ref XBadFraction) = some false)
    (sNotStop_BadDesign : PySem.W.subIn K (.ref XNotStop) (.ref XBadDesign) = some false)
    (sNotStop_HasGap : PySem.W.subIn K (.ref XNotStop) (.ref XHasGap) = some false)
    (sNotStop_Untold : PySem.W.subIn K (.ref XNotStop) (.ref XUntold) = some false)
    (sNotStop_TooDeep : PySem.W.subIn K (.ref XNotStop) (.ref XTooDeep) = some false)
    (sNotStop_BadPage : PySem.W.subIn K (.ref XNotStop) (.ref XBadPage) = some false)
    (sNotStop_Refused : PySem.W.subIn K (.ref XNotStop) (.ref XRefused) = some false)
    (nNotStop_BadPlan : XNotStop ≠ XBadPlan)
    (nNotStop_TooLong : XNotStop ≠ XTooLong)
    (nNotStop_TooMany : XNotStop ≠ XTooMany)
    (nNotStop_BadText : XNotStop ≠ XBadText)
    (nNotStop_BadEnds : XNotStop ≠ XBadEnds)
    (nNotStop_BadTelling : XNotStop ≠ XBadTelling)
    (nNotStop_BadVerdict : XNotStop ≠ XBadVerdict)
    (nNotStop_BadCourse : XNotStop ≠ XBadCourse)
    (nNotStop_BadLot : XNotStop ≠ XBadLot)
    (nNotStop_BadShare : XNotStop ≠ XBadShare)
    (nNotStop_BadPoly : XNotStop ≠ XBadPoly)
    (nNotStop_BadFraction : XNotStop ≠ XBadFraction)
    (nNotStop_BadDesign : XNotStop ≠ XBadDesign)
    (nNotStop_HasGap : XNotStop ≠ XHasGap)
    (nNotStop_Untold : XNotStop ≠ XUntold)
    (nNotStop_TooDeep : XNotStop ≠ XTooDeep)
    (nNotStop_BadPage : XNotStop ≠ XBadPage)
    (nNotStop_Refused : XNotStop ≠ XRefused)
    (xiNotStop : PySem.W.excIn K XNotStop veBases "ValueError.__new__" = true)
    (kzNotStop : PySem.W.keepIn K (.ref XNotStop) = true)
    (nsuper : PySem.W.nsIn K mainGlobals "super" = some none)
    (opq : PySem.W.nsIn K PySem.cStatics "thirdparty.any" = some none)
    (tops : (l.prog.main.scope.names.lookup ("super" : Str)).isSome = false)
    (lcTooLong : K.lookup XTooLong = some (excClassObj nmTooLong qnTooLong XTooLong NTooLong bsTooLong bmTooLong true snTooLong suTooLong abTooLong colTooLong ddTooLong kATooLong kBTooLong kCTooLong kDTooLong kETooLong "ValueError.__new__"))
    (rvTooLong : PySem.HandSPX.refsVE bmTooLong = true)
    (saTooLong : PySem.W.findIn K (.ref XTooLong) "__setattr__" = some (some (.builtin "object.__setattr__")))
    (kpTooLong : PySem.W.keepIn K (.ref XTooLong) = true)
    (fnTooLong : PySem.W.findIn K (.ref XTooLong) "limit" = some none)
    (iCTooLong : PySem.W.findIn K (.ref XTooLong) "__init__" = some (some (.ref fITooLong)))
    (tITooLong : PySem.W.typeIn K (.ref fITooLong) = some (.type "function"))
    (flTooLong : K.lookup fITooLong = some ⟨xocTooLong, xodTooLong, .func (PySem.W.fnX "__init__" "TooLong.__init__" (defArgs (mtop 16 0)) (defBody (mtop 16 0)) (defScope (mtop 16 0)) [("__class__", ccTooLong)] .none xkVTooLong xdcTooLong xpmTooLong xanTooLong (.ref cdaTooLong) xctTooLong), xslTooLong⟩)
    (cdTooLong : PySem.W.codeIn K (.ref cdaTooLong) "TooLong.__init__" = true)
    (coTooLong : K.lookup cdaTooLong = some ⟨cclTooLong, cddTooLong, .fields vsTooLong, ccsTooLong⟩)
    (v2TooLong : vsTooLong[2]? = some (.str fileTooLong tfTooLong))
    (feTooLong : ((l.prog.main.file : Str) == fileTooLong) = true)
    (ceTooLong : K.lookup ccTooLong = some ⟨clTooLong, cldTooLong, .cell (some (.ref XTooLong)), cslTooLong⟩)
    (mrTooLong : PySem.W.mroIn K XTooLong (.ref XTooLong) = some true)
    (smTooLong : PySem.W.ks_superIn K XTooLong XTooLong "__init__" = some (some (.builtin "ValueError.__init__")))
    (lcBadPlan : K.lookup XBadPlan = some (excClassObj nmBadPlan qnBadPlan XBadPlan NBadPlan bsBadPlan bmBadPlan true snBadPlan suBadPlan abBadPlan colBadPlan ddBadPlan kABadPlan kBBadPlan kCBadPlan kDBadPlan kEBadPlan "ValueError.__new__"))
    (rvBadPlan : PySem.HandSPX.refsVE bmBadPlan = true)
    (saBadPlan : PySem.W.findIn K (.ref XBadPlan) "__setattr__" = some (some (.builtin "object.__setattr__")))
    (kpBadPlan : PySem.W.keepIn K (.ref XBadPlan) = true)
    (fnBadPlan : PySem.W.findIn K (.ref XBadPlan) "at" = some none)
    (iCBadPlan : PySem.W.findIn K (.ref XBadPlan) "__init__" = some (some (.ref fIBadPlan)))
    (tIBadPlan : PySem.W.typeIn K (.ref fIBadPlan) = some (.type "function"))
    (flBadPlan : K.lookup fIBadPlan = some ⟨xocBadPlan, xodBadPlan, .func (PySem.W.fnX "__init__" "BadPlan.__init__" (defArgs (mtop 13 0)) (defBody (mtop 13 0)) (defScope (mtop 13 0)) [("__class__", ccBadPlan)] .none xkVBadPlan xdcBadPlan xpmBadPlan xanBadPlan (.ref cdaBadPlan) xctBadPlan), xslBadPlan⟩)
    (cdBadPlan : PySem.W.codeIn K (.ref cdaBadPlan) "BadPlan.__init__" = true)
    (coBadPlan : K.lookup cdaBadPlan = some ⟨cclBadPlan, cddBadPlan, .fields vsBadPlan, ccsBadPlan⟩)
    (v2BadPlan : vsBadPlan[2]? = some (.str fileBadPlan tfBadPlan))
    (feBadPlan : ((l.prog.main.file : Str) == fileBadPlan) = true)
    (ceBadPlan : K.lookup ccBadPlan = some ⟨clBadPlan, cldBadPlan, .cell (some (.ref XBadPlan)), cslBadPlan⟩)
    (mrBadPlan : PySem.W.mroIn K XBadPlan (.ref XBadPlan) = some true)
    (smBadPlan : PySem.W.ks_superIn K XBadPlan XBadPlan "__init__" = some (some (.builtin "ValueError.__init__")))
    (a0 : PySem.W.nsIn K mainGlobals "_law_mixed" = some (some (.ref f0)))
    (l0 : K.lookup f0 = some ⟨oc0, od0, .func (PySem.W.fnOf "_law_mixed" "_law_mixed" (defArgs (top 39)) (defBody (top 39)) (defScope (top 39)) .none kV0 dc0 pm0 an0 cd0 ct0), sl0⟩)
    (c0 : PySem.W.codeIn K cd0 "_law_mixed" = true)
    (k0 : PySem.W.keepIn K (.ref f0) = true)
    (a1 : PySem.W.nsIn K mainGlobals "_law_draws" = some (some (.ref f1)))
    (l1 : K.lookup f1 = some ⟨oc1, od1, .func (PySem.W.fnOf "_law_draws" "_law_draws" (defArgs (top 40)) (defBody (top 40)) (defScope (top 40)) .none kV1 dc1 pm1 an1 cd1 ct1), sl1⟩)
    (c1 : PySem.W.codeIn K cd1 "_law_draws" = true)
    (k1 : PySem.W.keepIn K (.ref f1) = true)
    (a2 : PySem.W.nsIn K mainGlobals "_law_opened" = some (some (.ref f2)))
    (l2 : K.lookup f2 = some ⟨oc2, od2, .func (PySem.W.fnOf "_law_opened" "_law_opened" (defArgs (top 41)) (defBody (top 41)) (defScope (top 41)) .none kV2 dc2 pm2 an2 cd2 ct2), sl2⟩)
    (c2 : PySem.W.codeIn K cd2 "_law_opened" = true)
    (k2 : PySem.W.keepIn K (.ref f2) = true)
    (a3 : PySem.W.nsIn K mainGlobals "_law_take" = some (some (.ref f3)))
    (l3 : K.lookup f3 = some ⟨oc3, od3, .func (PySem.W.fnOf "_law_take" "_law_take" (defArgs (top 42)) (defBody (top 42)) (defScope (top 42)) .none kV3 dc3 pm3 an3 cd3 ct3), sl3⟩)
    (c3 : PySem.W.codeIn K cd3 "_law_take" = true)
    (k3 : PySem.W.keepIn K (.ref f3) = true)
    (a4 : PySem.W.nsIn K mainGlobals "_law_between" = some (some (.ref f4)))
    (l4 : K.lookup f4 = some ⟨oc4, od4, .func (PySem.W.fnOf "_law_between" "_law_between" (defArgs (top 43)) (defBody (top 43)) (defScope (top 43)) .none kV4 dc4 pm4 an4 cd4 ct4), sl4⟩)
    (c4 : PySem.W.codeIn K cd4 "_law_between" = true)
    (k4 : PySem.W.keepIn K (.ref f4) = true)
    (a5 : PySem.W.nsIn K mainGlobals "_law_same" = some (some (.ref f5)))
    (l5 : K.lookup f5 = some ⟨oc5, od5, .func (PySem.W.fnOf "_law_same" "_law_same" (defArgs (top 59)) (defBody (top 59)) (defScope (top 59)) .none kV5 dc5 pm5 an5 cd5 ct5), sl5⟩)
    (c5 : PySem.W.codeIn K cd5 "_law_same" = true)
    (k5 : PySem.W.keepIn K (.ref f5) = true)
    (a6 : PySem.W.nsIn K mainGlobals "next_goods" = some (some (.ref f6)))
    (l6 : K.lookup f6 = some ⟨oc6, od6, .func (PySem.W.fnOf "next_goods" "next_goods" (defArgs (top 24)) (defBody (top 24)) (defScope (top 24)) .none kV6 dc6 pm6 an6 cd6 ct6), sl6⟩)
    (c6 : PySem.W.codeIn K cd6 "next_goods" = true)
    (k6 : PySem.W.keepIn K (.ref f6) = true)
    (a7 : PySem.W.nsIn K mainGlobals "good_row" = some (some (.ref f7)))
    (l7 : K.lookup f7 = some ⟨oc7, od7, .func (PySem.W.fnOf "good_row" "good_row" (defArgs (top 25)) (defBody (top 25)) (defScope (top 25)) .none kV7 dc7 pm7 an7 cd7 ct7), sl7⟩)
    (c7 : PySem.W.codeIn K cd7 "good_row" = true)
    (k7 : PySem.W.keepIn K (.ref f7) = true)
    (a8 : PySem.W.nsIn K mainGlobals "row_gaps" = some (some (.ref f8)))
    (l8 : K.lookup f8 = some ⟨oc8, od8, .func (PySem.W.fnOf "row_gaps" "row_gaps" (defArgs (top 26)) (defBody (top 26)) (defScope (top 26)) .none kV8 dc8 pm8 an8 cd8 ct8), sl8⟩)
    (c8 : PySem.W.codeIn K cd8 "row_gaps" = true)
    (k8 : PySem.W.keepIn K (.ref f8) = true)
    (a9 : PySem.W.nsIn K mainGlobals "row_at" = some (some (.ref f9)))
    (l9 : K.lookup f9 = some ⟨oc9, od9, .func (PySem.W.fnOf "row_at" "row_at" (defArgs (top 27)) (defBody (top 27)) (defScope (top 27)) .none kV9 dc9 pm9 an9 cd9 ct9), sl9⟩)
    (c9 : PySem.W.codeIn K cd9 "row_at" = true)
    (k9 : PySem.W.keepIn K (.ref f9) = true)
    (a10 : PySem.W.findIn K (.ref CP) "__init__" = some (some (.ref f10)))
    (i10 : PySem.W.isFn K (.ref f10) = true)
    (l10 : K.lookup f10 = some ⟨oc10, od10, .func (PySem.W.fnOf "__init__" "Plan.__init__" (defArgs (mtop 30 0)) (defBody (mtop 30 0)) (defScope (mtop 30 0)) .none kV10 dc10 pm10 an10 cd10 ct10), sl10⟩)
    (c10 : PySem.W.codeIn K cd10 "Plan.__init__" = true)
    (k10 : PySem.W.keepIn K (.ref f10) = true)
    (a11 : PySem.W.findIn K (.ref CP) "longest" = some (some (.ref p11)))
    (g11 : PySem.W.specialIn K (.ref p11) "__get__" = some (some (.builtin "property.__get__")))
    (t11 : PySem.W.takesIn K (.ref p11) = some true)
    (e11 : PySem.W.recIn K p11 "property" = some (.ref f11 :: r11))
    (l11 : K.lookup f11 = some ⟨oc11, od11, .func (PySem.W.fnOf "longest" "Plan.longest" (defArgs (mtop 30 1)) (defBody (mtop 30 1)) (defScope (mtop 30 1)) .none kV11 dc11 pm11 an11 cd11 ct11), sl11⟩)
    (c11 : PySem.W.codeIn K cd11 "Plan.longest" = true)
    (k11 : PySem.W.keepIn K (.ref f11) = true)
    (a12 : PySem.W.findIn K (.ref CP) "rows" = some (some (.ref f12)))
    (i12 : PySem.W.isFn K (.ref f12) = true)
    (l12 : K.lookup f12 = some ⟨oc12, od12, .func (PySem.W.fnOf "rows" "Plan.rows" (defArgs (mtop 30 4)) (defBody (mtop 30 4)) (defScope (mtop 30 4)) .none kV12 dc12 pm12 an12 cd12 ct12), sl12⟩)
    (c12 : PySem.W.codeIn K cd12 "Plan.rows" = true)
    (k12 : PySem.W.keepIn K (.ref f12) = true)
    (a13 : PySem.W.findIn K (.ref CP) "gaps" = some (some (.ref p13)))
    (g13 : PySem.W.specialIn K (.ref p13) "__get__" = some (some (.builtin "property.__get__")))
    (t13 : PySem.W.takesIn K (.ref p13) = some true)
    (e13 : PySem.W.recIn K p13 "property" = some (.ref f13 :: r13))
    (l13 : K.lookup f13 = some ⟨oc13, od13, .func (PySem.W.fnOf "gaps" "Plan.gaps" (defArgs (mtop 30 2)) (defBody (mtop 30 2)) (defScope (mtop 30 2)) .none kV13 dc13 pm13 an13 cd13 ct13), sl13⟩)
    (c13 : PySem.W.codeIn K cd13 "Plan.gaps" = true)
    (k13 : PySem.W.keepIn K (.ref f13) = true)
    (a14 : PySem.W.findIn K (.ref CP) "go_places" = some (some (.ref f14)))
    (i14 : PySem.W.isFn K (.ref f14) = true)
    (l14 : K.lookup f14 = some ⟨oc14, od14, .func (PySem.W.fnOf "go_places" "Plan.go_places" (defArgs (mtop 30 8)) (defBody (mtop 30 8)) (defScope (mtop 30 8)) .none kV14 dc14 pm14 an14 cd14 ct14), sl14⟩)
    (c14 : PySem.W.codeIn K cd14 "Plan.go_places" = true)
    (k14 : PySem.W.keepIn K (.ref f14) = true)
    (a15 : PySem.W.findIn K (.ref CP) "__contains__" = some (some (.ref f15)))
    (i15 : PySem.W.isFn K (.ref f15) = true)
    (l15 : K.lookup f15 = some ⟨oc15, od15, .func (PySem.W.fnOf "__contains__" "Plan.__contains__" (defArgs (mtop 30 13)) (defBody (mtop 30 13)) (defScope (mtop 30 13)) .none kV15 dc15 pm15 an15 cd15 ct15), sl15⟩)
    (c15 : PySem.W.codeIn K cd15 "Plan.__contains__" = true)
    (k15 : PySem.W.keepIn K (.ref f15) = true)
    (a16 : PySem.W.findIn K (.ref CP) "__eq__" = some (some (.ref f16)))
    (i16 : PySem.W.isFn K (.ref f16) = true)
    (l16 : K.lookup f16 = some ⟨oc16, od16, .func (PySem.W.fnOf "__eq__" "Plan.__eq__" (defArgs (mtop 30 15)) (defBody (mtop 30 15)) (defScope (mtop 30 15)) .none kV16 dc16 pm16 an16 cd16 ct16), sl16⟩)
    (c16 : PySem.W.codeIn K cd16 "Plan.__eq__" = true)
    (k16 : PySem.W.keepIn K (.ref f16) = true)
    (a17 : PySem.W.nsIn K mainGlobals "_law_some" = some (some (.ref f17)))
    (l17 : K.lookup f17 = some ⟨oc17, od17, .func (PySem.W.fnOf "_law_some" "_law_some" (defArgs (top 45)) (defBody (top 45)) (defScope (top 45)) .none kV17 dc17 pm17 an17 cd17 ct17), sl17⟩)
    (c17 : PySem.W.codeIn K cd17 "_law_some" = true)
    (k17 : PySem.W.keepIn K (.ref f17) = true)
    (a18 : PySem.W.nsIn K mainGlobals "_law_next_goods" = some (some (.ref f18)))
    (l18 : K.lookup f18 = some ⟨oc18, od18, .func (PySem.W.fnOf "_law_next_goods" "_law_next_goods" (defArgs (top 46)) (defBody (top 46)) (defScope (top 46)) .none kV18 dc18 pm18 an18 cd18 ct18), sl18⟩)
    (c18 : PySem.W.codeIn K cd18 "_law_next_goods" = true)
    (k18 : PySem.W.keepIn K (.ref f18) = true)
    (a19 : PySem.W.nsIn K mainGlobals "_law_fixed_rows" = some (some (.ref f19)))
    (l19 : K.lookup f19 = some ⟨oc19, od19, .func (PySem.W.fnOf "_law_fixed_rows" "_law_fixed_rows" (defArgs (top 47)) (defBody (top 47)) (defScope (top 47)) .none kV19 dc19 pm19 an19 cd19 ct19), sl19⟩)
    (c19 : PySem.W.codeIn K cd19 "_law_fixed_rows" = true)
    (k19 : PySem.W.keepIn K (.ref f19) = true)
    (a20 : PySem.W.nsIn K mainGlobals "_law_until_rows" = some (some (.ref f20)))
    (l20 : K.lookup f20 = some ⟨oc20, od20, .func (PySem.W.fnOf "_law_until_rows" "_law_until_rows" (defArgs (top 48)) (defBody (top 48)) (defScope (top 48)) .none kV20 dc20 pm20 an20 cd20 ct20), sl20⟩)
    (c20 : PySem.W.codeIn K cd20 "_law_until_rows" = true)
    (k20 : PySem.W.keepIn K (.ref f20) = true)
    (a21 : PySem.W.nsIn K mainGlobals "_law_band_rows" = some (some (.ref f21)))
    (l21 : K.lookup f21 = some ⟨oc21, od21, .func (PySem.W.fnOf "_law_band_rows" "_law_band_rows" (defArgs (top 49)) (defBody (top 49)) (defScope (top 49)) .none kV21 dc21 pm21 an21 cd21 ct21), sl21⟩)
    (c21 : PySem.W.codeIn K cd21 "_law_band_rows" = true)
    (k21 : PySem.W.keepIn K (.ref f21) = true)
    (a22 : PySem.W.nsIn K mainGlobals "_law_gapless_rows" = some (some (.ref f22)))
    (l22 : K.lookup f22 = some ⟨oc22, od22, .func (PySem.W.fnOf "_law_gapless_rows" "_law_gapless_rows" (defArgs (top 50)) (defBody (top 50)) (defScope (top 50)) .none kV22 dc22 pm22 an22 cd22 ct22), sl22⟩)
    (c22 : PySem.W.codeIn K cd22 "_law_gapless_rows" = true)
    (k22 : PySem.W.keepIn K (.ref f22) = true)
    (a23 : PySem.W.nsIn K mainGlobals "_law_any_rows" = some (some (.ref f23)))
    (l23 : K.lookup f23 = some ⟨oc23, od23, .func (PySem.W.fnOf "_law_any_rows" "_law_any_rows" (defArgs (top 51)) (defBody (top 51)) (defScope (top 51)) .none kV23 dc23 pm23 an23 cd23 ct23), sl23⟩)
    (c23 : PySem.W.codeIn K cd23 "_law_any_rows" = true)
    (k23 : PySem.W.keepIn K (.ref f23) = true)
    (a24 : PySem.W.nsIn K mainGlobals "_law_gapped_rows" = some (some (.ref f24)))
    (l24 : K.lookup f24 = some ⟨oc24, od24, .func (PySem.W.fnOf "_law_gapped_rows" "_law_gapped_rows" (defArgs (top 52)) (defBody (top 52)) (defScope (top 52)) .none kV24 dc24 pm24 an24 cd24 ct24), sl24⟩)
    (c24 : PySem.W.codeIn K cd24 "_law_gapped_rows" = true)
    (k24 : PySem.W.keepIn K (.ref f24) = true)
    (a25 : PySem.W.nsIn K mainGlobals "_law_gapless_plan" = some (some (.ref f25)))
    (l25 : K.lookup f25 = some ⟨oc25, od25, .func (PySem.W.fnOf "_law_gapless_plan" "_law_gapless_plan" (defArgs (top 53)) (defBody (top 53)) (defScope (top 53)) .none kV25 dc25 pm25 an25 cd25 ct25), sl25⟩)
    (c25 : PySem.W.codeIn K cd25 "_law_gapless_plan" = true)
    (k25 : PySem.W.keepIn K (.ref f25) = true)
    (a26 : PySem.W.nsIn K mainGlobals "_law_rows" = some (some (.ref f26)))
    (l26 : K.lookup f26 = some ⟨oc26, od26, .func (PySem.W.fnOf "_law_rows" "_law_rows" (defArgs (top 54)) (defBody (top 54)) (defScope (top 54)) .none kV26 dc26 pm26 an26 cd26 ct26), sl26⟩)
    (c26 : PySem.W.codeIn K cd26 "_law_rows" = true)
    (k26 : PySem.W.keepIn K (.ref f26) = true)
    (a27 : PySem.W.nsIn K mainGlobals "_law_copy" = some (some (.ref f27)))
    (l27 : K.lookup f27 = some ⟨oc27, od27, .func (PySem.W.fnOf "_law_copy" "_law_copy" (defArgs (top 58)) (defBody (top 58)) (defScope (top 58)) .none kV27 dc27 pm27 an27 cd27 ct27), sl27⟩)
    (c27 : PySem.W.codeIn K cd27 "_law_copy" = true)
    (k27 : PySem.W.keepIn K (.ref f27) = true)
    (a28 : PySem.W.nsIn K mainGlobals "of_places" = some (some (.ref f28)))
    (l28 : K.lookup f28 = some ⟨oc28, od28, .func (PySem.W.fnOf "of_places" "of_places" (defArgs (top 31)) (defBody (top 31)) (defScope (top 31)) .none kV28 dc28 pm28 an28 cd28 ct28), sl28⟩)
    (c28 : PySem.W.codeIn K cd28 "of_places" = true)
    (k28 : PySem.W.keepIn K (.ref f28) = true)
    (a29 : PySem.W.findIn K (.ref CP) "stops" = some (some (.ref f29)))
    (i29 : PySem.W.isFn K (.ref f29) = true)
    (l29 : K.lookup f29 = some ⟨oc29, od29, .func (PySem.W.fnOf "stops" "Plan.stops" (defArgs (mtop 30 7)) (defBody (mtop 30 7)) (defScope (mtop 30 7)) .none kV29 dc29 pm29 an29 cd29 ct29), sl29⟩)
    (c29 : PySem.W.codeIn K cd29 "Plan.stops" = true)
    (k29 : PySem.W.keepIn K (.ref f29) = true)
    (a30 : PySem.W.nsIn K mainGlobals "_law_pick" = some (some (.ref f30)))
    (l30 : K.lookup f30 = some ⟨oc30, od30, .func (PySem.W.fnOf "_law_pick" "_law_pick" (defArgs (top 44)) (defBody (top 44)) (defScope (top 44)) .none kV30 dc30 pm30 an30 cd30 ct30), sl30⟩)
    (c30 : PySem.W.codeIn K cd30 "_law_pick" = true)
    (k30 : PySem.W.keepIn K (.ref f30) = true)
    (a31 : PySem.W.nsIn K mainGlobals "_law_go" = some (some (.ref f31)))
    (l31 : K.lookup f31 = some ⟨oc31, od31, .func (PySem.W.fnOf "_law_go" "_law_go" (defArgs (top 55)) (defBody (top 55)) (defScope (top 55)) .none kV31 dc31 pm31 an31 cd31 ct31), sl31⟩)
    (c31 : PySem.W.codeIn K cd31 "_law_go" = true)
    (k31 : PySem.W.keepIn K (.ref f31) = true)
    (a32 : PySem.W.nsIn K mainGlobals "_law_in_order" = some (some (.ref f32)))
    (l32 : K.lookup f32 = some ⟨oc32, od32, .func (PySem.W.fnOf "_law_in_order" "_law_in_order" (defArgs (top 56)) (defBody (top 56)) (defScope (top 56)) .none kV32 dc32 pm32 an32 (.ref cc32) ct32), sl32⟩)
    (c32 : PySem.W.codeIn K (.ref cc32) "_law_in_order" = true)
    (mP32 : PP32 ∈ TT)
    (tI32 : PySem.W.codeHdIn K cc32 PP32 = true)
    (nP32 : K.lookup PP32 = none)
    (k32 : PySem.W.keepIn K (.ref f32) = true)
    (a33 : PySem.W.nsIn K mainGlobals "_law_gaps" = some (some (.ref f33)))
    (l33 : K.lookup f33 = some ⟨oc33, od33, .func (PySem.W.fnOf "_law_gaps" "_law_gaps" (defArgs (top 57)) (defBody (top 57)) (defScope (top 57)) .none kV33 dc33 pm33 an33 cd33 ct33), sl33⟩)
    (c33 : PySem.W.codeIn K cd33 "_law_gaps" = true)
    (k33 : PySem.W.keepIn K (.ref f33) = true)
    (a34 : PySem.W.findIn K (.ref CP) "has_stop" = some (some (.ref f34)))
    (i34 : PySem.W.isFn K (.ref f34) = true)
    (l34 : K.lookup f34 = some ⟨oc34, od34, .func (PySem.W.fnOf "has_stop" "Plan.has_stop" (defArgs (mtop 30 9)) (defBody (mtop 30 9)) (defScope (mtop 30 9)) .none kV34 dc34 pm34 an34 cd34 ct34), sl34⟩)
    (c34 : PySem.W.codeIn K cd34 "Plan.has_stop" = true)
    (k34 : PySem.W.keepIn K (.ref f34) = true)
    (a35 : PySem.W.nsIn K mainGlobals "open_at" = some (some (.ref f35)))
    (l35 : K.lookup f35 = some ⟨oc35, od35, .func (PySem.W.fnOf "open_at" "open_at" (defArgs (top 33)) (defBody (top 33)) (defScope (top 33)) .none kV35 dc35 pm35 an35 cd35 ct35), sl35⟩)
    (c35 : PySem.W.codeIn K cd35 "open_at" = true)
    (k35 : PySem.W.keepIn K (.ref f35) = true)
    (a36 : PySem.W.nsIn K mainGlobals "may_close" = some (some (.ref f36)))
    (l36 : K.lookup f36 = some ⟨oc36, od36, .func (PySem.W.fnOf "may_close" "may_close" (defArgs (top 34)) (defBody (top 34)) (defScope (top 34)) .none kV36 dc36 pm36 an36 cd36 ct36), sl36⟩)
    (c36 : PySem.W.codeIn K cd36 "may_close" = true)
    (k36 : PySem.W.keepIn K (.ref f36) = true)
    (a37 : PySem.W.nsIn K mainGlobals "close_at" = some (some (.ref f37)))
    (l37 : K.lookup f37 = some ⟨oc37, od37, .func (PySem.W.fnOf "close_at" "close_at" (defArgs (top 35)) (defBody (top 35)) (defScope (top 35)) .none kV37 dc37 pm37 an37 cd37 ct37), sl37⟩)
    (c37 : PySem.W.codeIn K cd37 "close_at" = true)
    (k37 : PySem.W.keepIn K (.ref f37) = true)
    (a38 : PySem.W.nsIn K mainGlobals "grow" = some (some (.ref f38)))
    (l38 : K.lookup f38 = some ⟨oc38, od38, .func (PySem.W.fnOf "grow" "grow" (defArgs (top 36)) (defBody (top 36)) (defScope (top 36)) .none kV38 dc38 pm38 an38 cd38 ct38), sl38⟩)
    (c38 : PySem.W.codeIn K cd38 "grow" = true)
    (k38 : PySem.W.keepIn K (.ref f38) = true)
    (a39 : PySem.W.nsIn K mainGlobals "openings" = some (some (.ref f39)))
    (l39 : K.lookup f39 = some ⟨oc39, od39, .func (PySem.W.fnOf "openings" "openings" (defArgs (top 37)) (defBody (top 37)) (defScope (top 37)) .none kV39 dc39 pm39 an39 cd39 ct39), sl39⟩)
    (c39 : PySem.W.codeIn K cd39 "openings" = true)
    (k39 : PySem.W.keepIn K (.ref f39) = true)
    (a40 : PySem.W.nsIn K mainGlobals "_law_next" = some (some (.ref f40)))
    (l40 : K.lookup f40 = some ⟨oc40, od40, .func (PySem.W.fnOf "_law_next" "_law_next" (defArgs (top 63)) (defBody (top 63)) (defScope (top 63)) .none kV40 dc40 pm40 an40 cd40 ct40), sl40⟩)
    (c40 : PySem.W.codeIn K cd40 "_law_next" = true)
    (k40 : PySem.W.keepIn K (.ref f40) = true)
    (a41 : PySem.W.nsIn K mainGlobals "_law_steps" = some (some (.ref f41)))
    (l41 : K.lookup f41 = some ⟨oc41, od41, .func (PySem.W.fnOf "_law_steps" "_law_steps" (defArgs (top 64)) (defBody (top 64)) (defScope (top 64)) .none kV41 dc41 pm41 an41 cd41 ct41), sl41⟩)
    (c41 : PySem.W.codeIn K cd41 "_law_steps" = true)
    (k41 : PySem.W.keepIn K (.ref f41) = true)
    (a42 : PySem.W.nsIn K mainGlobals "_law_grouped" = some (some (.ref f42)))
    (l42 : K.lookup f42 = some ⟨oc42, od42, .func (PySem.W.fnOf "_law_grouped" "_law_grouped" (defArgs (top 62)) (defBody (top 62)) (defScope (top 62)) .none kV42 dc42 pm42 an42 cd42 ct42), sl42⟩)
    (c42 : PySem.W.codeIn K cd42 "_law_grouped" = true)
    (k42 : PySem.W.keepIn K (.ref f42) = true)
    (a43 : PySem.W.nsIn K mainGlobals "_law_ask" = some (some (.ref f43)))
    (l43 : K.lookup f43 = some ⟨oc43, od43, .func (PySem.W.fnOf "_law_ask" "_law_ask" (defArgs (top 66)) (defBody (top 66)) (defScope (top 66)) .none kV43 dc43 pm43 an43 cd43 ct43), sl43⟩)
    (c43 : PySem.W.codeIn K cd43 "_law_ask" = true)
    (k43 : PySem.W.keepIn K (.ref f43) = true)
    (a44 : PySem.W.nsIn K mainGlobals "_law_due" = some (some (.ref f44)))
    (l44 : K.lookup f44 = some ⟨oc44, od44, .func (PySem.W.fnOf "_law_due" "_law_due" (defArgs (top 65)) (defBody (top 65)) (defScope (top 65)) .none kV44 dc44 pm44 an44 cd44 ct44), sl44⟩)
    (c44 : PySem.W.codeIn K cd44 "_law_due" = true)
    (k44 : PySem.W.keepIn K (.ref f44) = true)
    (a45 : PySem.W.nsIn K mainGlobals "_law_right" = some (some (.ref f45)))
    (l45 : K.lookup f45 = some ⟨oc45, od45, .func (PySem.W.fnOf "_law_right" "_law_right" (defArgs (top 67)) (defBody (top 67)) (defScope (top 67)) .none kV45 dc45 pm45 an45 cd45 ct45), sl45⟩)
    (c45 : PySem.W.codeIn K cd45 "_law_right" = true)
    (k45 : PySem.W.keepIn K (.ref f45) = true)
    (a46 : PySem.W.nsIn K mainGlobals "_law_place" = some (some (.ref f46)))
    (l46 : K.lookup f46 = some ⟨oc46, od46, .func (PySem.W.fnOf "_law_place" "_law_place" (defArgs (top 60)) (defBody (top 60)) (defScope (top 60)) .none kV46 dc46 pm46 an46 cd46 ct46), sl46⟩)
    (c46 : PySem.W.codeIn K cd46 "_law_place" = true)
    (k46 : PySem.W.keepIn K (.ref f46) = true)
    (a47 : PySem.W.nsIn K mainGlobals "_law_no_stop" = some (some (.ref f47)))
    (l47 : K.lookup f47 = some ⟨oc47, od47, .func (PySem.W.fnOf "_law_no_stop" "_law_no_stop" (defArgs (top 61)) (defBody (top 61)) (defScope (top 61)) .none kV47 dc47 pm47 an47 cd47 ct47), sl47⟩)
    (c47 : PySem.W.codeIn K cd47 "_law_no_stop" = true)
    (k47 : PySem.W.keepIn K (.ref f47) = true)
    (a48 : PySem.W.nsIn K mainGlobals "law" = some (some (.ref f48)))
    (l48 : K.lookup f48 = some ⟨oc48, od48, .func (PySem.W.fnOf "law" "law" (defArgs (top 68)) (defBody (top 68)) (defScope (top 68)) .none kV48 dc48 pm48 an48 cd48 ct48), sl48⟩)
    (c48 : PySem.W.codeIn K cd48 "law" = true)
    (k48 : PySem.W.keepIn K (.ref f48) = true)
    (z_int : PySem.W.nsIn K mainGlobals "int" = some none)
    (z_range : PySem.W.nsIn K mainGlobals "range" = some none)
    (z_len : PySem.W.nsIn K mainGlobals "len" = some none)
    (z_list : PySem.W.nsIn K mainGlobals "list" = some none)
    (z_isinstance : PySem.W.nsIn K mainGlobals "isinstance" = some none)
    (z_bool : PySem.W.nsIn K mainGlobals "bool" = some none)
    (z_str : PySem.W.nsIn K mainGlobals "str" = some none)
    (z_dict : PySem.W.nsIn K mainGlobals "dict" = some none)
    (z_tuple : PySem.W.nsIn K mainGlobals "tuple" = some none)
    (z_enumerate : PySem.W.nsIn K mainGlobals "enumerate" = some none)
    (z_zip : PySem.W.nsIn K mainGlobals "zip" = some none)
    (z_max : PySem.W.nsIn K mainGlobals "max" = some none)
    (z_min : PySem.W.nsIn K mainGlobals "min" = some none)
    (z_sorted : PySem.W.nsIn K mainGlobals "sorted" = some none)
    (z_set : PySem.W.nsIn K mainGlobals "set" = some none)
    (z_sum : PySem.W.nsIn K mainGlobals "sum" = some none)
    (z_ValueError : PySem.W.nsIn K mainGlobals "ValueError" = some none)
    : ∃ cs : List (Str × Addr × Addr), (∀ y ∈ cs, PySem.W.codeHdIn K y.2.1 y.2.2 = true ∧ y.2.2 ∈ TT ∧ K.lookup y.2.2 = none) ∧ ∃ fd : FuncData, (∀ (s : Shared) (v : Value), BindsTo s fd ⟨[v], []⟩ [("script", v)]) ∧ ∀ base : Heap, K.In base → base.Ns mainGlobals mg → (∀ y ∈ cs, LamX.TabB base mg y.2.1 y.2.2) → FnOk l.prog w K mg base (L2N.CX l.prog w) 10 fa fd ["script"] (spC (tabsI := ⟨cs.map fun y => (y.2.2, lamQ y.1)⟩) K cLaw) := by
  have e := hfa.symm.trans (PySem.W.mg_of X G a48)
  cases e
  have FL : FunD K "law" "law" (defArgs (top 68)) (defBody (top 68)) (defScope (top 68)) [] [] fa _ := ⟨⟨oc48, od48, .none, kV48, dc48, pm48, an48, cd48, ct48, sl48, rfl, l48, c48, .inl ⟨rfl, rfl⟩, .inl rfl⟩, k48⟩
  refine ⟨[("_law_in_order", cc32, PP32)], fun y hy => by rw [List.mem_singleton.mp hy]; exact ⟨tI32, mP32, nP32⟩, _, fun s v => FL.bindsA (ps := ["script"]) (fun _ _ _ _ _ _ us hl => match us, hl with | [_], _ => rfl) s [v] rfl, fun base _ _ hTB => ?_⟩
  letI tabsI : TabsT := ⟨([("_law_in_order", cc32, PP32)] : List (Str × Addr × Addr)).map fun y => (y.2.2, lamQ y.1)⟩
  let U : Env1 := ⟨l.prog, w, K, mg, base⟩
  have cl0 : Cls U.K CP := ⟨Qpg, Qhd, Qpo, Qsa⟩
  have hC : PlanC U CP := ⟨cl0, PySem.W.mg_of X G aC, Qn1, Qn2, ⟨cl0, Qhc, Qhg, Qht, Qhm, if_pos (beq_iff_eq.mpr rfl)⟩, Qne, Qob, Qsf, ⟨tML, PySem.W.mg_of X G aML⟩, Qty⟩
  let XA : Str → Addr := fun z => ((([(("TrialError" : Str), XTrialError), (("BadPlan" : Str), XBadPlan), (("TooLong" : Str), XTooLong), (("TooMany" : Str), XTooMany), (("BadText" : Str), XBadText), (("BadEnds" : Str), XBadEnds), (("BadTelling" : Str), XBadTelling), (("BadVerdict" : Str), XBadVerdict), (("BadCourse" : Str), XBadCourse), (("NotStop" : Str), XNotStop), (("BadLot" : Str), XBadLot), (("BadShare" : Str), XBadShare), (("BadPoly" : Str), XBadPoly), (("BadFraction" : Str), XBadFraction), (("BadDesign" : Str), XBadDesign), (("HasGap" : Str), XHasGap), (("Untold" : Str), XUntold), (("TooDeep" : Str), XTooDeep), (("BadPage" : Str), XBadPage), (("Refused" : Str), XRefused)] : List (Str × Addr)).lookup z).getD 0)
  have ET_TooLong : ExT (defArgs (mtop 16 0)) (defBody (mtop 16 0)) (defScope (mtop 16 0)) "limit" "limit" := ⟨⟨_, _, _, _, _, _, _, _, _, _, rfl, fun _ => rfl, fun _ => rfl, fun _ => rfl, fun _ => ⟨_, rfl⟩, fun prog w env L m u e1 e2 e3 e4 => told_text2 (by decide +kernel) e1 (by rw [e2]; rfl) (by unfold Env.kindOf; rw [e2]; decide +kernel) e3 (by decide +kernel) e4⟩, fun _ _ _ _ _ _ _ _ _ _ _ _ _ => rfl, ⟨⟨_, rfl, rfl⟩, by decide +kernel, by decide +kernel, by decide +kernel, by decide +kernel, by decide +kernel, rfl, rfl, rfl, by decide +kernel, by decide +kernel⟩⟩
  have EI_TooLong : ExI U.P U.K U.mg XTooLong XTooLong fITooLong ccTooLong cdaTooLong "TooLong.__init__" "__init__" (defArgs (mtop 16 0)) (defBody (mtop 16 0)) (defScope (mtop 16 0)) "limit" "limit" := ⟨⟨_, _, _, _, _, _, _, _, flTooLong⟩, cdTooLong, ⟨_, _, _, _, _, _, coTooLong, v2TooLong, feTooLong⟩, ⟨_, _, _, ceTooLong⟩, cls_some hdTooLong, mrTooLong, PySem.W.mg_none_of X G nsuper, tops, ⟨⟨_, _, _, _, _, _, _, _, _, _, _, _, _, _, _, lcTooLong, rvTooLong⟩, saTooLong, beTooLong, tyTooLong, kpTooLong⟩, smTooLong, hvTooLong, opq, fnTooLong, iCTooLong, tITooLong⟩
  have ET_BadPlan : ExT (defArgs (mtop 13 0)) (defBody (mtop 13 0)) (defScope (mtop 13 0)) "at" "at" := ⟨⟨_, _, _, _, _, _, _, _, _, _, rfl, fun _ => rfl, fun _ => rfl, fun _ => rfl, fun _ => ⟨_, rfl⟩, fun prog w env L m u e1 e2 e3 e4 => told_text2 (by decide +kernel) e1 (by rw [e2]; rfl) (by unfold Env.kindOf; rw [e2]; decide +kernel) e3 (by decide +kernel) e4⟩, fun _ _ _ _ _ _ _ _ _ _ _ _ _ => rfl, ⟨⟨_, rfl, rfl⟩, by decide +kernel, by decide +kernel, by decide +kernel, by decide +kernel, by decide +kernel, rfl, rfl, rfl, by decide +kernel, by decide +kernel⟩⟩
  have EI_BadPlan : ExI U.P U.K U.mg XBadPlan XBadPlan fIBadPlan ccBadPlan cdaBadPlan "BadPlan.__init__" "__init__" (defArgs (mtop 13 0)) (defBody (mtop 13 0)) (defScope (mtop 13 0)) "at" "at" := ⟨⟨_, _, _, _, _, _, _, _, flBadPlan⟩, cdBadPlan, ⟨_, _, _, _, _, _, coBadPlan, v2BadPlan, feBadPlan⟩, ⟨_, _, _, ceBadPlan⟩, cls_some hdBadPlan, mrBadPlan, PySem.W.mg_none_of X G nsuper, tops, ⟨⟨_, _, _, _, _, _, _, _, _, _, _, _, _, _, _, lcBadPlan, rvBadPlan⟩, saBadPlan, beBadPlan, tyBadPlan, kpBadPlan⟩, smBadPlan, hvBadPlan, opq, fnBadPlan, iCBadPlan, tIBadPlan⟩
  have hE : ErrC U XA xMade xRaised xNames := ⟨
    (fun y hy => by
    simp only [List.mem_cons, List.not_mem_nil, or_false] at hy; rcases hy with rfl | rfl
    · exact ⟨PySem.W.mg_of X G aTooLong, _, _, _, _, _, _, _, _, _, _, EI_TooLong, ET_TooLong⟩
    · exact ⟨PySem.W.mg_of X G aBadPlan, _, _, _, _, _, _, _, _, _, _, EI_BadPlan, ET_BadPlan⟩
    ),
    (fun y hy => by
    simp only [List.mem_cons, List.not_mem_nil, or_false] at hy; rcases hy with rfl | rfl | rfl
    · exact ⟨gaTooLong, ggTooLong, beTooLong, hdTooLong, hcTooLong, Qhg, Qht, hmTooLong⟩
    · exact ⟨gaBadPlan, ggBadPlan, beBadPlan, hdBadPlan, hcBadPlan, Qhg, Qht, hmBadPlan⟩
    · exact ⟨gaNotStop, ggNotStop, beNotStop, hdNotStop, hcNotStop, Qhg, Qht, hmNotStop⟩
    ),
    (fun y hy => by
    simp only [List.mem_cons, List.not_mem_nil, or_false] at hy; rcases hy with rfl | rfl | rfl | rfl | rfl | rfl | rfl | rfl | rfl | rfl | rfl | rfl | rfl | rfl | rfl | rfl | rfl | rfl | rfl | rfl
    · exact PySem.W.mg_of X G aTrialError
    · exact PySem.W.mg_of X G aBadPlan
    · exact PySem.W.mg_of X G aTooLong
    · exact PySem.W.mg_of X G aTooMany
    · exact PySem.W.mg_of X G aBadText
    · exact PySem.W.mg_of X G aBadEnds
    · exact PySem.W.mg_of X G aBadTelling
    · exact PySem.W.mg_of X G aBadVerdict
    · exact PySem.W.mg_of X G aBadCourse
    · exact PySem.W.mg_of X G aNotStop
    · exact PySem.W.mg_of X G aBadLot
    · exact PySem.W.mg_of X G aBadShare
    · exact PySem.W.mg_of X G aBadPoly
    · exact PySem.W.mg_of X G aBadFraction
    · exact PySem.W.mg_of X G aBadDesign
    · exact PySem.W.mg_of X G aHasGap
    · exact PySem.W.mg_of X G aUntold
    · exact PySem.W.mg_of X G aTooDeep
    · exact PySem.W.mg_of X G aBadPage
    · exact PySem.W.mg_of X G aRefused
    ),
    (fun y hy z hz => by
    simp only [List.mem_cons, List.not_mem_nil, or_false] at hy; rcases hy with rfl | rfl | rfl
    · simp only [List.mem_cons, List.not_mem_nil, or_false] at hz; rcases hz with rfl | rfl | rfl | rfl | rfl | rfl | rfl | rfl | rfl | rfl | rfl | rfl | rfl | rfl | rfl | rfl | rfl | rfl | rfl | rfl
      · exact kit_of2 hdTrialError tyTrialError sTooLong_TrialError (fun _ => rfl)
      · exact kit_of2 hdBadPlan tyBadPlan sTooLong_BadPlan (fun e => absurd e nTooLong_BadPlan)
      · exact kit_of2 hdTooLong tyTooLong sTooLong_TooLong (fun _ => rfl)
      · exact kit_of2 hdTooMany tyTooMany sTooLong_TooMany (fun e => absurd e nTooLong_TooMany)
      · exact kit_of2 hdBadText tyBadText sTooLong_BadText (fun e => absurd e nTooLong_BadText)
      · exact kit_of2 hdBadEnds tyBadEnds sTooLong_BadEnds (fun e => absurd e nTooLong_BadEnds)
      · exact kit_of2 hdBadTelling tyBadTelling sTooLong_BadTelling (fun e => absurd e nTooLong_BadTelling)
      · exact kit_of2 hdBadVerdict tyBadVerdict sTooLong_BadVerdict (fun e => absurd e nTooLong_BadVerdict)
      · exact kit_of2 hdBadCourse tyBadCourse sTooLong_BadCourse (fun e => absurd e nTooLong_BadCourse)
      · exact kit_of2 hdNotStop tyNotStop sTooLong_NotStop (fun e => absurd e nTooLong_NotStop)
      · exact kit_of2 hdBadLot tyBadLot sTooLong_BadLot (fun e => absurd e nTooLong_BadLot)
      · exact kit_of2 hdBadShare tyBadShare sTooLong_BadShare (fun e => absurd e nTooLong_BadShare)
      · exact kit_of2 hdBadPoly tyBadPoly sTooLong_BadPoly (fun e => absurd e nTooLong_BadPoly)
      · exact kit_of2 hdBadFraction tyBadFraction sTooLong_BadFraction (fun e => absurd e nTooLong_BadFraction)
      · exact kit_of2 hdBadDesign tyBadDesign sTooLong_BadDesign (fun e => absurd e nTooLong_BadDesign)
      · exact kit_of2 hdHasGap tyHasGap sTooLong_HasGap (fun e => absurd e nTooLong_HasGap)
      · exact kit_of2 hdUntold tyUntold sTooLong_Untold (fun e => absurd e nTooLong_Untold)
      · exact kit_of2 hdTooDeep tyTooDeep sTooLong_TooDeep (fun e => absurd e nTooLong_TooDeep)
      · exact kit_of2 hdBadPage tyBadPage sTooLong_BadPage (fun e => absurd e nTooLong_BadPage)
      · exact kit_of2 hdRefused tyRefused sTooLong_Refused (fun e => absurd e nTooLong_Refused)
    · simp only [List.mem_cons, List.not_mem_nil, or_false] at hz; rcases hz with rfl | rfl | rfl | rfl | rfl | rfl | rfl | rfl | rfl | rfl | rfl | rfl | rfl | rfl | rfl | rfl | rfl | rfl | rfl | rfl
      · exact kit_of2 hdTrialError tyTrialError sBadPlan_TrialError (fun _ => rfl)
      · exact kit_of2 hdBadPlan tyBadPlan sBadPlan_BadPlan (fun _ => rfl)
      · exact kit_of2 hdTooLong tyTooLong sBadPlan_TooLong (fun e => absurd e nBadPlan_TooLong)
      · exact kit_of2 hdTooMany tyTooMany sBadPlan_TooMany (fun e => absurd e nBadPlan_TooMany)
      · exact kit_of2 hdBadText tyBadText sBadPlan_BadText (fun e => absurd e nBadPlan_BadText)
      · exact kit_of2 hdBadEnds tyBadEnds sBadPlan_BadEnds (fun e => absurd e nBadPlan_BadEnds)
      · exact kit_of2 hdBadTelling tyBadTelling sBadPlan_BadTelling (fun e => absurd e nBadPlan_BadTelling)
      · exact kit_of2 hdBadVerdict tyBadVerdict sBadPlan_BadVerdict (fun e => absurd e nBadPlan_BadVerdict)
      · exact kit_of2 hdBadCourse tyBadCourse sBadPlan_BadCourse (fun e => absurd e nBadPlan_BadCourse)
      · exact kit_of2 hdNotStop tyNotStop sBadPlan_NotStop (fun e => absurd e nBadPlan_NotStop)
      · exact kit_of2 hdBadLot tyBadLot sBadPlan_BadLot (fun e => absurd e nBadPlan_BadLot)
      · exact kit_of2 hdBadShare tyBadShare sBadPlan_BadShare (fun e => absurd e nBadPlan_BadShare)
      · exact kit_of2 hdBadPoly tyBadPoly sBadPlan_BadPoly (fun e => absurd e nBadPlan_BadPoly)
      · exact kit_of2 hdBadFraction tyBadFraction sBadPlan_BadFraction (fun e => absurd e nBadPlan_BadFraction)
      · exact kit_of2 hdBadDesign tyBadDesign sBadPlan_BadDesign (fun e => absurd e nBadPlan_BadDesign)
      · exact kit_of2 hdHasGap tyHasGap sBadPlan_HasGap (fun e => absurd e nBadPlan_HasGap)
      · exact kit_of2 hdUntold tyUntold sBadPlan_Untold (fun e => absurd e nBadPlan_Untold)
      · exact kit_of2 hdTooDeep tyTooDeep sBadPlan_TooDeep (fun e => absurd e nBadPlan_TooDeep)
      · exact kit_of2 hdBadPage tyBadPage sBadPlan_BadPage (fun e => absurd e nBadPlan_BadPage)
      · exact kit_of2 hdRefused tyRefused sBadPlan_Refused (fun e => absurd e nBadPlan_Refused)
    · simp only [List.mem_cons, List.not_mem_nil, or_false] at hz; rcases hz with rfl | rfl | rfl | rfl | rfl | rfl | rfl | rfl | rfl | rfl | rfl | rfl | rfl | rfl | rfl | rfl | rfl | rfl | rfl | rfl
      · exact kit_of2 hdTrialError tyTrialError sNotStop_TrialError (fun _ => rfl)
      · exact kit_of2 hdBadPlan tyBadPlan sNotStop_BadPlan (fun e => absurd e nNotStop_BadPlan)
      · exact kit_of2 hdTooLong tyTooLong sNotStop_TooLong (fun e => absurd e nNotStop_TooLong)
      · exact kit_of2 hdTooMany tyTooMany sNotStop_TooMany (fun e => absurd e nNotStop_TooMany)
      · exact kit_of2 hdBadText tyBadText sNotStop_BadText (fun e => absurd e nNotStop_BadText)
      · exact kit_of2 hdBadEnds tyBadEnds sNotStop_BadEnds (fun e => absurd e nNotStop_BadEnds)
      · exact kit_of2 hdBadTelling tyBadTelling sNotStop_BadTelling (fun e => absurd e nNotStop_BadTelling)
      · exact kit_of2 hdBadVerdict tyBadVerdict sNotStop_BadVerdict (fun e => absurd e nNotStop_BadVerdict)
      · exact kit_of2 hdBadCourse tyBadCourse sNotStop_BadCourse (fun e => absurd e nNotStop_BadCourse)
      · exact kit_of2 hdNotStop tyNotStop sNotStop_NotStop (fun _ => rfl)
      · exact kit_of2 hdBadLot tyBadLot sNotStop_BadLot (fun e => absurd e nNotStop_BadLot)
      · exact kit_of2 hdBadShare tyBadShare sNotStop_BadShare (fun e => absurd e nNotStop_BadShare)
      · exact kit_of2 hdBadPoly tyBadPoly sNotStop_BadPoly (fun e => absurd e nNotStop_BadPoly)
      · exact kit_of2 hdBadFraction tyBadFraction sNotStop_BadFraction (fun e => absurd e nNotStop_BadFraction)
      · exact kit_of2 hdBadDesign tyBadDesign sNotStop_BadDesign (fun e => absurd e nNotStop_BadDesign)
      · exact kit_of2 hdHasGap tyHasGap sNotStop_HasGap (fun e => absurd e nNotStop_HasGap)
      · exact kit_of2 hdUntold tyUntold sNotStop_Untold (fun e => absurd e nNotStop_Untold)
      · exact kit_of2 hdTooDeep tyTooDeep sNotStop_TooDeep (fun e => absurd e nNotStop_TooDeep)
      · exact kit_of2 hdBadPage tyBadPage sNotStop_BadPage (fun e => absurd e nNotStop_BadPage)
      · exact kit_of2 hdRefused tyRefused sNotStop_Refused (fun e => absurd e nNotStop_Refused)
    ),
    (fun y hy => by
    simp only [List.mem_cons, List.not_mem_nil, or_false] at hy; rcases hy with rfl | rfl | rfl
    · exact kit_VE hvTooLong
    · exact kit_VE hvBadPlan
    · exact kit_VE hvNotStop
    ),
    (fun y hy z hz => by
    simp only [List.mem_cons, List.not_mem_nil, or_false] at hy; rcases hy with rfl | rfl | rfl
    · simp only [List.mem_cons, List.not_mem_nil, or_false] at hz; rcases hz with rfl | rfl | rfl | rfl | rfl | rfl | rfl | rfl | rfl | rfl | rfl | rfl | rfl | rfl | rfl | rfl | rfl | rfl | rfl | rfl
      · exact exm_of2 beTrialError hdTrialError tyTrialError sTooLong_TrialError
      · exact exm_of2 beBadPlan hdBadPlan tyBadPlan sTooLong_BadPlan
      · exact exm_of2 beTooLong hdTooLong tyTooLong sTooLong_TooLong
      · exact exm_of2 beTooMany hdTooMany tyTooMany sTooLong_TooMany
      · exact exm_of2 beBadText hdBadText tyBadText sTooLong_BadText
      · exact exm_of2 beBadEnds hdBadEnds tyBadEnds sTooLong_BadEnds
      · exact exm_of2 beBadTelling hdBadTelling tyBadTelling sTooLong_BadTelling
      · exact exm_of2 beBadVerdict hdBadVerdict tyBadVerdict sTooLong_BadVerdict
      · exact exm_of2 beBadCourse hdBadCourse tyBadCourse sTooLong_BadCourse
      · exact exm_of2 beNotStop hdNotStop tyNotStop sTooLong_NotStop
      · exact exm_of2 beBadLot hdBadLot tyBadLot sTooLong_BadLot
      · exact exm_of2 beBadShare hdBadShare tyBadShare sTooLong_BadShare
      · exact exm_of2 beBadPoly hdBadPoly tyBadPoly sTooLong_BadPoly
      · exact exm_of2 beBadFraction hdBadFraction tyBadFraction sTooLong_BadFraction
      · exact exm_of2 beBadDesign hdBadDesign tyBadDesign sTooLong_BadDesign
      · exact exm_of2 beHasGap hdHasGap tyHasGap sTooLong_HasGap
      · exact exm_of2 beUntold hdUntold tyUntold sTooLong_Untold
      · exact exm_of2 beTooDeep hdTooDeep tyTooDeep sTooLong_TooDeep
      · exact exm_of2 beBadPage hdBadPage tyBadPage sTooLong_BadPage
      · exact exm_of2 beRefused hdRefused tyRefused sTooLong_Refused
    · simp only [List.mem_cons, List.not_mem_nil, or_false] at hz; rcases hz with rfl | rfl | rfl | rfl | rfl | rfl | rfl | rfl | rfl | rfl | rfl | rfl | rfl | rfl | rfl | rfl | rfl | rfl | rfl | rfl
      · exact exm_of2 beTrialError hdTrialError tyTrialError sBadPlan_TrialError
      · exact exm_of2 beBadPlan hdBadPlan tyBadPlan sBadPlan_BadPlan
      · exact exm_of2 beTooLong hdTooLong tyTooLong sBadPlan_TooLong
      · exact exm_of2 beTooMany hdTooMany tyTooMany sBadPlan_TooMany
      · exact exm_of2 beBadText hdBadText tyBadText sBadPlan_BadText
      · exact exm_of2 beBadEnds hdBadEnds tyBadEnds sBadPlan_BadEnds
      · exact exm_of2 beBadTelling hdBadTelling tyBadTelling sBadPlan_BadTelling
      · exact exm_of2 beBadVerdict hdBadVerdict tyBadVerdict sBadPlan_BadVerdict
      · exact exm_of2 beBadCourse hdBadCourse tyBadCourse sBadPlan_BadCourse
      · exact exm_of2 beNotStop hdNotStop tyNotStop sBadPlan_NotStop
      · exact exm_of2 beBadLot hdBadLot tyBadLot sBadPlan_BadLot
      · exact exm_of2 beBadShare hdBadShare tyBadShare sBadPlan_BadShare
      · exact exm_of2 beBadPoly hdBadPoly tyBadPoly sBadPlan_BadPoly
      · exact exm_of2 beBadFraction hdBadFraction tyBadFraction sBadPlan_BadFraction
      · exact exm_of2 beBadDesign hdBadDesign tyBadDesign sBadPlan_BadDesign
      · exact exm_of2 beHasGap hdHasGap tyHasGap sBadPlan_HasGap
      · exact exm_of2 beUntold hdUntold tyUntold sBadPlan_Untold
      · exact exm_of2 beTooDeep hdTooDeep tyTooDeep sBadPlan_TooDeep
      · exact exm_of2 beBadPage hdBadPage tyBadPage sBadPlan_BadPage
      · exact exm_of2 beRefused hdRefused tyRefused sBadPlan_Refused
    · simp only [List.mem_cons, List.not_mem_nil, or_false] at hz; rcases hz with rfl | rfl | rfl | rfl | rfl | rfl | rfl | rfl | rfl | rfl | rfl | rfl | rfl | rfl | rfl | rfl | rfl | rfl | rfl | rfl
      · exact exm_of2 beTrialError hdTrialError tyTrialError sNotStop_TrialError
      · exact exm_of2 beBadPlan hdBadPlan tyBadPlan sNotStop_BadPlan
      · exact exm_of2 beTooLong hdTooLong tyTooLong sNotStop_TooLong
      · exact exm_of2 beTooMany hdTooMany tyTooMany sNotStop_TooMany
      · exact exm_of2 beBadText hdBadText tyBadText sNotStop_BadText
      · exact exm_of2 beBadEnds hdBadEnds tyBadEnds sNotStop_BadEnds
      · exact exm_of2 beBadTelling hdBadTelling tyBadTelling sNotStop_BadTelling
      · exact exm_of2 beBadVerdict hdBadVerdict tyBadVerdict sNotStop_BadVerdict
      · exact exm_of2 beBadCourse hdBadCourse tyBadCourse sNotStop_BadCourse
      · exact exm_of2 beNotStop hdNotStop tyNotStop sNotStop_NotStop
      · exact exm_of2 beBadLot hdBadLot tyBadLot sNotStop_BadLot
      · exact exm_of2 beBadShare hdBadShare tyBadShare sNotStop_BadShare
      · exact exm_of2 beBadPoly hdBadPoly tyBadPoly sNotStop_BadPoly
      · exact exm_of2 beBadFraction hdBadFraction tyBadFraction sNotStop_BadFraction
      · exact exm_of2 beBadDesign hdBadDesign tyBadDesign sNotStop_BadDesign
      · exact exm_of2 beHasGap hdHasGap tyHasGap sNotStop_HasGap
      · exact exm_of2 beUntold hdUntold tyUntold sNotStop_Untold
      · exact exm_of2 beTooDeep hdTooDeep tyTooDeep sNotStop_TooDeep
      · exact exm_of2 beBadPage hdBadPage tyBadPage sNotStop_BadPage
      · exact exm_of2 beRefused hdRefused tyRefused sNotStop_Refused
    ),
    (fun y hy => by
    simp only [List.mem_cons, List.not_mem_nil, or_false] at hy; rcases hy with rfl | rfl
    · exact fnTooLong
    · exact fnBadPlan
    ),
    (fun y hy hn => by
    simp only [List.mem_cons, List.not_mem_nil, or_false] at hy; rcases hy with rfl | rfl | rfl
    · exact absurd (by decide +kernel) hn
    · exact absurd (by decide +kernel) hn
    · exact ⟨PySem.W.mg_of X G aNotStop, xiNotStop, kzNotStop, beNotStop, tyNotStop⟩
    )⟩
  have D__law_mixed : U.Def "_law_mixed" ((S__law_mixed).lv + 1) [] cMixed := def_ok (j := 0) (n := 3) (ps := ["number", "turn", "many"]) (funAt (U := U) X G a0 l0 c0 k0) (ok_S (by decide +kernel)) rfl (ok_F (by decide +kernel)) rfl (by decide) (fun _ _ F => ⟨[], .nil, F.bindsN (ps := ["number", "turn", "many"]) fun _ _ _ _ _ _ us hl => match us, hl with | [_, _, _], _ => rfl⟩) (fun _ _ => .nil) (fun _ _ _ h => by cases h; rfl) mo_cMixed (fun G0 H0 ds P E h => b__law_mixed (U := U)  (blt_cons (PySem.W.mg_none_of X G z_int) (blt_cons (PySem.W.mg_none_of X G z_range) blt_nil))  G0 H0 ds P E h)
  have D__law_draws : U.Def "_law_draws" ((S__law_draws).lv + 1) [] cDraws := def_ok (j := 0) (n := 1) (ps := ["script"]) (funAt (U := U) X G a1 l1 c1 k1) (ok_S (by decide +kernel)) rfl (ok_F (by decide +kernel)) rfl (by decide) (fun _ _ F => ⟨[], .nil, F.bindsN (ps := ["script"]) fun _ _ _ _ _ _ us hl => match us, hl with | [_], _ => rfl⟩) (fun _ _ => .nil) (fun _ _ _ h => by cases h; rfl) mo_cDraws (fun G0 H0 ds P E h => b__law_draws (U := U)  (blt_cons (PySem.W.mg_none_of X G z_len) (blt_cons (PySem.W.mg_none_of X G z_int) (blt_cons (PySem.W.mg_none_of X G z_list) blt_nil)))  G0 H0 ds P E h)
  have D__law_opened : U.Def "_law_opened" ((S__law_opened).lv + 1) [] cOpened := def_ok (j := 0) (n := 1) (ps := ["store"]) (funAt (U := U) X G a2 l2 c2 k2) (ok_S (by decide +kernel)) rfl (ok_F (by decide +kernel)) rfl (by decide) (fun _ _ F => ⟨[], .nil, F.bindsN (ps := ["store"]) fun _ _ _ _ _ _ us hl => match us, hl with | [_], _ => rfl⟩) (fun _ _ => .nil) (fun _ _ _ h => by cases h; rfl) mo_cOpened (fun G0 H0 ds P E h => b__law_opened (U := U)  (blt_cons (PySem.W.mg_none_of X G z_range) (blt_cons (PySem.W.mg_none_of X G z_len) (blt_cons (PySem.W.mg_none_of X G z_int) blt_nil)))  G0 H0 ds P E h)
  have D__law_take : U.Def "_law_take" ((S__law_take).lv + 1) [] cTake := def_ok (j := 0) (n := 2) (ps := ["store", "many"]) (funAt (U := U) X G a3 l3 c3 k3) (ok_S (by decide +kernel)) rfl (ok_F (by decide +kernel)) rfl (by decide) (fun _ _ F => ⟨[], .nil, F.bindsN (ps := ["store", "many"]) fun _ _ _ _ _ _ us hl => match us, hl with | [_, _], _ => rfl⟩) (fun _ _ => .nil) (fun _ _ _ h => by cases h; rfl) mo_cTake (fun G0 H0 ds P E h => b__law_take (U := U)  (blt_cons (PySem.W.mg_none_of X G z_int) blt_nil) D__law_opened D__law_mixed G0 H0 ds P E h)
  have D__law_between : U.Def "_law_between" ((S__law_between).lv + 1) [] cBetween := def_ok (j := 0) (n := 3) (ps := ["store", "low", "high"]) (funAt (U := U) X G a4 l4 c4 k4) (ok_S (by decide +kernel)) rfl (ok_F (by decide +kernel)) rfl (by decide) (fun _ _ F => ⟨[], .nil, F.bindsN (ps := ["store", "low", "high"]) fun _ _ _ _ _ _ us hl => match us, hl with | [_, _, _], _ => rfl⟩) (fun _ _ => .nil) (fun _ _ _ h => by cases h; rfl) mo_cBetween (fun G0 H0 ds P E h => b__law_between (U := U)   D__law_take G0 H0 ds P E h)
  have D_law_same0 : U.Def "_law_same" ((S_same 0).lv + 1) [] (cSame 0) := def_ok (j := 0) (n := 2) (ps := ["actual", "expected"]) (funAt (U := U) X G a5 l5 c5 k5) (ok_S (by decide +kernel)) rfl (ok_F (by decide +kernel)) rfl (by decide) (fun _ _ F => ⟨[], .nil, F.bindsN (ps := ["actual", "expected"]) fun _ _ _ _ _ _ us hl => match us, hl with | [_, _], _ => rfl⟩) (fun _ _ => .nil) (fun _ _ _ h => by cases h; rfl) mo_cSame (fun G0 H0 ds P E h => b_same (blt_cons (PySem.W.mg_none_of X G z_isinstance) (blt_cons (PySem.W.mg_none_of X G z_bool) (blt_cons (PySem.W.mg_none_of X G z_int) (blt_cons (PySem.W.mg_none_of X G z_str) (blt_cons (PySem.W.mg_none_of X G z_dict) (blt_cons (PySem.W.mg_none_of X G z_len) (blt_cons (PySem.W.mg_none_of X G z_list) (blt_cons (PySem.W.mg_none_of X G z_tuple) (blt_cons (PySem.W.mg_none_of X G z_range) blt_nil))))))))) 0 (fun _ h => nomatch h) G0 H0 ds P E h)
  have D_law_same1 : U.Def "_law_same" ((S_same 1).lv + 1) [] (cSame 1) := def_ok (j := 0) (n := 2) (ps := ["actual", "expected"]) (funAt (U := U) X G a5 l5 c5 k5) (ok_S (by decide +kernel)) rfl (ok_F (by decide +kernel)) rfl (by decide) (fun _ _ F => ⟨[], .nil, F.bindsN (ps := ["actual", "expected"]) fun _ _ _ _ _ _ us hl => match us, hl with | [_, _], _ => rfl⟩) (fun _ _ => .nil) (fun _ _ _ h => by cases h; rfl) mo_cSame (fun G0 H0 ds P E h => b_same (blt_cons (PySem.W.mg_none_of X G z_isinstance) (blt_cons (PySem.W.mg_none_of X G z_bool) (blt_cons (PySem.W.mg_none_of X G z_int) (blt_cons (PySem.W.mg_none_of X G z_str) (blt_cons (PySem.W.mg_none_of X G z_dict) (blt_cons (PySem.W.mg_none_of X G z_len) (blt_cons (PySem.W.mg_none_of X G z_list) (blt_cons (PySem.W.mg_none_of X G z_tuple) (blt_cons (PySem.W.mg_none_of X G z_range) blt_nil))))))))) 1 (fun _ h => by cases h; exact D_law_same0) G0 H0 ds P E h)
  have D_law_same2 : U.Def "_law_same" ((S_same 2).lv + 1) [] (cSame 2) := def_ok (j := 0) (n := 2) (ps := ["actual", "expected"]) (funAt (U := U) X G a5 l5 c5 k5) (ok_S (by decide +kernel)) rfl (ok_F (by decide +kernel)) rfl (by decide) (fun _ _ F => ⟨[], .nil, F.bindsN (ps := ["actual", "expected"]) fun _ _ _ _ _ _ us hl => match us, hl with | [_, _], _ => rfl⟩) (fun _ _ => .nil) (fun _ _ _ h => by cases h; rfl) mo_cSame (fun G0 H0 ds P E h => b_same (blt_cons (PySem.W.mg_none_of X G z_isinstance) (blt_cons (PySem.W.mg_none_of X G z_bool) (blt_cons (PySem.W.mg_none_of X G z_int) (blt_cons (PySem.W.mg_none_of X G z_str) (blt_cons (PySem.W.mg_none_of X G z_dict) (blt_cons (PySem.W.mg_none_of X G z_len) (blt_cons (PySem.W.mg_none_of X G z_list) (blt_cons (PySem.W.mg_none_of X G z_tuple) (blt_cons (PySem.W.mg_none_of X G z_range) blt_nil))))))))) 2 (fun _ h => by cases h; exact D_law_same1) G0 H0 ds P E h)
  have D_law_same3 : U.Def "_law_same" ((S_same 3).lv + 1) [] (cSame 3) := def_ok (j := 0) (n := 2) (ps := ["actual", "expected"]) (funAt (U := U) X G a5 l5 c5 k5) (ok_S (by decide +kernel)) rfl (ok_F (by decide +kernel)) rfl (by decide) (fun _ _ F => ⟨[], .nil, F.bindsN (ps := ["actual", "expected"]) fun _ _ _ _ _ _ us hl => match us, hl with | [_, _], _ => rfl⟩) (fun _ _ => .nil) (fun _ _ _ h => by cases h; rfl) mo_cSame (fun G0 H0 ds P E h => b_same (blt_cons (PySem.W.mg_none_of X G z_isinstance) (blt_cons (PySem.W.mg_none_of X G z_bool) (blt_cons (PySem.W.mg_none_of X G z_int) (blt_cons (PySem.W.mg_none_of X G z_str) (blt_cons (PySem.W.mg_none_of X G z_dict) (blt_cons (PySem.W.mg_none_of X G z_len) (blt_cons (PySem.W.mg_none_of X G z_list) (blt_cons (PySem.W.mg_none_of X G z_tuple) (blt_cons (PySem.W.mg_none_of X G z_range) blt_nil))))))))) 3 (fun _ h => by cases h; exact D_law_same2) G0 H0 ds P E h)
  have D_law_same4 : U.Def "_law_same" ((S_same 4).lv + 1) [] (cSame 4) := def_ok (j := 0) (n := 2) (ps := ["actual", "expected"]) (funAt (U := U) X G a5 l5 c5 k5) (ok_S (by decide +kernel)) rfl (ok_F (by decide +kernel)) rfl (by decide) (fun _ _ F => ⟨[], .nil, F.bindsN (ps := ["actual", "expected"]) fun _ _ _ _ _ _ us hl => match us, hl with | [_, _], _ => rfl⟩) (fun _ _ => .nil) (fun _ _ _ h => by cases h; rfl) mo_cSame (fun G0 H0 ds P E h => b_same (blt_cons (PySem.W.mg_none_of X G z_isinstance) (blt_cons (PySem.W.mg_none_of X G z_bool) (blt_cons (PySem.W.mg_none_of X G z_int) (blt_cons (PySem.W.mg_none_of X G z_str) (blt_cons (PySem.W.mg_none_of X G z_dict) (blt_cons (PySem.W.mg_none_of X G z_len) (blt_cons (PySem.W.mg_none_of X G z_list) (blt_cons (PySem.W.mg_none_of X G z_tuple) (blt_cons (PySem.W.mg_none_of X G z_range) blt_nil))))))))) 4 (fun _ h => by cases h; exact D_law_same3) G0 H0 ds P E h)
  have D_law_same5 : U.Def "_law_same" ((S_same 5).lv + 1) [] (cSame 5) := def_ok (j := 0) (n := 2) (ps := ["actual", "expected"]) (funAt (U := U) X G a5 l5 c5 k5) (ok_S (by decide +kernel)) rfl (ok_F (by decide +kernel)) rfl (by decide) (fun _ _ F => ⟨[], .nil, F.bindsN (ps := ["actual", "expected"]) fun _ _ _ _ _ _ us hl => match us, hl with | [_, _], _ => rfl⟩) (fun _ _ => .nil) (fun _ _ _ h => by cases h; rfl) mo_cSame (fun G0 H0 ds P E h => b_same (blt_cons (PySem.W.mg_none_of X G z_isinstance) (blt_cons (PySem.W.mg_none_of X G z_bool) (blt_cons (PySem.W.mg_none_of X G z_int) (blt_cons (PySem.W.mg_none_of X G z_str) (blt_cons (PySem.W.mg_none_of X G z_dict) (blt_cons (PySem.W.mg_none_of X G z_len) (blt_cons (PySem.W.mg_none_of X G z_list) (blt_cons (PySem.W.mg_none_of X G z_tuple) (blt_cons (PySem.W.mg_none_of X G z_range) blt_nil))))))))) 5 (fun _ h => by cases h; exact D_law_same4) G0 H0 ds P E h)
  have D_next_goods : U.Def "next_goods" ((S_next_goods).lv + 1) [] cNextG := def_ok (j := 0) (n := 1) (ps := ["row"]) (funAt (U := U) X G a6 l6 c6 k6) (ok_S (by decide +kernel)) rfl (ok_F (by decide +kernel)) rfl (by decide) (fun _ _ F => ⟨[], .nil, F.bindsN (ps := ["row"]) fun _ _ _ _ _ _ us hl => match us, hl with | [_], _ => rfl⟩) (fun _ _ => .nil) (fun _ _ _ h => by cases h; rfl) mo_cNextG (fun G0 H0 ds P E h => b_next_goods (U := U)  (blt_cons (PySem.W.mg_none_of X G z_tuple) blt_nil)  G0 H0 ds P E h)
  have D_good_row : U.Def "good_row" ((S_good_row).lv + 1) [] cGoodRow := def_ok (j := 0) (n := 2) (ps := ["row", "goods"]) (funAt (U := U) X G a7 l7 c7 k7) (ok_S (by decide +kernel)) rfl (ok_F (by decide +kernel)) rfl (by decide) (fun _ _ F => ⟨[], .nil, F.bindsN (ps := ["row", "goods"]) fun _ _ _ _ _ _ us hl => match us, hl with | [_, _], _ => rfl⟩) (fun _ _ => .nil) (fun _ _ _ h => by cases h; rfl) mo_cGoodRow (fun G0 H0 ds P E h => b_good_row (U := U)  (blt_cons (PySem.W.mg_none_of X G z_enumerate) blt_nil)  G0 H0 ds P E h)
  have D_row_gaps : U.Def "row_gaps" ((S_row_gaps).lv + 1) [] cRowGaps := def_ok (j := 0) (n := 2) (ps := ["n", "row"]) (funAt (U := U) X G a8 l8 c8 k8) (ok_S (by decide +kernel)) rfl (ok_F (by decide +kernel)) rfl (by decide) (fun _ _ F => ⟨[], .nil, F.bindsN (ps := ["n", "row"]) fun _ _ _ _ _ _ us hl => match us, hl with | [_, _], _ => rfl⟩) (fun _ _ => .nil) (fun _ _ _ h => by cases h; rfl) mo_cRowGaps (fun G0 H0 ds P E h => b_row_gaps (U := U)  (blt_cons (PySem.W.mg_none_of X G z_zip) blt_nil)  G0 H0 ds P E h)
  have D_row_at : U.Def "row_at" ((S_row_at).lv + 1) [] cRowAt := def_ok (j := 0) (n := 2) (ps := ["rows", "n"]) (funAt (U := U) X G a9 l9 c9 k9) (ok_S (by decide +kernel)) rfl (ok_F (by decide +kernel)) rfl (by decide) (fun _ _ F => ⟨[], .nil, F.bindsN (ps := ["rows", "n"]) fun _ _ _ _ _ _ us hl => match us, hl with | [_, _], _ => rfl⟩) (fun _ _ => .nil) (fun _ _ _ h => by cases h; rfl) mo_cRowAt (fun G0 H0 ds P E h => b_row_at (U := U)  (blt_cons (PySem.W.mg_none_of X G z_len) blt_nil)  G0 H0 ds P E h)
  obtain ⟨fd10, A10⟩ := defAt (m := "__init__") (qual := "Plan.__init__") (st := mtop 30 0) l10 c10 k10
  have D_Plan : MakeOk U.P U.w U.K U.mg U.base "Plan" CP ((S_Plan___init__).lv + 1) cPlan := make_ok (n := 1) (ps := ["self", "rows"]) A10 ⟨Qmk, a10, i10, Qkc⟩ (PySem.W.mg_of X G aC) (ok_S (by decide +kernel)) rfl (ok_F (by decide +kernel)) rfl (by decide) (A10.fn.bindsN (ps := ["self", "rows"]) fun _ _ _ _ _ _ us hl => match us, hl with | [_, _], _ => rfl) (fun _ _ _ h => by cases h; rfl) mo_cPlan (fun G0 H0 p ds P E h => b_Plan___init__ (U := U) hC (blt_cons (PySem.W.mg_none_of X G z_len) (blt_cons (PySem.W.mg_none_of X G z_enumerate) (blt_cons (PySem.W.mg_none_of X G z_tuple) blt_nil))) D_good_row D_next_goods G0 H0 p ds P E h)
  obtain ⟨fd11, A11⟩ := defAt (m := "longest") (qual := "Plan.longest") (st := mtop 30 1) l11 c11 k11
  have D_Plan_longest : PropOk U.P U.w U.K U.mg U.base CP "longest" ((S_Plan_longest).lv + 1) (cLongest CP) := prop_ok (n := 1) (ps := ["self"]) A11 ⟨a11, g11, t11, r11, e11⟩ (ok_S (by decide +kernel)) rfl (ok_F (by decide +kernel)) rfl (by decide) (A11.fn.bindsN (ps := ["self"]) fun _ _ _ _ _ _ us hl => match us, hl with | [_], _ => rfl) (fun _ _ _ h => by cases h; rfl) mo_cLongest (fun G0 H0 ds P E h => b_Plan_longest (U := U) hC (blt_cons (PySem.W.mg_none_of X G z_len) blt_nil)  G0 H0 ds P E h)
  obtain ⟨fd12, A12⟩ := defAt (m := "rows") (qual := "Plan.rows") (st := mtop 30 4) l12 c12 k12
  have D_Plan_rows : MethOk U.P U.w U.K U.mg U.base CP "rows" ((S_Plan_rows).lv + 1) (cRows CP) := meth_ok (n := 1) (ps := ["self"]) A12 ⟨a12, i12, k12⟩ (ok_S (by decide +kernel)) rfl (ok_F (by decide +kernel)) rfl (by decide) (A12.fn.bindsN (ps := ["self"]) fun _ _ _ _ _ _ us hl => match us, hl with | [_], _ => rfl) (fun _ _ _ h => by cases h; rfl) mo_cRows (fun G0 H0 ds P E h => b_Plan_rows (U := U) hC (blt_cons (PySem.W.mg_none_of X G z_list) blt_nil)  G0 H0 ds P E h)
  obtain ⟨fd13, A13⟩ := defAt (m := "gaps") (qual := "Plan.gaps") (st := mtop 30 2) l13 c13 k13
  have D_Plan_gaps : PropOk U.P U.w U.K U.mg U.base CP "gaps" ((S_Plan_gaps).lv + 1) (cGaps CP) := prop_ok (n := 1) (ps := ["self"]) A13 ⟨a13, g13, t13, r13, e13⟩ (ok_S (by decide +kernel)) rfl (ok_F (by decide +kernel)) rfl (by decide) (A13.fn.bindsN (ps := ["self"]) fun _ _ _ _ _ _ us hl => match us, hl with | [_], _ => rfl) (fun _ _ _ h => by cases h; rfl) mo_cGaps (fun G0 H0 ds P E h => b_Plan_gaps (U := U) hC (blt_cons (PySem.W.mg_none_of X G z_enumerate) blt_nil) D_row_gaps G0 H0 ds P E h)
  obtain ⟨fd14, A14⟩ := defAt (m := "go_places") (qual := "Plan.go_places") (st := mtop 30 8) l14 c14 k14
  have D_Plan_go_places : MethOk U.P U.w U.K U.mg U.base CP "go_places" ((S_Plan_go_places).lv + 1) (cGoPlaces CP) := meth_ok (n := 1) (ps := ["self"]) A14 ⟨a14, i14, k14⟩ (ok_S (by decide +kernel)) rfl (ok_F (by decide +kernel)) rfl (by decide) (A14.fn.bindsN (ps := ["self"]) fun _ _ _ _ _ _ us hl => match us, hl with | [_], _ => rfl) (fun _ _ _ h => by cases h; rfl) mo_cGoPlaces (fun G0 H0 ds P E h => b_Plan_go_places (U := U) hC (blt_cons (PySem.W.mg_none_of X G z_enumerate) blt_nil)  G0 H0 ds P E h)
  obtain ⟨fd15, A15⟩ := defAt (m := "__contains__") (qual := "Plan.__contains__") (st := mtop 30 13) l15 c15 k15
  have D_Plan___contains__ : MethOk U.P U.w U.K U.mg U.base CP "__contains__" ((S_Plan___contains__).lv + 1) (cContains CP) := meth_ok (n := 2) (ps := ["self", "place"]) A15 ⟨a15, i15, k15⟩ (ok_S (by decide +kernel)) rfl (ok_F (by decide +kernel)) rfl (by decide) (A15.fn.bindsN (ps := ["self", "place"]) fun _ _ _ _ _ _ us hl => match us, hl with | [_, _], _ => rfl) (fun _ _ _ h => by cases h; rfl) mo_cContains (fun G0 H0 ds P E h => b_Plan___contains__ (U := U) hC  D_row_at G0 H0 ds P E h)
  obtain ⟨fd16, A16⟩ := defAt (m := "__eq__") (qual := "Plan.__eq__") (st := mtop 30 15) l16 c16 k16
  have D_Plan___eq__ : MethOk U.P U.w U.K U.mg U.base CP "__eq__" ((S_Plan___eq__).lv + 1) (cEq CP) := meth_ok (n := 2) (ps := ["self", "other"]) A16 ⟨a16, i16, k16⟩ (ok_S (by decide +kernel)) rfl (ok_F (by decide +kernel)) rfl (by decide) (A16.fn.bindsN (ps := ["self", "other"]) fun _ _ _ _ _ _ us hl => match us, hl with | [_, _], _ => rfl) (fun _ _ _ h => by cases h; rfl) mo_cEq (fun G0 H0 ds P E h => b_Plan___eq__ (U := U) hC (blt_cons (PySem.W.mg_none_of X G z_isinstance) blt_nil)  G0 H0 ds P E h)
  have D__law_some : U.DefF "_law_some" ((S__law_some).lv + 1) [] cSome := def_okF (j := 0) (n := 2) (ps := ["store", "items"]) (funAt (U := U) X G a17 l17 c17 k17) (ok_S (by decide +kernel)) rfl (ok_F (by decide +kernel)) rfl (by decide) (fun _ _ F => ⟨[], .nil, F.bindsN (ps := ["store", "items"]) fun _ _ _ _ _ _ us hl => match us, hl with | [_, _], _ => rfl⟩) (fun _ _ => .nil) (fun _ _ _ h => by cases h; rfl) mo_cSome (fun G0 H0 ds P E h => b__law_some (U := U)  (blt_cons (PySem.W.mg_none_of X G z_len) blt_nil) D__law_take G0 H0 ds P E h)
  have D__law_next_goods : U.DefF "_law_next_goods" ((S__law_next_goods).lv + 1) [] cNextL := def_okF (j := 0) (n := 1) (ps := ["goods"]) (funAt (U := U) X G a18 l18 c18 k18) (ok_S (by decide +kernel)) rfl (ok_F (by decide +kernel)) rfl (by decide) (fun _ _ F => ⟨[], .nil, F.bindsN (ps := ["goods"]) fun _ _ _ _ _ _ us hl => match us, hl with | [_], _ => rfl⟩) (fun _ _ => .nil) (fun _ _ _ h => by cases h; rfl) mo_cNextL (fun G0 H0 ds P E h => b__law_next_goods (U := U)    G0 H0 ds P E h)
  have D__law_fixed_rows : U.DefF "_law_fixed_rows" ((S__law_fixed_rows).lv + 1) [] cFixed := def_okF (j := 0) (n := 1) (ps := ["m"]) (funAt (U := U) X G a19 l19 c19 k19) (ok_S (by decide +kernel)) rfl (ok_F (by decide +kernel)) rfl (by decide) (fun _ _ F => ⟨[], .nil, F.bindsN (ps := ["m"]) fun _ _ _ _ _ _ us hl => match us, hl with | [_], _ => rfl⟩) (fun _ _ => .nil) (fun _ _ _ h => by cases h; rfl) mo_cFixed (fun G0 H0 ds P E h => b__law_fixed_rows (U := U)  (blt_cons (PySem.W.mg_none_of X G z_list) (blt_cons (PySem.W.mg_none_of X G z_range) blt_nil))  G0 H0 ds P E h)
  have D__law_until_rows : U.DefF "_law_until_rows" ((S__law_until_rows).lv + 1) [] cUntil := def_okF (j := 0) (n := 2) (ps := ["a", "b"]) (funAt (U := U) X G a20 l20 c20 k20) (ok_S (by decide +kernel)) rfl (ok_F (by decide +kernel)) rfl (by decide) (fun _ _ F => ⟨[], .nil, F.bindsN (ps := ["a", "b"]) fun _ _ _ _ _ _ us hl => match us, hl with | [_, _], _ => rfl⟩) (fun _ _ => .nil) (fun _ _ _ h => by cases h; rfl) mo_cUntil (fun G0 H0 ds P E h => b__law_until_rows (U := U)  (blt_cons (PySem.W.mg_none_of X G z_list) (blt_cons (PySem.W.mg_none_of X G z_range) (blt_cons (PySem.W.mg_none_of X G z_max) (blt_cons (PySem.W.mg_none_of X G z_min) blt_nil))))  G0 H0 ds P E h)
  have D__law_band_rows : U.DefF "_law_band_rows" ((S__law_band_rows).lv + 1) [] cBand := def_okF (j := 0) (n := 5) (ps := ["s", "t", "low", "high", "n"]) (funAt (U := U) X G a21 l21 c21 k21) (ok_S (by decide +kernel)) rfl (ok_F (by decide +kernel)) rfl (by decide) (fun _ _ F => ⟨[], .nil, F.bindsN (ps := ["s", "t", "low", "high", "n"]) fun _ _ _ _ _ _ us hl => match us, hl with | [_, _, _, _, _], _ => rfl⟩) (fun _ _ => .nil) (fun _ _ _ h => by cases h; rfl) mo_cBand (fun G0 H0 ds P E h => b__law_band_rows (U := U)  (blt_cons (PySem.W.mg_none_of X G z_range) (blt_cons (PySem.W.mg_none_of X G z_len) blt_nil)) D__law_next_goods G0 H0 ds P E h)
  have D__law_gapless_rows : U.DefF "_law_gapless_rows" ((S__law_gapless_rows).lv + 1) [] cGapless0 := def_okF (j := 0) (n := 2) (ps := ["store", "many"]) (funAt (U := U) X G a22 l22 c22 k22) (ok_S (by decide +kernel)) rfl (ok_F (by decide +kernel)) rfl (by decide) (fun _ _ F => ⟨[], .nil, F.bindsN (ps := ["store", "many"]) fun _ _ _ _ _ _ us hl => match us, hl with | [_, _], _ => rfl⟩) (fun _ _ => .nil) (fun _ _ _ h => by cases h; rfl) mo_cGapless0 (fun G0 H0 ds P E h => b__law_gapless_rows (U := U)  (blt_cons (PySem.W.mg_none_of X G z_range) (blt_cons (PySem.W.mg_none_of X G z_len) blt_nil)) D__law_take D__law_next_goods G0 H0 ds P E h)
  have D__law_any_rows : U.DefF "_law_any_rows" ((S__law_any_rows).lv + 1) [] cAny := def_okF (j := 0) (n := 2) (ps := ["store", "many"]) (funAt (U := U) X G a23 l23 c23 k23) (ok_S (by decide +kernel)) rfl (ok_F (by decide +kernel)) rfl (by decide) (fun _ _ F => ⟨[], .nil, F.bindsN (ps := ["store", "many"]) fun _ _ _ _ _ _ us hl => match us, hl with | [_, _], _ => rfl⟩) (fun _ _ => .nil) (fun _ _ _ h => by cases h; rfl) mo_cAny (fun G0 H0 ds P E h => b__law_any_rows (U := U)  (blt_cons (PySem.W.mg_none_of X G z_range) blt_nil) D__law_some D__law_next_goods G0 H0 ds P E h)
  have D__law_gapped_rows : U.DefF "_law_gapped_rows" ((S__law_gapped_rows).lv + 1) [] cGapped := def_okF (j := 0) (n := 2) (ps := ["store", "many"]) (funAt (U := U) X G a24 l24 c24 k24) (ok_S (by decide +kernel)) rfl (ok_F (by decide +kernel)) rfl (by decide) (fun _ _ F => ⟨[], .nil, F.bindsN (ps := ["store", "many"]) fun _ _ _ _ _ _ us hl => match us, hl with | [_, _], _ => rfl⟩) (fun _ _ => .nil) (fun _ _ _ h => by cases h; rfl) mo_cGapped (fun G0 H0 ds P E h => b__law_gapped_rows (U := U)  (blt_cons (PySem.W.mg_none_of X G z_max) (blt_cons (PySem.W.mg_none_of X G z_len) (blt_cons (PySem.W.mg_none_of X G z_list) (blt_cons (PySem.W.mg_none_of X G z_range) blt_nil)))) D__law_take D__law_gapless_rows D__law_next_goods D__law_fixed_rows D__law_some G0 H0 ds P E h)
  have D__law_gapless_plan : U.DefF "_law_gapless_plan" ((S__law_gapless_plan).lv + 1) [] cGaplessPlan := def_okF (j := 0) (n := 2) (ps := ["store", "most"]) (funAt (U := U) X G a25 l25 c25 k25) (ok_S (by decide +kernel)) rfl (ok_F (by decide +kernel)) rfl (by decide) (fun _ _ F => ⟨[], .nil, F.bindsN (ps := ["store", "most"]) fun _ _ _ _ _ _ us hl => match us, hl with | [_, _], _ => rfl⟩) (fun _ _ => .nil) (fun _ _ _ h => by cases h; rfl) mo_cGaplessPlan (fun G0 H0 ds P E h => b__law_gapless_plan (U := U)  (blt_cons (PySem.W.mg_none_of X G z_min) blt_nil) D__law_take D__law_fixed_rows D__law_between D__law_until_rows D__law_gapless_rows G0 H0 ds P E h)
  have D__law_rows : U.DefF "_law_rows" ((S__law_rows).lv + 1) [] cRows0 := def_okF (j := 0) (n := 2) (ps := ["store", "most"]) (funAt (U := U) X G a26 l26 c26 k26) (ok_S (by decide +kernel)) rfl (ok_F (by decide +kernel)) rfl (by decide) (fun _ _ F => ⟨[], .nil, F.bindsN (ps := ["store", "most"]) fun _ _ _ _ _ _ us hl => match us, hl with | [_, _], _ => rfl⟩) (fun _ _ => .nil) (fun _ _ _ h => by cases h; rfl) mo_cRows0 (fun G0 H0 ds P E h => b__law_rows (U := U)   D__law_take D__law_gapless_plan D__law_any_rows D__law_between D__law_band_rows D__law_gapped_rows G0 H0 ds P E h)
  have D__law_copy : U.DefF "_law_copy" ((S__law_copy).lv + 1) [] cCopy := def_okF (j := 0) (n := 1) (ps := ["rows"]) (funAt (U := U) X G a27 l27 c27 k27) (ok_S (by decide +kernel)) rfl (ok_F (by decide +kernel)) rfl (by decide) (fun _ _ F => ⟨[], .nil, F.bindsN (ps := ["rows"]) fun _ _ _ _ _ _ us hl => match us, hl with | [_], _ => rfl⟩) (fun _ _ => .nil) (fun _ _ _ h => by cases h; rfl) mo_cCopy (fun G0 H0 ds P E h => b__law_copy (U := U)  (blt_cons (PySem.W.mg_none_of X G z_list) blt_nil)  G0 H0 ds P E h)
  have D_of_places : U.Def "of_places" ((S_of_places).lv + 1) [] (cOfP CP) := def_ok (j := 0) (n := 1) (ps := ["places"]) (funAt (U := U) X G a28 l28 c28 k28) (ok_S (by decide +kernel)) rfl (ok_F (by decide +kernel)) rfl (by decide) (fun _ _ F => ⟨[], .nil, F.bindsN (ps := ["places"]) fun _ _ _ _ _ _ us hl => match us, hl with | [_], _ => rfl⟩) (fun _ _ => .nil) (fun _ _ _ h => by cases h; rfl) mo_cOfP (fun G0 H0 ds P E h => b_of_places (U := U) hC (blt_cons (PySem.W.mg_none_of X G z_range) (blt_cons (PySem.W.mg_none_of X G z_enumerate) (blt_cons (PySem.W.mg_none_of X G z_sorted) (blt_cons (PySem.W.mg_none_of X G z_set) blt_nil)))) D_next_goods D_Plan G0 H0 ds P E h)
  obtain ⟨fd29, A29⟩ := defAt (m := "stops") (qual := "Plan.stops") (st := mtop 30 7) l29 c29 k29
  have D_Plan_stops : MethOk U.P U.w U.K U.mg U.base CP "stops" ((S_Plan_stops).lv + 1) (cStops CP) := meth_ok (n := 1) (ps := ["self"]) A29 ⟨a29, i29, k29⟩ (ok_S (by decide +kernel)) rfl (ok_F (by decide +kernel)) rfl (by decide) (A29.fn.bindsN (ps := ["self"]) fun _ _ _ _ _ _ us hl => match us, hl with | [_], _ => rfl) (fun _ _ _ h => by cases h; rfl) mo_cStops (fun G0 H0 ds P E h => b_Plan_stops (U := U) hC (blt_cons (PySem.W.mg_none_of X G z_enumerate) blt_nil) D_row_at G0 H0 ds P E h)
  have D__law_pick : U.Def "_law_pick" ((S__law_pick).lv + 1) [] cPick := def_ok (j := 0) (n := 2) (ps := ["store", "items"]) (funAt (U := U) X G a30 l30 c30 k30) (ok_S (by decide +kernel)) rfl (ok_F (by decide +kernel)) rfl (by decide) (fun _ _ F => ⟨[], .nil, F.bindsN (ps := ["store", "items"]) fun _ _ _ _ _ _ us hl => match us, hl with | [_, _], _ => rfl⟩) (fun _ _ => .nil) (fun _ _ _ h => by cases h; rfl) mo_cPick (fun G0 H0 ds P E h => b__law_pick (U := U)  (blt_cons (PySem.W.mg_none_of X G z_len) blt_nil) D__law_take G0 H0 ds P E h)
  have D__law_go : U.Def "_law_go" ((S__law_go).lv + 1) [] cGo := def_ok (j := 0) (n := 1) (ps := ["rows"]) (funAt (U := U) X G a31 l31 c31 k31) (ok_S (by decide +kernel)) rfl (ok_F (by decide +kernel)) rfl (by decide) (fun _ _ F => ⟨[], .nil, F.bindsN (ps := ["rows"]) fun _ _ _ _ _ _ us hl => match us, hl with | [_], _ => rfl⟩) (fun _ _ => .nil) (fun _ _ _ h => by cases h; rfl) mo_cGo (fun G0 H0 ds P E h => b__law_go (U := U)  (blt_cons (PySem.W.mg_none_of X G z_range) (blt_cons (PySem.W.mg_none_of X G z_len) blt_nil))  G0 H0 ds P E h)
  have hL32 : LamC U "_law_in_order" cc32 PP32 := ⟨hTB _ (.head _), (show _ ∈ ([(PP32, lamQ "_law_in_order")] : List (Addr × Str)) from .head _), fun y hy _ => by rw [List.mem_singleton.mp (show y ∈ ([(PP32, lamQ "_law_in_order")] : List (Addr × Str)) from hy)]⟩
  have D__law_in_order : U.Def "_law_in_order" ((S__law_in_order).lv + 1) [] cInOrder := def_okL (n := 1) (ps := ["places"]) (funAtC (U := U) X G a32 l32 c32 k32) (ok_S (by decide +kernel)) rfl (ok_F (by decide +kernel)) rfl (by decide) (fun _ _ F => ⟨[], .nil, F.bindsN (ps := ["places"]) fun _ _ _ _ _ _ us hl => match us, hl with | [_], _ => rfl⟩) (fun _ _ _ h => by cases h; rfl) mo_cInOrder (fun G0 H0 ds P E h => b__law_in_order (U := U)  hL32 (blt_cons (PySem.W.mg_none_of X G z_sorted) blt_nil)  G0 H0 ds P E h)
  have D__law_gaps : U.Def "_law_gaps" ((S__law_gaps).lv + 1) [] cLawGaps := def_ok (j := 0) (n := 1) (ps := ["rows"]) (funAt (U := U) X G a33 l33 c33 k33) (ok_S (by decide +kernel)) rfl (ok_F (by decide +kernel)) rfl (by decide) (fun _ _ F => ⟨[], .nil, F.bindsN (ps := ["rows"]) fun _ _ _ _ _ _ us hl => match us, hl with | [_], _ => rfl⟩) (fun _ _ => .nil) (fun _ _ _ h => by cases h; rfl) mo_cLawGaps (fun G0 H0 ds P E h => b__law_gaps (U := U)  (blt_cons (PySem.W.mg_none_of X G z_range) (blt_cons (PySem.W.mg_none_of X G z_len) blt_nil))  G0 H0 ds P E h)
  obtain ⟨fd34, A34⟩ := defAt (m := "has_stop") (qual := "Plan.has_stop") (st := mtop 30 9) l34 c34 k34
  have D_Plan_has_stop : MethOk U.P U.w U.K U.mg U.base CP "has_stop" ((S_Plan_has_stop).lv + 1) (cHasStop CP) := meth_ok (n := 2) (ps := ["self", "place"]) A34 ⟨a34, i34, k34⟩ (ok_S (by decide +kernel)) rfl (ok_F (by decide +kernel)) rfl (by decide) (A34.fn.bindsN (ps := ["self", "place"]) fun _ _ _ _ _ _ us hl => match us, hl with | [_, _], _ => rfl) (fun _ _ _ h => by cases h; rfl) mo_cHasStop (fun G0 H0 ds P E h => b_Plan_has_stop (U := U) hC  D_row_at G0 H0 ds P E h)
  have D_open_at : U.Def "open_at" ((S_open_at).lv + 1) [] (cOpen CP XA) := def_ok (j := 0) (n := 2) (ps := ["plan", "place"]) (funAt (U := U) X G a35 l35 c35 k35) (ok_S (by decide +kernel)) rfl (ok_F (by decide +kernel)) rfl (by decide) (fun _ _ F => ⟨[], .nil, F.bindsN (ps := ["plan", "place"]) fun _ _ _ _ _ _ us hl => match us, hl with | [_, _], _ => rfl⟩) (fun _ _ => .nil) (fun _ _ _ h => by cases h; rfl) mo_cOpen (fun G0 H0 ds P E h => b_open_at (U := U) hC hE  D_Plan_has_stop D_Plan_go_places D_of_places G0 H0 ds P E h)
  have D_may_close : U.Def "may_close" ((S_may_close).lv + 1) [] (cMay CP) := def_ok (j := 0) (n := 2) (ps := ["plan", "place"]) (funAt (U := U) X G a36 l36 c36 k36) (ok_S (by decide +kernel)) rfl (ok_F (by decide +kernel)) rfl (by decide) (fun _ _ F => ⟨[], .nil, F.bindsN (ps := ["plan", "place"]) fun _ _ _ _ _ _ us hl => match us, hl with | [_, _], _ => rfl⟩) (fun _ _ => .nil) (fun _ _ _ h => by cases h; rfl) mo_cMay (fun G0 H0 ds P E h => b_may_close (U := U) hC  D_Plan___contains__ G0 H0 ds P E h)
  have D_close_at : U.Def "close_at" ((S_close_at).lv + 1) [] (cClose CP XA) := def_ok (j := 0) (n := 2) (ps := ["plan", "place"]) (funAt (U := U) X G a37 l37 c37 k37) (ok_S (by decide +kernel)) rfl (ok_F (by decide +kernel)) rfl (by decide) (fun _ _ F => ⟨[], .nil, F.bindsN (ps := ["plan", "place"]) fun _ _ _ _ _ _ us hl => match us, hl with | [_, _], _ => rfl⟩) (fun _ _ => .nil) (fun _ _ _ h => by cases h; rfl) mo_cClose (fun G0 H0 ds P E h => b_close_at (U := U) hC hE  D_may_close D_Plan_go_places D_of_places G0 H0 ds P E h)
  have D_grow : U.Def "grow" ((S_grow).lv + 1) [] (cGrow CP XA) := def_ok (j := 0) (n := 2) (ps := ["plan", "place"]) (funAt (U := U) X G a38 l38 c38 k38) (ok_S (by decide +kernel)) rfl (ok_F (by decide +kernel)) rfl (by decide) (fun _ _ F => ⟨[], .nil, F.bindsN (ps := ["plan", "place"]) fun _ _ _ _ _ _ us hl => match us, hl with | [_, _], _ => rfl⟩) (fun _ _ => .nil) (fun _ _ _ h => by cases h; rfl) mo_cGrow (fun G0 H0 ds P E h => b_grow (U := U) hC hE (blt_cons (PySem.W.mg_none_of X G z_len) blt_nil) D_open_at D_Plan_stops D_Plan_longest D_Plan_gaps G0 H0 ds P E h)
  have D_openings : U.Def "openings" ((S_openings).lv + 1) [] (cOpenings CP) := def_ok (j := 0) (n := 1) (ps := ["plan"]) (funAt (U := U) X G a39 l39 c39 k39) (ok_S (by decide +kernel)) rfl (ok_F (by decide +kernel)) rfl (by decide) (fun _ _ F => ⟨[], .nil, F.bindsN (ps := ["plan"]) fun _ _ _ _ _ _ us hl => match us, hl with | [_], _ => rfl⟩) (fun _ _ => .nil) (fun _ _ _ h => by cases h; rfl) mo_cOpenings (fun G0 H0 ds P E h => b_openings (U := U) hC hE (blt_cons (PySem.W.mg_none_of X G z_len) blt_nil) D_Plan D_open_at D_Plan_go_places D_Plan_stops D_Plan_longest D_Plan_gaps G0 H0 ds P E h)
  have D__law_next : U.DefF "_law_next" ((S__law_next).lv + 1) [] cNext := def_okF (j := 0) (n := 1) (ps := ["z"]) (funAt (U := U) X G a40 l40 c40 k40) (ok_S (by decide +kernel)) rfl (ok_F (by decide +kernel)) rfl (by decide) (fun _ _ F => ⟨[], .nil, F.bindsN (ps := ["z"]) fun _ _ _ _ _ _ us hl => match us, hl with | [_], _ => rfl⟩) (fun _ _ => .nil) (fun _ _ _ h => by cases h; rfl) mo_cNext (fun G0 H0 ds P E h => b__law_next (U := U)    G0 H0 ds P E h)
  have D__law_steps : U.Def "_law_steps" ((S__law_steps).lv + 1) [] cSteps := def_ok (j := 0) (n := 1) (ps := ["rows"]) (funAt (U := U) X G a41 l41 c41 k41) (ok_S (by decide +kernel)) rfl (ok_F (by decide +kernel)) rfl (by decide) (fun _ _ F => ⟨[], .nil, F.bindsN (ps := ["rows"]) fun _ _ _ _ _ _ us hl => match us, hl with | [_], _ => rfl⟩) (fun _ _ => .nil) (fun _ _ _ h => by cases h; rfl) mo_cSteps (fun G0 H0 ds P E h => b__law_steps (U := U)  (blt_cons (PySem.W.mg_none_of X G z_range) (blt_cons (PySem.W.mg_none_of X G z_len) blt_nil)) D__law_next G0 H0 ds P E h)
  have D__law_grouped : U.Def "_law_grouped" ((S__law_grouped).lv + 1) [] cGrouped := def_ok (j := 0) (n := 1) (ps := ["places"]) (funAt (U := U) X G a42 l42 c42 k42) (ok_S (by decide +kernel)) rfl (ok_F (by decide +kernel)) rfl (by decide) (fun _ _ F => ⟨[], .nil, F.bindsN (ps := ["places"]) fun _ _ _ _ _ _ us hl => match us, hl with | [_], _ => rfl⟩) (fun _ _ => .nil) (fun _ _ _ h => by cases h; rfl) mo_cGrouped (fun G0 H0 ds P E h => b__law_grouped (U := U)  (blt_cons (PySem.W.mg_none_of X G z_len) blt_nil) D__law_in_order G0 H0 ds P E h)
  have D__law_ask : U.Def "_law_ask" ((S__law_ask).lv + 1) [] (cAsk19 CP) := def_ok (j := 0) (n := 3) (ps := ["word", "plan", "z"]) (funAt (U := U) X G a43 l43 c43 k43) (ok_S (by decide +kernel)) rfl (ok_F (by decide +kernel)) rfl (by decide) (fun _ _ F => ⟨[], .nil, F.bindsN (ps := ["word", "plan", "z"]) fun _ _ _ _ _ _ us hl => match us, hl with | [_, _, _], _ => rfl⟩) (fun _ _ => .nil) (fun _ _ _ h => by cases h; rfl) mo_cAsk19 (fun G0 H0 ds P E h => b__law_ask (U := U) hC hE (blt_cons (PySem.W.mg_none_of X G z_isinstance) (blt_cons (PySem.W.mg_none_of X G z_sum) (blt_cons (PySem.W.mg_none_of X G z_int) (blt_cons (PySem.W.mg_none_of X G z_ValueError) blt_nil)))) D_open_at D_close_at D_grow G0 H0 ds P E h)
  have D__law_due : U.Def "_law_due" ((S__law_due).lv + 1) [] cDue19 := def_ok (j := 0) (n := 4) (ps := ["word", "rows", "z", "steps"]) (funAt (U := U) X G a44 l44 c44 k44) (ok_S (by decide +kernel)) rfl (ok_F (by decide +kernel)) rfl (by decide) (fun _ _ F => ⟨[], .nil, F.bindsN (ps := ["word", "rows", "z", "steps"]) fun _ _ _ _ _ _ us hl => match us, hl with | [_, _, _, _], _ => rfl⟩) (fun _ _ => .nil) (fun _ _ _ h => by cases h; rfl) mo_cDue19 (fun G0 H0 ds P E h => b__law_due (U := U)  (blt_cons (PySem.W.mg_none_of X G z_len) blt_nil) D__law_grouped D__law_next D__law_gaps G0 H0 ds P E h)
  have D__law_right : U.Def "_law_right" ((S__law_right).lv + 1) [] (cRight19 CP) := def_ok (j := 0) (n := 5) (ps := ["word", "plan", "rows", "z", "due"]) (funAt (U := U) X G a45 l45 c45 k45) (ok_S (by decide +kernel)) rfl (ok_F (by decide +kernel)) rfl (by decide) (fun _ _ F => ⟨[], .nil, F.bindsN (ps := ["word", "plan", "rows", "z", "due"]) fun _ _ _ _ _ _ us hl => match us, hl with | [_, _, _, _, _], _ => rfl⟩) (fun _ _ => .nil) (fun _ _ _ h => by cases h; rfl) mo_cRight19 (fun G0 H0 ds P E h => b__law_right (U := U) hC hE (blt_cons (PySem.W.mg_none_of X G z_isinstance) (blt_cons (PySem.W.mg_none_of X G z_list) (blt_cons (PySem.W.mg_none_of X G z_len) (blt_cons (PySem.W.mg_none_of X G z_tuple) blt_nil)))) D__law_ask D_law_same5 D_Plan D_close_at D__law_copy D_Plan_rows D_Plan___eq__ G0 H0 ds P E h)
  have D__law_place : U.Def "_law_place" ((S__law_place).lv + 1) [] cPlace19 := def_ok (j := 0) (n := 2) (ps := ["store", "most"]) (funAt (U := U) X G a46 l46 c46 k46) (ok_S (by decide +kernel)) rfl (ok_F (by decide +kernel)) rfl (by decide) (fun _ _ F => ⟨[], .nil, F.bindsN (ps := ["store", "most"]) fun _ _ _ _ _ _ us hl => match us, hl with | [_, _], _ => rfl⟩) (fun _ _ => .nil) (fun _ _ _ h => by cases h; rfl) mo_cPlace19 (fun G0 H0 ds P E h => b__law_place (U := U)   D__law_between G0 H0 ds P E h)
  have D__law_no_stop : U.Def "_law_no_stop" ((S__law_no_stop).lv + 1) [] cNoStop := def_ok (j := 0) (n := 2) (ps := ["store", "rows"]) (funAt (U := U) X G a47 l47 c47 k47) (ok_S (by decide +kernel)) rfl (ok_F (by decide +kernel)) rfl (by decide) (fun _ _ F => ⟨[], .nil, F.bindsN (ps := ["store", "rows"]) fun _ _ _ _ _ _ us hl => match us, hl with | [_, _], _ => rfl⟩) (fun _ _ => .nil) (fun _ _ _ h => by cases h; rfl) mo_cNoStop (fun G0 H0 ds P E h => b__law_no_stop (U := U)  (blt_cons (PySem.W.mg_none_of X G z_len) blt_nil) D__law_take D__law_pick D__law_go G0 H0 ds P E h)
  exact fn_okC (U := U) (n := 1) FL (ok_S (by decide +kernel)) rfl (ok_F (by decide +kernel)) rfl (by decide) (fun _ _ _ h => by cases h; rfl) (fun G0 H0 ds P E h => b_law (U := U) hC (blt_cons (PySem.W.mg_none_of X G z_range) (blt_cons (PySem.W.mg_none_of X G z_len) blt_nil)) D__law_draws D__law_take D__law_rows D__law_next_goods D__law_pick D_Plan D__law_steps D__law_go D__law_no_stop D__law_place D__law_right D__law_due D_law_same5 D_openings D__law_copy D_Plan_rows G0 H0 ds P E h)
end Z
open PySem PySem.W PyProof.Rows
set_option maxRecDepth 100000 in
set_option maxHeartbeats 0 in
theorem PySem.Challenge.cw_onetelling_k19_opened_and_closed_holds : PySem.Challenge.rw_onetelling_k19_opened_and_closed.Holds := by
  w_on; o_law; k_head; (case hw => w_witness2)
  k_fill
  refine Z.law_walkT (l := PySem.Challenge.rw_onetelling_k19_opened_and_closed) (k := 10) (x := "script") rfl rfl ⟨rfl, by decide, by decide⟩ (fun w h Y => ⟨PySem.W.km_in_of Y, PySem.W.km_tabs_of Y⟩) ?F
  case F =>
    intro w mg fa h KX G hmg
    refine' Z.all_mk KX G hmg ?aC ?Qpg ?Qhd ?Qpo ?Qsa ?Qty ?Qmk ?Qkc ?Qn1 ?Qn2 ?Qhc ?Qhg ?Qht ?Qhm ?Qne ?Qob ?Qsf ?aML ?aTrialError ?beTrialError ?hdTrialError ?tyTrialError ?aBadPlan ?beBadPlan ?hdBadPlan ?tyBadPlan ?aTooLong ?beTooLong ?hdTooLong ?tyTooLong ?aTooMany ?beTooMany ?hdTooMany ?tyTooMany ?aBadText ?beBadText ?hdBadText ?tyBadText ?aBadEnds ?beBadEnds ?hdBadEnds ?tyBadEnds ?aBadTelling ?beBadTelling ?hdBadTelling ?tyBadTelling ?aBadVerdict ?beBadVerdict ?hdBadVerdict ?tyBadVerdict ?aBadCourse ?beBadCourse ?hdBadCourse ?tyBadCourse ?aNotStop ?beNotStop ?hdNotStop ?tyNotStop ?aBadLot ?beBadLot ?hdBadLot ?tyBadLot ?aBadShare ?beBadShare ?hdBadShare ?tyBadShare ?aBadPoly ?beBadPoly ?hdBadPoly ?tyBadPoly ?aBadFraction ?beBadFraction ?hdBadFraction ?tyBadFraction ?aBadDesign ?beBadDesign ?hdBadDesign ?tyBadDesign ?aHasGap ?beHasGap ?hdHasGap ?tyHasGap ?aUntold ?beUntold ?hdUntold ?tyUntold ?aTooDeep ?beTooDeep ?hdTooDeep ?tyTooDeep ?aBadPage ?beBadPage ?hdBadPage ?tyBadPage ?aRefused ?beRefused ?hdRefused ?tyRefused ?gaTooLong ?ggTooLong ?hcTooLong ?hmTooLong ?hvTooLong ?sTooLong_TrialError ?sTooLong_BadPlan ?sTooLong_TooLong ?sTooLong_TooMany ?sTooLong_BadText ?sTooLong_BadEnds ?sTooLong_BadTelling ?sTooLong_BadVerdict ?sTooLong_BadCourse ?sTooLong_NotStop ?sTooLong_BadLot ?sTooLong_BadShare ?sTooLong_BadPoly ?sTooLong_BadFraction ?sTooLong_BadDesign ?sTooLong_HasGap ?sTooLong_Untold ?sTooLong_TooDeep ?sTooLong_BadPage ?sTooLong_Refused ?nTooLong_BadPlan ?nTooLong_TooMany ?nTooLong_BadText ?nTooLong_BadEnds ?nTooLong_BadTelling ?nTooLong_BadVerdict ?nTooLong_BadCourse ?nTooLong_NotStop ?nTooLong_BadLot ?nTooLong_BadShare ?nTooLong_BadPoly ?nTooLong_BadFraction ?nTooLong_BadDesign ?nTooLong_HasGap ?nTooLong_Untold ?nTooLong_TooDeep ?nTooLong_BadPage ?nTooLong_Refused ?gaBadPlan ?ggBadPlan ?hcBadPlan ?hmBadPlan ?hvBadPlan ?sBadPlan_TrialError ?sBadPlan_BadPlan ?sBadPlan_TooLong ?sBadPlan_TooMany ?sBadPlan_BadText ?sBadPlan_BadEnds ?sBadPlan_BadTelling ?sBadPlan_BadVerdict ?sBadPlan_BadCourse ?sBadPlan_NotStop ?sBadPlan_BadLot ?sBadPlan_BadShare ?sBadPlan_BadPoly ?sBadPlan_BadFraction ?sBadPlan_BadDesign ?sBadPlan_HasGap ?sBadPlan_Untold ?sBadPlan_TooDeep ?sBadPlan_BadPage ?sBadPlan_Refused ?nBadPlan_TooLong ?nBadPlan_TooMany ?nBadPlan_BadText ?nBadPlan_BadEnds ?nBadPlan_BadTelling ?nBadPlan_BadVerdict ?nBadPlan_BadCourse ?nBadPlan_NotStop ?nBadPlan_BadLot ?nBadPlan_BadShare ?nBadPlan_BadPoly ?nBadPlan_BadFraction ?nBadPlan_BadDesign ?nBadPlan_HasGap ?nBadPlan_Untold ?nBadPlan_TooDeep ?nBadPlan_BadPage ?nBadPlan_Refused ?gaNotStop ?ggNotStop ?hcNotStop ?hmNotStop ?hvNotStop ?sNotStop_TrialError ?sNotStop_BadPlan ?sNotStop_TooLong ?sNotStop_TooMany ?sNotStop_BadText ?sNotStop_BadEnds ?sNotStop_BadTelling ?sNotStop_BadVerdict ?sNotStop_BadCourse ?sNotStop_NotStop ?sNotStop_BadLot ?sNotStop_BadShare ?sNotStop_BadPoly ?sNotStop_BadFraction ?sNotStop_BadDesign ?sNotStop_HasGap ?sNotStop_Untold ?sNotStop_TooDeep ?sNotStop_BadPage ?sNotStop_Refused ?nNotStop_BadPlan ?nNotStop_TooLong ?nNotStop_TooMany ?nNotStop_BadText ?nNotStop_BadEnds ?nNotStop_BadTelling ?nNotStop_BadVerdict ?nNotStop_BadCourse ?nNotStop_BadLot ?nNotStop_BadShare ?nNotStop_BadPoly ?nNotStop_BadFraction ?nNotStop_BadDesign ?nNotStop_HasGap ?nNotStop_Untold ?nNotStop_TooDeep ?nNotStop_BadPage ?nNotStop_Refused ?xiNotStop ?kzNotStop ?nsuper ?opq ?tops ?lcTooLong ?rvTooLong ?saTooLong ?kpTooLong ?fnTooLong ?iCTooLong ?tITooLong ?flTooLong ?cdTooLong ?coTooLong ?v2TooLong ?feTooLong ?ceTooLong ?mrTooLong ?smTooLong ?lcBadPlan ?rvBadPlan ?saBadPlan ?kpBadPlan ?fnBadPlan ?iCBadPlan ?tIBadPlan ?flBadPlan ?cdBadPlan ?coBadPlan ?v2BadPlan ?feBadPlan ?ceBadPlan ?mrBadPlan ?smBadPlan ?a0 ?l0 ?c0 ?k0 ?a1 ?l1 ?c1 ?k1 ?a2 ?l2 ?c2 ?k2 ?a3 ?l3 ?c3 ?k3 ?a4 ?l4 ?c4 ?k4 ?a5 ?l5 ?c5 ?k5 ?a6 ?l6 ?c6 ?k6 ?a7 ?l7 ?c7 ?k7 ?a8 ?l8 ?c8 ?k8 ?a9 ?l9 ?c9 ?k9 ?a10 ?i10 ?l10 ?c10 ?k10 ?a11 ?g11 ?t11 ?e11 ?l11 ?c11 ?k11 ?a12 ?i12 ?l12 ?c12 ?k12 ?a13 ?g13 ?t13 ?e13 ?l13 ?c13 ?k13 ?a14 ?i14 ?l14 ?c14 ?k14 ?a15 ?i15 ?l15 ?c15 ?k15 ?a16 ?i16 ?l16 ?c16 ?k16 ?a17 ?l17 ?c17 ?k17 ?a18 ?l18 ?c18 ?k18 ?a19 ?l19 ?c19 ?k19 ?a20 ?l20 ?c20 ?k20 ?a21 ?l21 ?c21 ?k21 ?a22 ?l22 ?c22 ?k22 ?a23 ?l23 ?c23 ?k23 ?a24 ?l24 ?c24 ?k24 ?a25 ?l25 ?c25 ?k25 ?a26 ?l26 ?c26 ?k26 ?a27 ?l27 ?c27 ?k27 ?a28 ?l28 ?c28 ?k28 ?a29 ?i29 ?l29 ?c29 ?k29 ?a30 ?l30 ?c30 ?k30 ?a31 ?l31 ?c31 ?k31 ?a32 ?l32 ?c32 ?mP32 ?tI32 ?nP32 ?k32 ?a33 ?l33 ?c33 ?k33 ?a34 ?i34 ?l34 ?c34 ?k34 ?a35 ?l35 ?c35 ?k35 ?a36 ?l36 ?c36 ?k36 ?a37 ?l37 ?c37 ?k37 ?a38 ?l38 ?c38 ?k38 ?a39 ?l39 ?c39 ?k39 ?a40 ?l40 ?c40 ?k40 ?a41 ?l41 ?c41 ?k41 ?a42 ?l42 ?c42 ?k42 ?a43 ?l43 ?c43 ?k43 ?a44 ?l44 ?c44 ?k44 ?a45 ?l45 ?c45 ?k45 ?a46 ?l46 ?c46 ?k46 ?a47 ?l47 ?c47 ?k47 ?a48 ?l48 ?c48 ?k48 ?z_int ?z_range ?z_len ?z_list ?z_isinstance ?z_bool ?z_str ?z_dict ?z_tuple ?z_enumerate ?z_zip ?z_max ?z_min ?z_sorted ?z_set ?z_sum ?z_ValueError
    (case aC => k_is); (case Qpg => k_is); (case Qhd => k_is); (case Qpo => k_is)
    (case Qsa => k_is); (case Qty => k_is); (case Qmk => k_is); (case Qkc => k_is)
    (case Qn1 => k_is); (case Qn2 => k_is); (case Qhc => k_is); (case Qhg => k_is)
    (case Qht => k_is); (case Qhm => k_is); (case Qne => k_is); (case Qob => k_is)
    (case Qsf => k_is); (case aML => k_is); (case aTrialError => k_is); (case beTrialError => k_is)
    (case hdTrialError => k_is); (case tyTrialError => k_is); (case aBadPlan => k_is); (case beBadPlan => k_is)
    (case hdBadPlan => k_is); (case tyBadPlan => k_is); (case aTooLong => k_is); (case beTooLong => k_is)
    (case hdTooLong => k_is); (case tyTooLong => k_is); (case aTooMany => k_is); (case beTooMany => k_is)
    (case hdTooMany => k_is); (case tyTooMany => k_is); (case aBadText => k_is); (case beBadText => k_is)
    (case hdBadText => k_is); (case tyBadText => k_is); (case aBadEnds => k_is); (case beBadEnds => k_is)
    (case hdBadEnds => k_is); (case tyBadEnds => k_is); (case aBadTelling => k_is); (case beBadTelling => k_is)
    (case hdBadTelling => k_is); (case tyBadTelling => k_is); (case aBadVerdict => k_is); (case beBadVerdict => k_is)
    (case hdBadVerdict => k_is); (case tyBadVerdict => k_is); (case aBadCourse => k_is); (case beBadCourse => k_is)
    (case hdBadCourse => k_is); (case tyBadCourse => k_is); (case aNotStop => k_is); (case beNotStop => k_is)
    (case hdNotStop => k_is); (case tyNotStop => k_is); (case aBadLot => k_is); (case beBadLot => k_is)
    (case hdBadLot => k_is); (case tyBadLot => k_is); (case aBadShare => k_is); (case beBadShare => k_is)
    (case hdBadShare => k_is); (case tyBadShare => k_is); (case aBadPoly => k_is); (case beBadPoly => k_is)
    (case hdBadPoly => k_is); (case tyBadPoly => k_is); (case aBadFraction => k_is); (case beBadFraction => k_is)
    (case hdBadFraction => k_is); (case tyBadFraction => k_is); (case aBadDesign => k_is); (case beBadDesign => k_is)
    (case hdBadDesign => k_is); (case tyBadDesign => k_is); (case aHasGap => k_is); (case beHasGap => k_is)
    (case hdHasGap => k_is); (case tyHasGap => k_is); (case aUntold => k_is); (case beUntold => k_is)
    (case hdUntold => k_is); (case tyUntold => k_is); (case aTooDeep => k_is); (case beTooDeep => k_is)
    (case hdTooDeep => k_is); (case tyTooDeep => k_is); (case aBadPage => k_is); (case beBadPage => k_is)
    (case hdBadPage => k_is); (case tyBadPage => k_is); (case aRefused => k_is); (case beRefused => k_is)
    (case hdRefused => k_is); (case tyRefused => k_is); (case gaTooLong => k_is); (case ggTooLong => k_is)
    (case hcTooLong => k_is); (case hmTooLong => k_is); (case hvTooLong => k_is); (case sTooLong_TrialError => k_is)
    (case sTooLong_BadPlan => k_is); (case sTooLong_TooLong => k_is); (case sTooLong_TooMany => k_is); (case sTooLong_BadText => k_is)
    (case sTooLong_BadEnds => k_is); (case sTooLong_BadTelling => k_is); (case sTooLong_BadVerdict => k_is); (case sTooLong_BadCourse => k_is)
    (case sTooLong_NotStop => k_is); (case sTooLong_BadLot => k_is); (case sTooLong_BadShare => k_is); (case sTooLong_BadPoly => k_is)
    (case sTooLong_BadFraction => k_is); (case sTooLong_BadDesign => k_is); (case sTooLong_HasGap => k_is); (case sTooLong_Untold => k_is)
    (case sTooLong_TooDeep => k_is); (case sTooLong_BadPage => k_is); (case sTooLong_Refused => k_is); (case nTooLong_BadPlan => decide)
    (case nTooLong_TooMany => decide); (case nTooLong_BadText => decide); (case nTooLong_BadEnds => decide); (case nTooLong_BadTelling => decide)
    (case nTooLong_BadVerdict => decide); (case nTooLong_BadCourse => decide); (case nTooLong_NotStop => decide); (case nTooLong_BadLot => decide)
    (case nTooLong_BadShare => decide); (case nTooLong_BadPoly => decide); (case nTooLong_BadFraction => decide); (case nTooLong_BadDesign => decide)
    (case nTooLong_HasGap => decide); (case nTooLong_Untold => decide); (case nTooLong_TooDeep => decide); (case nTooLong_BadPage => decide)
    (case nTooLong_Refused => decide); (case gaBadPlan => k_is); (case ggBadPlan => k_is); (case hcBadPlan => k_is)
    (case hmBadPlan => k_is); (case hvBadPlan => k_is); (case sBadPlan_TrialError => k_is); (case sBadPlan_BadPlan => k_is)
    (case sBadPlan_TooLong => k_is); (case sBadPlan_TooMany => k_is); (case sBadPlan_BadText => k_is); (case sBadPlan_BadEnds => k_is)
    (case sBadPlan_BadTelling => k_is); (case sBadPlan_BadVerdict => k_is); (case sBadPlan_BadCourse => k_is); (case sBadPlan_NotStop => k_is)
    (case sBadPlan_BadLot => k_is); (case sBadPlan_BadShare => k_is); (case sBadPlan_BadPoly => k_is); (case sBadPlan_BadFraction => k_is)
    (case sBadPlan_BadDesign => k_is); (case sBadPlan_HasGap => k_is); (case sBadPlan_Untold => k_is); (case sBadPlan_TooDeep => k_is)
    (case sBadPlan_BadPage => k_is); (case sBadPlan_Refused => k_is); (case nBadPlan_TooLong => decide); (case nBadPlan_TooMany => decide)
    (case nBadPlan_BadText => decide); (case nBadPlan_BadEnds => decide); (case nBadPlan_BadTelling => decide); (case nBadPlan_BadVerdict => decide)
    (case nBadPlan_BadCourse => decide); (case nBadPlan_NotStop => decide); (case nBadPlan_BadLot => decide); (case nBadPlan_BadShare => decide)
    (case nBadPlan_BadPoly => decide); (case nBadPlan_BadFraction => decide); (case nBadPlan_BadDesign => decide); (case nBadPlan_HasGap => decide)
    (case nBadPlan_Untold => decide); (case nBadPlan_TooDeep => decide); (case nBadPlan_BadPage => decide); (case nBadPlan_Refused => decide)
    (case gaNotStop => k_is); (case ggNotStop => k_is); (case hcNotStop => k_is); (case hmNotStop => k_is)
    (case hvNotStop => k_is); (case sNotStop_TrialError => k_is); (case sNotStop_BadPlan => k_is); (case sNotStop_TooLong => k_is)
    (case sNotStop_TooMany => k_is); (case sNotStop_BadText => k_is); (case sNotStop_BadEnds => k_is); (case sNotStop_BadTelling => k_is)
    (case sNotStop_BadVerdict => k_is); (case sNotStop_BadCourse => k_is); (case sNotStop_NotStop => k_is); (case sNotStop_BadLot => k_is)
    (case sNotStop_BadShare => k_is); (case sNotStop_BadPoly => k_is); (case sNotStop_BadFraction => k_is); (case sNotStop_BadDesign => k_is)
    (case sNotStop_HasGap => k_is); (case sNotStop_Untold => k_is); (case sNotStop_TooDeep => k_is); (case sNotStop_BadPage => k_is)
    (case sNotStop_Refused => k_is); (case nNotStop_BadPlan => decide); (case nNotStop_TooLong => decide); (case nNotStop_TooMany => decide)
    (case nNotStop_BadText => decide); (case nNotStop_BadEnds => decide); (case nNotStop_BadTelling => decide); (case nNotStop_BadVerdict => decide)
    (case nNotStop_BadCourse => decide); (case nNotStop_BadLot => decide); (case nNotStop_BadShare => decide); (case nNotStop_BadPoly => decide)
    (case nNotStop_BadFraction => decide); (case nNotStop_BadDesign => decide); (case nNotStop_HasGap => decide); (case nNotStop_Untold => decide)
    (case nNotStop_TooDeep => decide); (case nNotStop_BadPage => decide); (case nNotStop_Refused => decide); (case xiNotStop => kernel_rfl)
    (case kzNotStop => k_is); (case nsuper => k_is); (case opq => k_is); (case tops => rfl)
    (case lcTooLong => k_is); (case rvTooLong => rfl); (case saTooLong => k_is); (case kpTooLong => k_is)
    (case fnTooLong => k_is); (case iCTooLong => k_is); (case tITooLong => k_is); (case flTooLong => k_is)
    (case cdTooLong => k_is); (case coTooLong => k_is); (case v2TooLong => rfl); (case feTooLong => first | rfl | decide +kernel)
    (case ceTooLong => k_is); (case mrTooLong => k_is); (case smTooLong => ks_is); (case lcBadPlan => k_is)
    (case rvBadPlan => rfl); (case saBadPlan => k_is); (case kpBadPlan => k_is); (case fnBadPlan => k_is)
    (case iCBadPlan => k_is); (case tIBadPlan => k_is); (case flBadPlan => k_is); (case cdBadPlan => k_is)
    (case coBadPlan => k_is); (case v2BadPlan => rfl); (case feBadPlan => first | rfl | decide +kernel); (case ceBadPlan => k_is)
    (case mrBadPlan => k_is); (case smBadPlan => ks_is); (case a0 => k_is); (case l0 => k_is)
    (case c0 => k_is); (case k0 => k_is); (case a1 => k_is); (case l1 => k_is)
    (case c1 => k_is); (case k1 => k_is); (case a2 => k_is); (case l2 => k_is)
    (case c2 => k_is); (case k2 => k_is); (case a3 => k_is); (case l3 => k_is)
    (case c3 => k_is); (case k3 => k_is); (case a4 => k_is); (case l4 => k_is)
    (case c4 => k_is); (case k4 => k_is); (case a5 => k_is); (case l5 => k_is)
    (case c5 => k_is); (case k5 => k_is); (case a6 => k_is); (case l6 => k_is)
    (case c6 => k_is); (case k6 => k_is); (case a7 => k_is); (case l7 => k_is)
    (case c7 => k_is); (case k7 => k_is); (case a8 => k_is); (case l8 => k_is)
    (case c8 => k_is); (case k8 => k_is); (case a9 => k_is); (case l9 => k_is)
    (case c9 => k_is); (case k9 => k_is); (case a10 => k_is); (case i10 => k_is)
    (case l10 => k_is); (case c10 => k_is); (case k10 => k_is); (case a11 => k_is)
    (case g11 => k_is); (case t11 => k_is); (case e11 => k_is); (case l11 => k_is)
    (case c11 => k_is); (case k11 => k_is); (case a12 => k_is); (case i12 => k_is)
    (case l12 => k_is); (case c12 => k_is); (case k12 => k_is); (case a13 => k_is)
    (case g13 => k_is); (case t13 => k_is); (case e13 => k_is); (case l13 => k_is)
    (case c13 => k_is); (case k13 => k_is); (case a14 => k_is); (case i14 => k_is)
    (case l14 => k_is); (case c14 => k_is); (case k14 => k_is); (case a15 => k_is)
    (case i15 => k_is); (case l15 => k_is); (case c15 => k_is); (case k15 => k_is)
    (case a16 => k_is); (case i16 => k_is); (case l16 => k_is); (case c16 => k_is)
    (case k16 => k_is); (case a17 => k_is); (case l17 => k_is); (case c17 => k_is)
    (case k17 => k_is); (case a18 => k_is); (case l18 => k_is); (case c18 => k_is)
    (case k18 => k_is); (case a19 => k_is); (case l19 => k_is); (case c19 => k_is)
    (case k19 => k_is); (case a20 => k_is); (case l20 => k_is); (case c20 => k_is)
    (case k20 => k_is); (case a21 => k_is); (case l21 => k_is); (case c21 => k_is)
    (case k21 => k_is); (case a22 => k_is); (case l22 => k_is); (case c22 => k_is)
    (case k22 => k_is); (case a23 => k_is); (case l23 => k_is); (case c23 => k_is)
    (case k23 => k_is); (case a24 => k_is); (case l24 => k_is); (case c24 => k_is)
    (case k24 => k_is); (case a25 => k_is); (case l25 => k_is); (case c25 => k_is)
    (case k25 => k_is); (case a26 => k_is); (case l26 => k_is); (case c26 => k_is)
    (case k26 => k_is); (case a27 => k_is); (case l27 => k_is); (case c27 => k_is)
    (case k27 => k_is); (case a28 => k_is); (case l28 => k_is); (case c28 => k_is)
    (case k28 => k_is); (case a29 => k_is); (case i29 => k_is); (case l29 => k_is)
    (case c29 => k_is); (case k29 => k_is); (case a30 => k_is); (case l30 => k_is)
    (case c30 => k_is); (case k30 => k_is); (case a31 => k_is); (case l31 => k_is)
    (case c31 => k_is); (case k31 => k_is); (case a32 => k_is); (case l32 => k_is)
    (case c32 => k_is); (case mP32 => exact .head _); (case tI32 => kernel_rfl); (case nP32 => kernel_rfl)
    (case k32 => k_is); (case a33 => k_is); (case l33 => k_is); (case c33 => k_is)
    (case k33 => k_is); (case a34 => k_is); (case i34 => k_is); (case l34 => k_is)
    (case c34 => k_is); (case k34 => k_is); (case a35 => k_is); (case l35 => k_is)
    (case c35 => k_is); (case k35 => k_is); (case a36 => k_is); (case l36 => k_is)
    (case c36 => k_is); (case k36 => k_is); (case a37 => k_is); (case l37 => k_is)
    (case c37 => k_is); (case k37 => k_is); (case a38 => k_is); (case l38 => k_is)
    (case c38 => k_is); (case k38 => k_is); (case a39 => k_is); (case l39 => k_is)
    (case c39 => k_is); (case k39 => k_is); (case a40 => k_is); (case l40 => k_is)
    (case c40 => k_is); (case k40 => k_is); (case a41 => k_is); (case l41 => k_is)
    (case c41 => k_is); (case k41 => k_is); (case a42 => k_is); (case l42 => k_is)
    (case c42 => k_is); (case k42 => k_is); (case a43 => k_is); (case l43 => k_is)
    (case c43 => k_is); (case k43 => k_is); (case a44 => k_is); (case l44 => k_is)
    (case c44 => k_is); (case k44 => k_is); (case a45 => k_is); (case l45 => k_is)
    (case c45 => k_is); (case k45 => k_is); (case a46 => k_is); (case l46 => k_is)
    (case c46 => k_is); (case k46 => k_is); (case a47 => k_is); (case l47 => k_is)
    (case c47 => k_is); (case k47 => k_is); (case a48 => k_is); (case l48 => k_is)
    (case c48 => k_is); (case k48 => k_is); (case z_int => k_is); (case z_range => k_is)
    (case z_len => k_is); (case z_list => k_is); (case z_isinstance => k_is); (case z_bool => k_is)
    (case z_str => k_is); (case z_dict => k_is); (case z_tuple => k_is); (case z_enumerate => k_is)
    (case z_zip => k_is); (case z_max => k_is); (case z_min => k_is); (case z_sorted => k_is)
    (case z_set => k_is); (case z_sum => k_is); (case z_ValueError => k_is)

