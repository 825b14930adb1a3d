import PyProof.Rows.All
import Wide.All
import OpenK.AllK
import Wide.FinOn
import HandS.ForMost
import HandS.ForExc
import HandS.Wide
import HandS.EndBits
import HandS.CallSlots
import HandS.IsInst
import HandS.Defaults
import HandS.Comp
import HandS.List
import HandS.HotCalls
import HandS.Lambda
import HandS.Property
import HandS.WordsExc
import HandS.Conv
import HandS.Codes
import HandS.Zip
import HandS.Text
import HandS.ExcInit
import HandS.ExcSuper
import HandS.ExcCtx
import HandS.ExcIs
import HandS.ExcField
import HandS.FStr
import HandS.FStrTup
import KE.KExcSuper
import KE.KExcIs
import HandS.Small
import HandS.More
import HandS.SetFor
import HandS.Strs
import HandS.Deep
import HandS.SortInts
import KE.SortData
import KE.SortKeyHeap
import KE.KSortKey
import KE.KLam
import HandS.EndTab
import KE.KNestM
import HandS.TupAny
import PyProof.Draws
import PyProof.EnumMake
import HandS.Dict
import KE.KDictDisplayH
import PySem.Challenge.RW_onetelling_k21_listing_of_gapless_plans
set_option Elab.async false
set_option linter.all false
set_option maxRecDepth 100000
set_option maxHeartbeats 4000000
/-! Zh: lists walked while an exception is handled (its context is None): iteration, comprehension, sum. -/
namespace Zh
open PySem PySem.Spec PyProof.Rows L2 HotX L2H
section
variable {prog : Program} {w : World} {A : Around} {E : Value → Shared → Prop} {s : Shared} {x1 : Addr}
/-- StopIteration is made and raised: the handled exception becomes its context -/
theorem stop_hot {α : Type} {Q : α → Shared → Prop} {E' : Value → Shared → Prop} (hot : HotAt A x1 s.heap)
    (k : ∀ a h', (∀ b o, s.heap.get? b = some o → h'.get? b = some o) → ({ s with heap := h' } : Shared).TypeIs (.ref a) "StopIteration" → E' (.ref a) { s with heap := h' }) :
    wpAny (model prog w) A (newExc (.type "StopIteration") [] >>= fun e => (raiseNew e : Sem α)) Q E' s := by
  obtain ⟨hh, o1, vs1, g1, d1, c1⟩ := hot
  refine wpAny_bind ?_
  simp only [newExc, newTuple]
  refine wpAny_bind (wpAny_newObj_type (wpAny_bind (m := firstArgMember _ _) (wpAny_of_eq (a := Value.none) (by first | rfl | (simp only [firstArgMember]; rfl)) (wpAny_newObj_type ?_ (by size_fits)))) (by size_fits))
  have up := fun (b : Addr) (o : Obj) (z : s.heap.get? b = some o) => Heap.get?_push_of_some { cls := .type "tuple", data := .seq ([] : List Value).toArray } z
  refine raiseNew_hot ⟨hh, o1, vs1, Heap.get?_push_of_some _ (up _ _ g1), d1, c1⟩ (Nat.ne_of_lt (Heap.lt_size (up _ _ g1))) (Heap.get?_push_size _ rfl) rfl (by first | (simp; done) | (simp; omega)) ?_
  refine k _ _ (fun b o z => ?_) ⟨_, Heap.get?_update_self _ (Heap.get?_push_size _ rfl) rfl, rfl⟩
  rw [Heap.get?_update_other _ _ (Nat.ne_of_gt (Heap.lt_size (up _ _ z)))]
  exact Heap.get?_push_of_some _ (up _ _ z)
/-- an iterator's state behind its end -/
theorem hot_upd {it : Addr} {f : Obj → Obj} {h : Heap} (hot : HotAt A x1 h) (ne : x1 ≠ it) : HotAt A x1 (h.update it f) := by
  obtain ⟨hh, o1, vs1, g1, d1, c1⟩ := hot
  exact ⟨hh, o1, vs1, (Heap.get?_update_other _ _ ne.symm).trans g1, d1, c1⟩
theorem list_end_hot {it l : Addr} {i : Nat} {items : Array Value} {Q : Option Value → Shared → Prop} (hot : HotAt A x1 s.heap) (ne : x1 ≠ it) (hit : s.heap.IsListIter it l i) (hl : s.heap.IsList l items) (hend : items[i]? = none)
    (k : ∀ h', (∀ b o, b ≠ it → s.heap.get? b = some o → h'.get? b = some o) → Q none { s with heap := h' }) : wpAny (model prog w) A (pyNext (.ref it)) Q E s := by
  obtain ⟨o, hob, hcl, hdt⟩ := id hit
  obtain ⟨ol, hlo, _, cap, hld⟩ := hl
  unfold pyNext
  refine wpAny_bind (wpAny_attempt (wpAny_callSpecial?_slot (name := Str.ofString "__next__") hit.typeIs slot_listiter_next (wpAny_call_entry slot_listiter_next hit.typeIs entry_listiter_next ?_ (args_listiter_next _))))
  refine wpAny_bind (m := field (.ref it) 0) (wpAny_field hob hdt (x := .ref l) rfl ?_)
  rw [if_neg (show ¬ ((Value.ref l == Value.none) = true) from Bool.false_ne_true)]
  refine wpAny_bind (m := field (.ref it) 1) (wpAny_field hob hdt (x := .int i 0) rfl (wpAny_bind (m := seqItems? (.ref l)) (wpAny_seqItems hlo hld ?_)))
  simp only [Int.toNat_natCast, hend]
  refine wpAny_bind (wpAny_rule (wpAny_bind (wpAny_setField hob hdt (by simp) ?_)))
  refine stop_hot (hot_upd hot ne) fun a h' kk ty => ?_
  refine wpAny_bind (wpAny_isInstance (T := "StopIteration") (b := true) ty isSubtype_stop ?_)
  exact wpAny_pure (k _ fun b o nb z => kk b o ((Heap.get?_update_other _ _ (fun e => nb e.symm)).trans z))
end
section
variable {P : Program} {w : World} {K : PySem.W.Frag} {tg : Expr}
theorem one_cell {h : Heap} {it b : Addr} {o : Obj} {vs : Array Value} (hb : b ∈ [it]) (e : h.get? it = some o) (d : o.data = .fields vs) : ∃ o, h.get? b = some o ∧ ∀ v, o.data ≠ .cell v := by
  cases List.mem_singleton.mp hb
  exact ⟨o, e, fun v z => by rw [d] at z; cases z⟩
theorem turn_listH (a it : Addr) : TurnH P w K tg (Itl K a) [it] it (fun i h => h.IsListIter it a i) where
  mem := List.mem_singleton.mpr rfl
  obj := fun i h ⟨o, e, _, d⟩ b hb => one_cell hb e d
  keep := fun i h hp sti k => sti.at fun o e => k it (List.mem_singleton.mpr rfl) o e
  item := by
    rintro X rfl rfl rfl hc i pins s σ H E I hf sti ⟨xs, x, hq, hx⟩
    obtain ⟨its, rv, p, _⟩ := I.list hq
    obtain ⟨uv, hat, rat⟩ := rv.get hx
    have F := hf it (List.mem_singleton.mpr rfl)
    refine wpAny_pyNext_list_item sti p.isList (x := uv) (by simpa using hat) fun hp st' sb => ?_
    have J : Inv X pins σ H { s with heap := hp } := I.turned (t' := s.toks) (fun b o nb z => (sb.2 b nb).trans z) F.1 F.2.1 F.2.2.2.1 F.2.2.2.2.1 F.2.2.2.2.2
    obtain ⟨o, e, c, d⟩ := id st'
    exact ⟨uv, rfl, go_of (s := { s with heap := hp }) e c d (by decide) ⟨x, H, J, rat, ⟨rfl, fun ys hy => by rw [I.list_inj hy hq]; exact hx⟩, st', fun b hb => (hf b hb).1⟩⟩
  done := by
    rintro X rfl rfl rfl hc i pins s σ H E I hf sti ⟨xs, hq, hx⟩
    obtain ⟨its, rv, p, _⟩ := I.list hq
    have F := hf it (List.mem_singleton.mpr rfl)
    have hl := rv.length
    obtain ⟨q, hq1, hq2⟩ := hc
    have hot : HotAt X.A q.1 s.heap := by
      obtain ⟨hh, v1, e1, c1⟩ := hq1
      exact ⟨hh, q.2, v1, (I.pin q (List.mem_append_left _ hq2)).1, e1, c1⟩
    exact list_end_hot hot (F.2.2.2.2.2 q (List.mem_append_left _ hq2)) sti p.isList (by simp; omega) fun hp eb => ⟨rfl, I.turned (t' := s.toks) eb F.1 F.2.1 F.2.2.2.1 F.2.2.2.2.1 F.2.2.2.2.2⟩
  self := fun _ _ _ _ _ sti h => wpAny_pyIter_listiter sti h
end
section
variable {X : Cx} {tg l : Expr} {tl : TE}
theorem new_it {pins : List (Addr × Obj)} {σ : L2.St} {H : Hp} {s : Shared} (I : Inv X pins σ H s) : ∀ b ∈ [s.heap.objs.size], FpOk X pins H b := fun b hb => by
  cases List.mem_singleton.mp hb
  exact I.fpOk (Nat.le_refl _) (I.hok.fresh (Nat.le_refl _))
theorem pi_listH (hl : PE X l tl) : PIH X tg l (iList X.K tl) := by
  refine ⟨fun pins s σ H R I h => thn (hl.run pins s σ H _ I h) fun v s1 hh => ?_⟩
  obtain ⟨x, H1, I1, r1, a, rfl, ⟨xs, hq⟩, q⟩ := hh
  cases r1
  obtain ⟨its, rv, p, _⟩ := I1.list hq
  exact wpAny_pyIter_list p.isList ⟨s1.heap.objs.size, [s1.heap.objs.size], _, _, H1, rfl, I1.kept (t' := s1.toks) fun b o e => Heap.get?_push_of_some _ e, turn_listH a _, ⟨_, Heap.get?_push_size _ rfl, rfl, rfl⟩, new_it I1, q⟩
end
/-! ### sum -/
section
variable {prog : Program} {w : World} {A : Around} {E : Value → Shared → Prop} {s : Shared} {x1 l : Addr}
theorem walks_hot {I ax : Addr} (hh : A.handled = some (.ref x1)) (hne : ax ≠ I) (hx : x1 ≠ I) (items : Array Value) :
    Walks prog w A I [I, ax, x1] [I] items.size (fun i v => items[i]? = some v) (fun i h => h.IsListIter I ax i ∧ h.IsList ax items ∧ HotAt A x1 h) where
  sub := fun b hb => by cases List.mem_singleton.mp hb; exact List.mem_cons_self
  frame := fun _ _ _ st hk => by
    obtain ⟨_, o1, vs1, g1, d1, c1⟩ := st.2.2
    exact ⟨st.1.at fun o e => hk I (by simp) o e, st.2.1.at fun o e => hk ax (by simp) o e, hh, o1, vs1, hk x1 (by simp) _ g1, d1, c1⟩
  item := fun i s Q E hi st hQ => by
    refine wpAny_pyNext_list_item st.1 st.2.1 (x := items[i]) (by simp [hi]) fun h' hit' hs' => ?_
    obtain ⟨_, o1, vs1, g1, d1, c1⟩ := st.2.2
    exact hQ _ h' s.toks (by simp [hi]) ⟨hit', st.2.1.extBut hs'.extBut hne, hh, o1, vs1, (hs'.2 x1 hx).trans g1, d1, c1⟩ fun b o hb e => hs'.extBut b o (fun h => hb (by simp [h])) e
  done := fun s Q E st hQ => list_end_hot st.2.2 hx st.1 st.2.1 (by simp) fun h' he' => hQ h' s.toks fun b o hb e => he' b o (fun h => hb (by simp [h])) e
  self := fun _ _ _ _ st hQ => wpAny_pyIter_listiter st.1 hQ
theorem sum_hot {xs : Array (Int × Tok)} {Q : Value → Shared → Prop} (hot : HotAt A x1 s.heap) (hl : s.heap.IsList l (intItems xs))
    (k : ∀ h' tk t', (∀ b o, s.heap.get? b = some o → h'.get? b = some o) → Q (.int (preSum (numAt xs) xs.size) t') { s with heap := h', toks := tk }) : wpAny (model prog w) A (call (.builtin "sum") [.ref l]) Q E s := by
  obtain ⟨hh, o1, vs1, g1, d1, c1⟩ := hot
  refine call_sum_walkG (iter_intList hl fun s₂ e st hfp hlI => ?_)
  subst e
  have lt := Heap.lt_size g1
  refine ⟨_, [s.heap.objs.size, l, x1], [s.heap.objs.size], _, _, _, numAt xs, rfl, walks_hot (A := A.in1) hh hlI (Nat.ne_of_lt lt) (intItems xs), ⟨st.1, st.2, hh, o1, vs1, Heap.get?_push_of_some _ g1, d1, c1⟩, fun b hb => ?_, (fun _ _ => intItems_at), fun h' tk t' hk => ?_⟩
  · rcases List.mem_cons.mp hb with rfl | hb
    · exact hfp _ (by simp)
    · rcases List.mem_cons.mp hb with rfl | hb
      · exact hfp _ (by simp)
      · cases List.mem_singleton.mp hb
        exact Nat.lt_of_lt_of_le lt (by show _ ≤ (s.heap.push _).objs.size; rw [Heap.size_push]; exact Nat.le_succ _)
  · have := k h' tk t' (old_kept hk)
    simpa [intItems] using this
end
section
variable {X : Cx}
theorem cr_sumH (hc : HotC X) : CallR X (.builtin "sum") (rSum X.K) := by
  intro pins s σ H vs us Q I r h
  obtain ⟨a, ns, rfl, hs, q⟩ := h
  obtain ⟨its, rv, hl, _⟩ := I.list hs
  obtain ⟨x1, hot⟩ := hc.at I
  rw [Vals.ref1 r]
  obtain ⟨xs, e⟩ := rv.ints.allInts.items
  have hn : numsOf (intItems xs).toList = ns := by rw [← e]; exact rv.ints.numsOf
  rw [nums_intItems] at hn
  have hl' := hl.isList
  rw [e] at hl'
  refine sum_hot hot hl' fun h' tk t' hk => ⟨.int _, H, I.kept hk, ⟨t', ?_⟩, q⟩
  rw [preSum_eq, List.take_of_length_le (by simp), hn]
end
/-! ### list comprehensions -/
section
variable {X : Cx}
/-- a block's state with one pin more -/
theorem addPin {Y : Cx} {pins : List (Addr × Obj)} {σ : L2.St} {H : Hp} {s : Shared} {p : Addr × Obj} (I : Inv Y pins σ H s) (g : s.heap.get? p.1 = some p.2) (n : H p.1 = none) (nl : p.1 ≠ Y.env.locals) (nf : p.1 ∉ Y.fs) (nc : ∀ v, p.2.data ≠ .cell v) :
    Inv Y (p :: pins) σ H s := ⟨I.ok, I.os, I.bare, I.base, I.loc, I.cell, I.free, I.freeC, fun q hq => by
      rcases List.mem_append.mp hq with z | z
      · exact I.pin q (List.mem_append_left _ z)
      · rcases List.mem_cons.mp z with z | z
        · subst z; exact ⟨g, n, nl, nf, nc⟩
        · exact I.pin q (List.mem_append_right _ z), I.hok, I.len⟩
/-- the pin is one of the context's -/
theorem hotB {Y : Cx} {σ : L2.St} {H : Hp} {s : Shared} {p : Addr × Obj} {pins : List (Addr × Obj)} (I : Inv Y (p :: pins) σ H s) : Inv { Y with pn := p :: Y.pn } pins σ H s :=
  ⟨⟨I.ok.mod, I.ok.kind, I.ok.glob, I.ok.blt, I.ok.above, I.ok.inj, I.ok.has, I.ok.cab, I.ok.hd, I.ok.frames, I.ok.stk, I.ok.exf, I.ok.bs, I.ok.bsz, I.ok.noex, I.ok.exfs, I.ok.funs, I.ok.frf⟩, I.os, I.bare, I.base, I.loc, I.cell, I.free, I.freeC, fun q hq => I.pin q (by
    rcases List.mem_append.mp hq with z | z
    · rcases List.mem_cons.mp z with z | z
      · subst z; exact List.mem_append_right _ List.mem_cons_self
      · exact List.mem_append_left _ z
    · exact List.mem_append_right _ (List.mem_cons_of_mem _ z)), I.hok, I.len⟩
theorem hotA {Y : Cx} {σ : L2.St} {H : Hp} {s : Shared} {p : Addr × Obj} {pins : List (Addr × Obj)} (I : Inv { Y with pn := p :: Y.pn } pins σ H s) : Inv Y (p :: pins) σ H s :=
  ⟨⟨I.ok.mod, I.ok.kind, I.ok.glob, I.ok.blt, I.ok.above, I.ok.inj, I.ok.has, I.ok.cab, I.ok.hd, I.ok.frames, I.ok.stk, I.ok.exf, I.ok.bs, I.ok.bsz, I.ok.noex, I.ok.exfs, I.ok.funs, I.ok.frf⟩, I.os, I.bare, I.base, I.loc, I.cell, I.free, I.freeC, fun q hq => I.pin q (by
    rcases List.mem_append.mp hq with z | z
    · exact List.mem_append_left _ (List.mem_cons_of_mem _ z)
    · rcases List.mem_cons.mp z with z | z
      · subst z; exact List.mem_append_left _ List.mem_cons_self
      · exact List.mem_append_right _ z), I.hok, I.len⟩
/-- lc_core's fellow where an exception is handled; the iterator's end wants its context's exception pinned in the block -/
theorem lc_hot {pins : List (Addr × Obj)} {s : Shared} {σ : L2.St} {H : Hp} {Q : VK} {elt tg iter : Expr} {ifs : List Expr} {scope : Scope} {own : List (Str × Nat)} {pos pos' : Pos} {wi : TI} {g : TG} {tt : TT} {te : TE} {use : Option (Value → Sem Unit)} {Qf : Value → Shared → Prop}
    (hot : HotC X) (nd : X.N.Nodup) (I : Inv X pins σ H s) (hi : PIH X tg iter wi) (ok : BlkOk X.N X.env.scope scope own)
    (hg : ∀ s H C cl fp, PG (X.blk s H scope (compEnvC scope cl C X.env) fp) tg g) (ht : ∀ s H C cl fp, PTs (X.blk s H scope (compEnvC scope cl C X.env) fp) ifs tt) (he : ∀ s H C cl fp, PE (X.blk s H scope (compEnvC scope cl C X.env) fp) elt te)
    (hs : ∀ x, foldedSetIterable iter X.env x = pure x) (h : tLc wi g tt te (own.map (·.2)) σ H Q)
    (fin : ∀ D C s' m H', Inv X pins σ H' s' → Q (.ref D) H' → s'.heap.Ns C m → FpOk X pins H' C → compPost (model X.prog X.w) X.A X.xe use Qf (.ref D) C (.ok .next) s') :
    wpAny (model X.prog X.w) X.A (comprehension (.ListComp elt [⟨tg, iter, ifs, 0⟩] scope pos) scope X.env pos' (newList []) false (eval iter X.env) use) Qf X.xe s := by
  obtain ⟨p, hp1, hp2⟩ := hot
  refine wpAny_comprehension_free (use := use) rfl hs (closure_ok fun y hy e => (ok.free y hy e).elim (fun k => I.ok.has _ (.inl k)) fun k => I.ok.has _ (.inr k)) ok.kind (fun y hy e => by rw [ok.uniq y hy, e])
    (thn (hi.run pins s σ H _ I h) fun iv s1 hx => thn hx fun itv sB h2 => ?_)
  obtain ⟨it, fp, tn, J, HB, rfl, IB, T, tnB, fB, q⟩ := h2
  refine wpAny_newObj_type (newEnv_comp ?_) (by show 0 ≤ sizeLine; decide)
  obtain ⟨D, hD⟩ : ∃ D, D = sB.heap.objs.size := ⟨_, rfl⟩
  rw [← hD]
  have dn : HB D = none := IB.hok.fresh (Nat.le_of_eq hD.symm)
  obtain ⟨W, ⟨m0, w0⟩, step1⟩ := q D dn
  have szf : ∀ b ∈ fp, b < sB.heap.objs.size := fun b hb => by
    obtain ⟨o, e, _⟩ := T.obj _ _ tnB b hb
    exact Heap.lt_size e
  -- behind the new list
  have up3 : ∀ b o, sB.heap.get? b = some o → (sB.heap.push { cls := .type "list", data := .seq ([] : List Value).toArray }).get? b = some o := fun b o e => Heap.get?_push_of_some _ e
  have IC : Inv X pins σ (upd HB D (.lst [])) { sB with heap := sB.heap.push { cls := .type "list", data := .seq ([] : List Value).toArray } } :=
    IB.laid (t' := sB.toks) up3 (Nat.le_of_eq hD.symm) ⟨Nat.zero_le _, [], 0, .nil, by rw [hD]; exact Heap.get?_push_size _ rfl⟩
  have st3 := T.keep _ _ _ tnB fun b _ o e => up3 b o e
  have fC : ∀ b ∈ fp, FpOk X pins (upd HB D (.lst [])) b ∧ b < (sB.heap.push { cls := .type "list", data := .seq ([] : List Value).toArray }).objs.size := fun b hb =>
    ⟨⟨by rw [upd_ne (by rw [hD]; exact Nat.ne_of_lt (szf b hb))]; exact (fB b hb).1, (fB b hb).2⟩, by rw [Heap.size_push]; exact Nat.lt_succ_of_lt (szf b hb)⟩
  generalize eqC : ({ sB with heap := sB.heap.push { cls := .type "list", data := .seq ([] : List Value).toArray } } : Shared) = sC at IC
  have h3 : sB.heap.push { cls := .type "list", data := .seq ([] : List Value).toArray } = sC.heap := by rw [← eqC]
  rw [h3] at st3 fC
  have B0 := block_start IC ok nd fC
  have gB := hg sC (upd HB D (.lst [])) sC.heap.objs.size (cellsFrom (sC.heap.objs.size + 1) scope.names (cloFrom X.env.cells scope.names [])) fp
  have tB := ht sC (upd HB D (.lst [])) sC.heap.objs.size (cellsFrom (sC.heap.objs.size + 1) scope.names (cloFrom X.env.cells scope.names [])) fp
  have eB := he sC (upd HB D (.lst [])) sC.heap.objs.size (cellsFrom (sC.heap.objs.size + 1) scope.names (cloFrom X.env.cells scope.names [])) fp
  show codeAny _ _ (.compStart (.ListComp elt [⟨tg, iter, ifs, 0⟩] scope pos) 0 (.ref it) (.ref D) (compEnvC scope (cellsFrom (sC.heap.objs.size + 1) scope.names (cloFrom X.env.cells scope.names [])) sC.heap.objs.size X.env)) (compPost (model X.prog X.w) X.A X.xe use Qf (.ref D) sC.heap.objs.size) { sC with heap := pushCells (sC.heap.push { cls := .type "dict", data := .dict #[] }) scope.names }
  have nofp : ∀ b ∈ fp, (upd HB D (.lst [])) b = none := fun b hb => (fC b hb).1.1
  generalize hce : compEnvC scope (cellsFrom (sC.heap.objs.size + 1) scope.names (cloFrom X.env.cells scope.names [])) sC.heap.objs.size X.env = cenv at B0 gB tB eB ⊢
  have locE : cenv.locals = sC.heap.objs.size := by subst hce; rfl
  generalize upd HB D (.lst []) = HC at IC B0 gB tB eB w0 nofp fC
  have up4 : ∀ b o, sC.heap.get? b = some o → (pushCells (sC.heap.push { cls := .type "dict", data := .dict #[] }) scope.names).get? b = some o := fun b o e => pushCells_keeps _ _ _ _ (Heap.get?_push_of_some _ e)
  have P3 := IC.pin p (List.mem_append_left _ hp2)
  have ID : Inv (X.blk sC HC scope cenv fp) [p] (wipe σ (own.map (·.2))) HC { sC with heap := pushCells (sC.heap.push { cls := .type "dict", data := .dict #[] }) scope.names } :=
    addPin B0 (up4 _ _ P3.1) P3.2.1 (by show p.1 ≠ cenv.locals; rw [locE]; exact Nat.ne_of_lt (Heap.lt_size P3.1)) (fun hm => (List.mem_cons.mp (IC.stkSub p.1 hm)).elim P3.2.2.1 P3.2.2.2.1) P3.2.2.2.2
  have st4 := T.keep _ _ _ st3 fun b _ o e => up4 b o e
  generalize eqD : ({ sC with heap := pushCells (sC.heap.push { cls := .type "dict", data := .dict #[] }) scope.names } : Shared) = sD at ID ⊢
  have st5 : tn 0 sD.heap := by rw [← eqD]; exact st4
  have pne : ∀ b ∈ fp, p.1 ≠ b := fun b hb => (fB b hb).2.2.2.2.2 p (List.mem_append_left _ hp2)
  have hotY : HotC { X.blk sC HC scope cenv fp with pn := p :: (X.blk sC HC scope cenv fp).pn } := ⟨p, hp1, List.mem_cons_self⟩
  -- the iterator's objects, seen from the block
  have FY : ∀ {σ' : L2.St} {H' : Hp} {s' : Shared}, Inv (X.blk sC HC scope cenv fp) [p] σ' H' s' → (∀ b ∈ fp, H' b = none) → ∀ b ∈ fp, FpOk (X.blk sC HC scope cenv fp) [p] H' b := fun {σ' H' s'} J n b hb =>
    ⟨n b hb, (J.ok.exf b hb).1, J.ok.exfs b hb, .inl hb, (J.ok.exf b hb).2, fun q hq => by cases List.mem_singleton.mp (show q ∈ [p] from hq); exact pne b hb⟩
  have FZ : ∀ {H' : Hp}, (∀ b ∈ fp, FpOk (X.blk sC HC scope cenv fp) [p] H' b) → ∀ b ∈ fp, FpOk { X.blk sC HC scope cenv fp with pn := p :: (X.blk sC HC scope cenv fp).pn } [] H' b := fun F b hb =>
    ⟨(F b hb).1, (F b hb).2.1, (F b hb).2.2.1, (F b hb).2.2.2.1, (F b hb).2.2.2.2.1, fun q hq => (F b hb).2.2.2.2.2 q hq⟩
  have loop : codeAny (model X.prog X.w) X.A (.compLoop (.ListComp elt [⟨tg, iter, ifs, 0⟩] scope pos) 0 (.ref it) (.ref D) cenv) (compPost (model X.prog X.w) X.A X.xe use Qf (.ref D) sC.heap.objs.size) sD := by
    refine compLoop_any (fun n s' => ∃ i H', Inv (X.blk sC HC scope cenv fp) [p] (wipe σ (own.map (·.2))) H' s' ∧ tn i s'.heap ∧ (∀ b ∈ fp, H' b = none) ∧ W i n H') (fun n s5 hI => ?_) m0 ⟨0, HC, ID, st5, nofp, w0⟩
    obtain ⟨i, H5, I5, t5, nE, wE⟩ := hI
    rcases step1 i n H5 wE with ⟨atEnd, qq⟩ | ⟨go, Nx, hnx, step⟩
    · refine thnF (T.done { X.blk sC HC scope cenv fp with pn := p :: (X.blk sC HC scope cenv fp).pn } rfl rfl rfl hotY i [] s5 _ H5 (fun _ _ => False) (hotB I5) (FZ (FY I5 nE)) t5 atEnd) fun r s6 hr => ?_
      obtain ⟨rfl, I6'⟩ := hr
      have I6 := hotA I6'
      have IG : Inv X pins σ H5 s6 := IC.call' (ch := fp) I6.os I6.base I6.hok I6.bare fun b hb => ⟨(fC b hb).1.2.2.2.1, (fC b hb).1.2.1, (fC b hb).1.2.2.2.2.1, (fC b hb).1.2.2.2.2.2⟩
      have nEnv : H5 sC.heap.objs.size = none := by
        have z : H5 cenv.locals = none := I6.free
        rw [locE] at z
        exact z
      obtain ⟨m, hn, _⟩ := I6.loc
      have hn : s6.heap.Ns sC.heap.objs.size m := by rw [← locE]; exact hn
      exact fin D sC.heap.objs.size s6 m H5 IG qq hn (IC.fpOk (Nat.le_refl _) nEnv)
    · refine thnF (T.item { X.blk sC HC scope cenv fp with pn := p :: (X.blk sC HC scope cenv fp).pn } rfl rfl rfl hotY i [] s5 _ H5 (fun _ _ => False) (hotB I5) (FZ (FY I5 nE)) t5 go) fun r s6 hr => ?_
      obtain ⟨u, rfl, h6⟩ := hr
      refine thnF h6 fun _ s7 h7 => ?_
      obtain ⟨x, H7, I7', r7, y7, t7, n7⟩ := h7
      have IG := hotA I7'
      have J7 := IG.pinned (FY IG n7) (T.obj _ _ t7)
      refine thnF (gB.run _ s7 _ H7 x u _ J7 r7 (step x H7 y7)) fun _ s8 h8 => ?_
      obtain ⟨σ8, H8, I8, hw8, q8⟩ := h8
      refine thnF (tB.run _ s8 σ8 H8 _ I8 q8) fun b s9 h9 => ?_
      obtain ⟨H9, I9, q9⟩ := h9
      -- the turn's end
      have back : ∀ {s' : Shared} {H' : Hp}, Inv (X.blk sC HC scope cenv fp) ([p] ++ pinsAt fp s7.heap) σ8 H' s' → Nx H' → ∃ m, m < n ∧ ∃ i H', Inv (X.blk sC HC scope cenv fp) [p] (wipe σ (own.map (·.2))) H' s' ∧ tn i s'.heap ∧ (∀ b ∈ fp, H' b = none) ∧ W i m H' := fun {s' H'} J nx => by
        obtain ⟨m', hm, w'⟩ := hnx H' nx
        have at_ : ∀ b ∈ fp, ∀ o, s7.heap.get? b = some o → s'.heap.get? b = some o ∧ H' b = none := fun b hb o e =>
          have z := J.pin (b, o) (List.mem_append_right _ (List.mem_append_right _ (mem_pinsAt hb e)))
          ⟨z.1, z.2.1⟩
        refine ⟨m', hm, i + 1, H', (J.unpinned (pins := [p])).weak (by rw [← hw8, wipe_length]) (fun j v e => ?_), T.keep _ _ _ t7 fun b hb o e => (at_ b hb o e).1, fun b hb => ?_, w'⟩
        · rw [← hw8] at e
          exact (wipe_some e).1
        · obtain ⟨o, e, _⟩ := T.obj _ _ t7 b hb
          exact (at_ b hb o e).2
      cases b with
      | false =>
        simp only [Bool.false_eq_true, if_false] at q9 ⊢
        exact back I9 q9
      | true =>
        simp only [if_true] at q9 ⊢
        refine thnF (eB.run _ s9 σ8 H9 _ I9 q9) fun z s10 h10 => ?_
        obtain ⟨yv, H10, I10, r10, acc, hD10, hz10, nx⟩ := h10
        exact app_ok (X := X.blk sC HC scope cenv fp) I10 hD10 hz10 r10 fun s11 I11 => back I11 nx
  exact codeAny_compStart_list loop (T.self X.A 0 _ _ _ st5 loop)
end
end Zh
set_option Elab.async false
set_option linter.all false
set_option maxRecDepth 100000
set_option maxHeartbeats 4000000
/-! Z0: plain data D, how it lies in the abstract heap (Rep), a frame's slots (Sl, EnvOk), how the heap goes on (Stp). -/
namespace Z
open PySem L2
/-- the tables of code objects that lambdas write at -/
class TabsT where
  T : List (Addr × Str)
variable [tabsI : TabsT]
structure TOk (G H : Hp) : Prop where
  tb : LamX.Tabs tabsI.T H
  gn : ∀ x ∈ tabsI.T, G x.1 = none
  tg : ∀ a vs, H a = some (.tup vs) → G a = some (.tup vs)
theorem TOk.ne {G H : Hp} (t : TOk G H) {x : Addr × Str} (hx : x ∈ tabsI.T) {p : Addr} (h : ∀ ps, H p ≠ some (.tbl ps)) : x.1 ≠ p := fun z => by
  obtain ⟨ps, h1, _⟩ := t.tb x hx
  rw [z] at h1
  exact h ps h1
/-- no code object -/
def nExt : HO → Prop
  | .ext _ => False
  | _ => True

inductive D where
  | non | bl (b : Bool) | int (i : Int) | str (x : Str)
  | tup (ds : List D) | lst (ds : List D)
  | obj (C : Addr) (ns : List Str) (ds : List D)
  | cls (a : Addr) | ty (n : String)
  | sto (cells : List Int)
  | scr (ns : List Int)
  | exc (a : Addr) (d : Option Addr) (ns : List Str) (ds : List D)
  | dic (ks : List (List Key)) (ds : List D)

instance : Inhabited D := ⟨.non⟩

abbrev kS (x : Str) : Key := Sum.inr x
/-- the law's store: its six keys -/
def stoKeys : List Key := [kS "cells", kS "at", kS "rest", kS "left", kS "turn", kS "seed"]
def stoKvs (c : Addr) (a r l t s : Int) : List (Key × V) :=
  [(kS "cells", V.ref c), (kS "at", V.int a), (kS "rest", V.int r), (kS "left", V.int l), (kS "turn", V.int t), (kS "seed", V.int s)]
structure StoreAt (K : PySem.W.Frag) (G : Hp) (cells : List Int) (kvs : List (Key × V)) : Prop where
  ex : ∃ (c : Addr) (a r l t s : Int), kvs = stoKvs c a r l t s ∧
    G c = some (.lst (cells.map V.int)) ∧ cells.length ≤ 63 ∧ 0 ≤ a ∧ a ≤ cells.length ∧ 0 ≤ r ∧ r < 2 ^ 2560 ∧ (0 < l → cells ≠ [])
def stoC : HO → Option (Key × V)
  | .dK kvs => kvs.head?
  | _ => none
def isSto : HO → Prop
  | .dK kvs => kvs.map (·.1) = stoKeys
  | .tbl _ => True
  | _ => False

def StoreOk (K : PySem.W.Frag) (G H : Hp) (cells : List Int) (a : Addr) : Prop := ∃ kvs, H a = some (.dK kvs) ∧ StoreAt K G cells kvs

/-- an exception's dict, its fields' values -/
def XdV (G : Hp) (d : Option Addr) (ns : List Str) (vs : List V) : Prop := (d = none ∧ ns = [] ∧ vs = []) ∨ ∃ dd fs, d = some dd ∧ G dd = some (.xd fs) ∧ fs.map (·.1) = ns ∧ vs = fs.map (·.2)
mutual
def Rep (K : PySem.W.Frag) (G H : Hp) : D → V → Prop
  | .non, v => v = .non
  | .bl b, v => v = .bl b
  | .int i, v => v = .int i
  | .str x, v => v = .str x
  | .tup ds, v => ∃ a vs, v = .ref a ∧ G a = some (.tup vs) ∧ RepL K G H ds vs
  | .lst ds, v => ∃ a vs, v = .ref a ∧ G a = some (.lst vs) ∧ RepL K G H ds vs
  | .obj C ns ds, v => ∃ a dx fs, v = .ref a ∧ G a = some (.ins C dx fs) ∧ fs.map (·.1) = ns ∧ RepL K G H ds (fs.map (·.2))
  | .cls a, v => v = .ref a
  | .ty n, v => v = .ty n
  | .sto cells, v => ∃ a, v = .ref a ∧ G a = none ∧ StoreOk K G H cells a
  | .scr ns, v => ∃ a, v = .ref a ∧ SqL K G a (ns.map V.int)
  | .exc a d ns ds, v => v = .ref a ∧ ∃ vs, XdV G d ns vs ∧ RepL K G H ds vs
  | .dic ks ds, v => ∃ a o kvs, v = .ref a ∧ G a = some (.frz o (.dT kvs)) ∧ kvs.map (·.1) = ks ∧ RepL K G H ds (kvs.map (·.2))
def RepL (K : PySem.W.Frag) (G H : Hp) : List D → List V → Prop
  | [], vs => vs = []
  | d :: ds, vs => ∃ v r, vs = v :: r ∧ Rep K G H d v ∧ RepL K G H ds r
end

/-- how the heap goes on: G (what never changes) grows; what is not in G stays, but for stores -/
structure Stp (K : PySem.W.Frag) (G H G' H' : Hp) : Prop where
  exG : Same G G'
  sub : Same G' H'
  own : ∀ a o, H a = some o → G a = none → G' a = none ∧ (H' a = some o ∨ (isSto o ∧ ∃ o', H' a = some o' ∧ (isSto o' ∧ stoC o' = stoC o) ∧ ∀ cells, StoreOk K G H cells a → StoreOk K G' H' cells a))
  tab : TOk G H → TOk G' H'

section
variable {K : PySem.W.Frag} {G H G' H' G2 H2 : Hp} {a : Addr} {o : HO}

theorem StoreAt.mono {cells : List Int} {kvs : List (Key × V)} (e : Same G G') (h : StoreAt K G cells kvs) : StoreAt K G' cells kvs := by
  obtain ⟨c, a, r, l, t, s, e1, h2, h3⟩ := h.ex
  exact ⟨c, a, r, l, t, s, e1, e _ _ h2, h3⟩

theorem StoreOk.at_ {cells : List Int} (e : Same G G') (h : StoreOk K G H cells a) (h1 : H a = some o) (h2 : H' a = some o) : StoreOk K G' H' cells a := by
  obtain ⟨kvs, q1, q2⟩ := h
  rw [q1] at h1
  cases h1
  exact ⟨kvs, h2, q2.mono e⟩
theorem StoreOk.stp (s : Stp K G H G' H') {a : Addr} {cells : List Int} (g : G a = none) (h : StoreOk K G H cells a) : StoreOk K G' H' cells a := by
  obtain ⟨kvs, h1, h2⟩ := id h
  rcases (s.own a _ h1 g).2 with q | ⟨_, o', q1, q2, q3⟩
  · exact ⟨kvs, q, h2.mono s.exG⟩
  · exact q3 cells h

theorem Stp.refl (e : Same G H) : Stp K G H G H := ⟨Same.refl G, e, fun a o h g => ⟨g, .inl h⟩, fun t => t⟩

theorem Stp.trans (a : Stp K G H G' H') (b : Stp K G' H' G2 H2) : Stp K G H G2 H2 := by
  refine ⟨a.exG.trans b.exG, b.sub, fun x o h g => ?_, fun t => b.tab (a.tab t)⟩
  obtain ⟨g', h'⟩ := a.own x o h g
  rcases h' with h' | ⟨h1, o', h2, h3, h4⟩
  · obtain ⟨g2, q⟩ := b.own x o h' g'
    refine ⟨g2, ?_⟩
    rcases q with q | ⟨q1, o2, q2, q3, q4⟩
    · exact .inl q
    · exact .inr ⟨q1, o2, q2, q3, fun cells z => q4 cells (z.at_ a.exG h h')⟩
  · obtain ⟨g2, q⟩ := b.own x o' h2 g'
    refine ⟨g2, ?_⟩
    rcases q with q | ⟨q1, o2, q2, q3, q4⟩
    · exact .inr ⟨h1, o', q, h3, fun cells z => (h4 cells z).at_ b.exG h2 q⟩
    · exact .inr ⟨h1, o2, q2, ⟨q3.1, q3.2.trans h3.2⟩, fun cells z => q4 cells (h4 cells z)⟩
theorem Stp.free (s : Stp K G H G' H') {p : Addr} (hp : H' p = none) : H p = none := by
  cases q : H p with
  | none => rfl
  | some o =>
    cases g : G p with
    | some u =>
      have := s.sub _ _ (s.exG _ _ g)
      rw [hp] at this; cases this
    | none =>
      rcases (s.own p o q g).2 with z | ⟨_, kv, z, _⟩
      · rw [hp] at z; cases z
      · rw [hp] at z; cases z
/-- only new things -/
theorem Stp.new (e : Same G H) {p : Addr} {o : HO} (h : H p = none) : Stp K G H (upd G p o) (upd H p o) := by
  have g : G p = none := e.free h
  refine ⟨fun b u q => ?_, fun b u q => ?_, fun b u q n => ?_, fun t => ⟨t.tb.ext fun b u q => by rw [upd_ne (ne_of_none q h)]; exact q, fun x hx => by rw [upd_ne (t.ne hx fun ps z => by rw [h] at z; cases z)]; exact t.gn x hx, fun a vs q => by
    by_cases z : a = p
    · subst z; rw [upd_same] at q ⊢; exact q
    · rw [upd_ne z] at q ⊢; exact t.tg a vs q⟩⟩
  · rw [upd_ne (ne_of_none q g)]; exact q
  · by_cases z : b = p
    · subst z; rw [upd_same] at q ⊢; exact q
    · rw [upd_ne z] at q ⊢; exact e b u q
  · have z : b ≠ p := ne_of_none q h
    rw [upd_ne z, upd_ne z]
    exact ⟨n, .inl q⟩
/-- a new thing that is not in G -/
theorem Stp.newM (e : Same G H) {p : Addr} {o : HO} (h : H p = none) (nt : ∀ vs, o ≠ .tup vs := by intro _ z; cases z) : Stp K G H G (upd H p o) := by
  have g : G p = none := e.free h
  refine ⟨Same.refl G, fun b u q => ?_, fun b u q n => ?_, fun t => ⟨t.tb.ext fun b u q => by rw [upd_ne (ne_of_none q h)]; exact q, t.gn, fun a vs q => by
    by_cases z : a = p
    · subst z; rw [upd_same] at q; cases q; exact absurd rfl (nt vs)
    · rw [upd_ne z] at q; exact t.tg a vs q⟩⟩
  · have z : b ≠ p := ne_of_none q g
    rw [upd_ne z]; exact e b u q
  · have z : b ≠ p := ne_of_none q h
    rw [upd_ne z]
    exact ⟨n, .inl q⟩
end

section
variable {K : PySem.W.Frag} {G H G' H' G2 H2 : Hp}
theorem Same.tup {a : Addr} {xs : List V} (e : Same G G') (h : G a = some (.tup xs)) : SqT K G' a xs := .inl (.inl (e _ _ h))
/-- what Rep leans on -/
structure Mo (K : PySem.W.Frag) (G H G' H' : Hp) : Prop where
  exG : Same G G'
  sto : ∀ a cells, G a = none → StoreOk K G H cells a → G' a = none ∧ StoreOk K G' H' cells a
theorem Stp.mo (s : Stp K G H G' H') : Mo K G H G' H' := ⟨s.exG, fun a cells g h => by
  obtain ⟨kvs, h1, h2⟩ := id h
  exact ⟨(s.own a _ h1 g).1, h.stp s g⟩⟩
theorem Mo.refl : Mo K G H G H := ⟨Same.refl G, fun _ _ g h => ⟨g, h⟩⟩
theorem Mo.trans (a : Mo K G H G' H') (b : Mo K G' H' G2 H2) : Mo K G H G2 H2 := ⟨a.exG.trans b.exG, fun x c g h => b.sto x c (a.sto x c g h).1 (a.sto x c g h).2⟩
/-- an object of one's own is put among what never changes -/
theorem Mo.freeze {p : Addr} {vs : List V} (h : H p = some (.lst vs)) (g : G p = none) : Mo K G H (upd G p (.lst vs)) H := by
  have e : Same G (upd G p (.lst vs)) := fun b u q => by rw [upd_ne (ne_of_none q g)]; exact q
  refine ⟨e, fun a cells n q => ?_⟩
  obtain ⟨kvs, h1, h2⟩ := q
  have z : a ≠ p := by
    intro z
    subst z
    rw [h] at h1
    cases h1
  exact ⟨by rw [upd_ne z]; exact n, kvs, h1, h2.mono e⟩
theorem Stp.freeze {p : Addr} {vs : List V} (s : Stp K G H G' H') (hp : H p = none) (h : H' p = some (.lst vs)) (g : G' p = none) : Stp K G H (upd G' p (.lst vs)) H' := by
  have e : Same G' (upd G' p (.lst vs)) := fun b u q => by rw [upd_ne (ne_of_none q g)]; exact q
  refine ⟨s.exG.trans e, fun b u q => ?_, fun b u q n => ?_, fun t => ⟨(s.tab t).tb, fun x hx => by rw [upd_ne ((s.tab t).ne hx fun ps z => by rw [h] at z; cases z)]; exact (s.tab t).gn x hx, fun a us q => by
    have z : a ≠ p := fun z => by subst z; rw [h] at q; cases q
    rw [upd_ne z]
    exact (s.tab t).tg a us q⟩⟩
  · by_cases z : b = p
    · subst z; rw [upd_same] at q; cases q; exact h
    · rw [upd_ne z] at q; exact s.sub b u q
  · have z : b ≠ p := ne_of_none q hp
    obtain ⟨n', q'⟩ := s.own b u q n
    refine ⟨by rw [upd_ne z]; exact n', ?_⟩
    rcases q' with q' | ⟨q1, o', q2, q3, q4⟩
    · exact .inl q'
    · exact .inr ⟨q1, o', q2, q3, fun cells w => by
        obtain ⟨kvs, w1, w2⟩ := q4 cells w
        exact ⟨kvs, w1, w2.mono e⟩⟩
theorem XdV.mo {d : Option Addr} {ns : List Str} {vs : List V} (e : Same G G') (h : XdV G d ns vs) : XdV G' d ns vs := by
  rcases h with h | ⟨dd, fs, h1, h2, h3⟩
  · exact .inl h
  · exact .inr ⟨dd, fs, h1, e _ _ h2, h3⟩
mutual
theorem Rep.mo (s : Mo K G H G' H') : ∀ {d : D} {v : V}, Rep K G H d v → Rep K G' H' d v
  | .non, v, h => by unfold Rep at h ⊢; exact h
  | .bl b, v, h => by unfold Rep at h ⊢; exact h
  | .int i, v, h => by unfold Rep at h ⊢; exact h
  | .str x, v, h => by unfold Rep at h ⊢; exact h
  | .tup ds, v, h => by
    unfold Rep at h ⊢
    obtain ⟨a, vs, e, h1, h2⟩ := h
    exact ⟨a, vs, e, s.exG _ _ h1, RepL.mo s h2⟩
  | .lst ds, v, h => by
    unfold Rep at h ⊢
    obtain ⟨a, vs, e, h1, h2⟩ := h
    exact ⟨a, vs, e, s.exG _ _ h1, RepL.mo s h2⟩
  | .obj C ns ds, v, h => by
    unfold Rep at h ⊢
    obtain ⟨a, dx, fs, e, h1, h2, h3⟩ := h
    exact ⟨a, dx, fs, e, s.exG _ _ h1, h2, RepL.mo s h3⟩
  | .cls a, v, h => by unfold Rep at h ⊢; exact h
  | .ty n, v, h => by unfold Rep at h ⊢; exact h
  | .sto cells, v, h => by
    unfold Rep at h ⊢
    obtain ⟨a, e, g, h1⟩ := h
    obtain ⟨g', h2⟩ := s.sto a cells g h1
    exact ⟨a, e, g', h2⟩
  | .scr ns, v, h => by
    unfold Rep at h ⊢
    obtain ⟨a, e, h1⟩ := h
    exact ⟨a, e, Same.seq s.exG h1⟩
  | .exc a d ns ds, v, h => by
    unfold Rep at h ⊢
    obtain ⟨e, vs, h1, h2⟩ := h
    exact ⟨e, vs, XdV.mo s.exG h1, RepL.mo s h2⟩
  | .dic ks ds, v, h => by
    unfold Rep at h ⊢
    obtain ⟨a, o, kvs, e, h1, h2, h3⟩ := h
    exact ⟨a, o, kvs, e, s.exG _ _ h1, h2, RepL.mo s h3⟩
theorem RepL.mo (s : Mo K G H G' H') : ∀ {ds : List D} {vs : List V}, RepL K G H ds vs → RepL K G' H' ds vs
  | [], vs, h => by unfold RepL at h ⊢; exact h
  | d :: ds, vs, h => by
    unfold RepL at h ⊢
    obtain ⟨v, r, e, h1, h2⟩ := h
    exact ⟨v, r, e, Rep.mo s h1, RepL.mo s h2⟩
end
theorem Rep.mono (s : Stp K G H G' H') {d : D} {v : V} (h : Rep K G H d v) : Rep K G' H' d v := h.mo s.mo
theorem RepL.mono (s : Stp K G H G' H') {ds : List D} {vs : List V} (h : RepL K G H ds vs) : RepL K G' H' ds vs := h.mo s.mo
theorem RepL.length : ∀ {ds : List D} {vs : List V}, RepL K G H ds vs → vs.length = ds.length
  | [], vs, h => by unfold RepL at h; subst h; rfl
  | d :: ds, vs, h => by
    unfold RepL at h
    obtain ⟨v, r, e, h1, h2⟩ := h
    subst e
    simp [RepL.length h2]
theorem RepL.get : ∀ {ds : List D} {vs : List V} {i : Nat} {d : D}, RepL K G H ds vs → ds[i]? = some d → ∃ v, vs[i]? = some v ∧ Rep K G H d v
  | [], vs, i, d, h, e => by simp at e
  | d0 :: ds, vs, 0, d, h, e => by
    unfold RepL at h
    obtain ⟨v, r, e1, h1, h2⟩ := h
    simp at e
    subst e e1
    exact ⟨v, rfl, h1⟩
  | d0 :: ds, vs, i + 1, d, h, e => by
    unfold RepL at h
    obtain ⟨v, r, e1, h1, h2⟩ := h
    subst e1
    obtain ⟨u, q1, q2⟩ := RepL.get h2 (show ds[i]? = some d by simpa using e)
    exact ⟨u, by simpa using q1, q2⟩
theorem RepL.back : ∀ {ds : List D} {vs : List V} {i : Nat} {v : V}, RepL K G H ds vs → vs[i]? = some v → ∃ d, ds[i]? = some d ∧ Rep K G H d v := fun {ds vs i v} h e => by
  have hl := h.length
  have hi : i < vs.length := (List.getElem?_eq_some_iff.mp e).1
  have hi2 : i < ds.length := by omega
  obtain ⟨u, q1, q2⟩ := h.get (i := i) (d := ds[i]) (by simp [hi2])
  rw [e] at q1
  cases q1
  exact ⟨ds[i], by simp [hi2], q2⟩
theorem RepL.append : ∀ {ds : List D} {vs : List V} {es : List D} {us : List V}, RepL K G H ds vs → RepL K G H es us → RepL K G H (ds ++ es) (vs ++ us)
  | [], vs, es, us, h, h' => by unfold RepL at h; subst h; exact h'
  | d :: ds, vs, es, us, h, h' => by
    unfold RepL at h
    obtain ⟨v, r, e, h1, h2⟩ := h
    subst e
    show RepL K G H (d :: (ds ++ es)) (v :: (r ++ us))
    unfold RepL
    exact ⟨v, _, rfl, h1, RepL.append h2 h'⟩
theorem RepL.nil : RepL K G H [] [] := by unfold RepL; rfl
theorem RepL.cons {d : D} {v : V} {ds : List D} {vs : List V} (h : Rep K G H d v) (h' : RepL K G H ds vs) : RepL K G H (d :: ds) (v :: vs) := by
  unfold RepL; exact ⟨v, vs, rfl, h, h'⟩
theorem RepL.one {d : D} {v : V} (h : Rep K G H d v) : RepL K G H [d] [v] := .cons h .nil
theorem RepL.take : ∀ {ds : List D} {vs : List V} (n : Nat), RepL K G H ds vs → RepL K G H (ds.take n) (vs.take n)
  | [], vs, n, h => by unfold RepL at h; subst h; simp; exact .nil
  | d :: ds, vs, 0, h => by simp; exact .nil
  | d :: ds, vs, n + 1, h => by
    unfold RepL at h
    obtain ⟨v, r, e, h1, h2⟩ := h
    subst e
    exact .cons h1 (RepL.take n h2)
theorem RepL.drop : ∀ {ds : List D} {vs : List V} (n : Nat), RepL K G H ds vs → RepL K G H (ds.drop n) (vs.drop n)
  | [], vs, n, h => by unfold RepL at h; subst h; simp; exact .nil
  | d :: ds, vs, 0, h => h
  | d :: ds, vs, n + 1, h => by
    unfold RepL at h
    obtain ⟨v, r, e, h1, h2⟩ := h
    subst e
    exact RepL.drop n h2
theorem RepL.ints : ∀ {ns : List Int} {vs : List V}, RepL K G H (ns.map D.int) vs → vs = ns.map V.int
  | [], vs, h => by unfold RepL at h; exact h
  | n :: ns, vs, h => by
    simp only [List.map_cons] at h ⊢
    unfold RepL Rep at h
    obtain ⟨v, r, e, h1, h2⟩ := h
    rw [e, h1, RepL.ints h2]
theorem RepL.ofInts : ∀ {ns : List Int}, RepL K G H (ns.map D.int) (ns.map V.int)
  | [] => .nil
  | n :: ns => .cons (by unfold Rep; rfl) RepL.ofInts
end

/-- data of which some lists are one's own, at any depth -/
inductive MT where
  | fz (d : D) | ls (ts : List MT) | tp (ts : List MT)
instance : Inhabited MT := ⟨.fz .non⟩
mutual
/-- how it lies in the heap; the addresses of the lists of one's own -/
def MRep (K : PySem.W.Frag) (G H : Hp) : MT → V → List Addr → Prop
  | .fz d, v, as => as = [] ∧ Rep K G H d v
  | .ls ts, v, as => ∃ p vs bs, v = .ref p ∧ H p = some (.lst vs) ∧ as = p :: bs ∧ MRepL K G H ts vs bs
  | .tp ts, v, as => ∃ p vs, v = .ref p ∧ G p = some (.tup vs) ∧ MRepL K G H ts vs as
def MRepL (K : PySem.W.Frag) (G H : Hp) : List MT → List V → List Addr → Prop
  | [], vs, as => vs = [] ∧ as = []
  | t :: ts, vs, as => ∃ v r a b, vs = v :: r ∧ as = a ++ b ∧ MRep K G H t v a ∧ MRepL K G H ts r b
end
/-- what stands at a path -/
def MT.kids : MT → List MT
  | .ls ts => ts
  | .tp ts => ts
  | .fz _ => []
def MT.sub : List Nat → MT → Option MT
  | [], t => some t
  | i :: π, t => (t.kids[i]?).bind (MT.sub π)
def MT.put (u : MT) : List Nat → MT → MT
  | [], _ => u
  | i :: π, .ls ts => .ls (ts.set i (MT.put u π ((ts[i]?).getD (.fz .non))))
  | i :: π, .tp ts => .tp (ts.set i (MT.put u π ((ts[i]?).getD (.fz .non))))
  | _ :: _, .fz d => .fz d
/-- .. and its value -/
def VAt (K : PySem.W.Frag) (G H : Hp) : List Nat → MT → V → V → Prop
  | [], _, v, w => v = w
  | i :: π, t, v, w => ∃ p vs ts t' x, v = .ref p ∧ ts[i]? = some t' ∧ vs[i]? = some x ∧ (t = .ls ts ∧ H p = some (.lst vs) ∨ t = .tp ts ∧ G p = some (.tup vs)) ∧ VAt K G H π t' x w
/-- what a slot of a frame holds: nothing known; data that never changes; a list of the frame's own; an object that is made; data with own lists in it, some of their addresses known -/
inductive Sl where
  | no | fz (d : D) | ow (ds : List D) | ob (C p : Addr) (ns : List Str) (ds : List D) | mt (t : MT) (pins : List (List Nat × Addr)) | dc (ks : List (List Key)) (ds : List D)
def SlOk (K : PySem.W.Frag) (G H H0 : Hp) : Sl → Option (Option V) → Prop
  | .no, _ => True
  | .fz d, o => ∃ v, o = some (some v) ∧ Rep K G H d v
  | .ow ds, o => ∃ p vs, o = some (some (.ref p)) ∧ H p = some (.lst vs) ∧ G p = none ∧ H0 p = none ∧ RepL K G H ds vs
  | .ob C p ns ds, o => ∃ dx fs, o = some (some (.ref p)) ∧ H p = some (.ins C dx fs) ∧ G p = none ∧ H0 p = none ∧ fs.map (·.1) = ns ∧ RepL K G H ds (fs.map (·.2))
  | .mt _ _, _ => True
  | .dc ks ds, o => ∃ p kvs, o = some (some (.ref p)) ∧ H p = some (.dT kvs) ∧ G p = none ∧ H0 p = none ∧ kvs.map (·.1) = ks ∧ RepL K G H ds (kvs.map (·.2))
/-- .. and its addresses -/
def SlF (K : PySem.W.Frag) (G H H0 : Hp) : Sl → Option (Option V) → List Addr → Prop
  | .no, _, as => as = []
  | .fz d, o, as => as = [] ∧ ∃ v, o = some (some v) ∧ Rep K G H d v
  | .ow ds, o, as => ∃ p vs, as = [p] ∧ o = some (some (.ref p)) ∧ H p = some (.lst vs) ∧ G p = none ∧ H0 p = none ∧ RepL K G H ds vs
  | .ob C p ns ds, o, as => ∃ dx fs, as = [p] ∧ o = some (some (.ref p)) ∧ H p = some (.ins C dx fs) ∧ G p = none ∧ H0 p = none ∧ fs.map (·.1) = ns ∧ RepL K G H ds (fs.map (·.2))
  | .mt t pins, o, as => ∃ v, o = some (some v) ∧ MRep K G H t v as ∧ as.Nodup ∧ (∀ a ∈ as, G a = none ∧ H0 a = none) ∧ ∀ x ∈ pins, VAt K G H x.1 t v (.ref x.2)
  | .dc ks ds, o, as => ∃ p kvs, as = [p] ∧ o = some (some (.ref p)) ∧ H p = some (.dT kvs) ∧ G p = none ∧ H0 p = none ∧ kvs.map (·.1) = ks ∧ RepL K G H ds (kvs.map (·.2))
structure EnvOk (K : PySem.W.Frag) (G H H0 : Hp) (σ : St) (δ : List Sl) : Prop where
  len : σ.length = δ.length
  fp : ∃ F : Nat → List Addr, (∀ i : Nat, SlF K G H H0 ((δ[i]?).getD .no) σ[i]? (F i)) ∧ ∀ i j, i ≠ j → ∀ a ∈ F i, a ∉ F j
section
variable {K : PySem.W.Frag} {G H G' H' G2 H2 H0 : Hp} {σ : St} {δ : List Sl}
theorem SlF.ok {s : Sl} {o : Option (Option V)} {as : List Addr} (h : SlF K G H H0 s o as) : SlOk K G H H0 s o := by
  cases s with
  | no => trivial
  | fz d => exact h.2
  | ow ds => obtain ⟨p, vs, _, r⟩ := h; exact ⟨p, vs, r⟩
  | ob C p ns ds => obtain ⟨dx, fs, _, r⟩ := h; exact ⟨dx, fs, r⟩
  | mt t pins => trivial
  | dc ks ds => obtain ⟨p, kvs, _, r⟩ := h; exact ⟨p, kvs, r⟩
theorem EnvOk.at_ (h : EnvOk K G H H0 σ δ) (i : Nat) (s : Sl) (e : δ[i]? = some s) : SlOk K G H H0 s σ[i]? := by
  obtain ⟨F, f, _⟩ := h.fp
  have := (f i).ok
  rw [e] at this
  exact this
/-! what lies at the addresses stays -/
def ownO : HO → Prop
  | .lst _ => True
  | .ins _ _ _ => True
  | .dT _ => True
  | _ => False
mutual
theorem MRep.own : ∀ {t : MT} {v : V} {as : List Addr}, MRep K G H t v as → ∀ a ∈ as, ∃ vs, H a = some (.lst vs)
  | .fz d, v, as, h, a, ha => by
    unfold MRep at h
    rw [h.1] at ha
    cases ha
  | .ls ts, v, as, h, a, ha => by
    unfold MRep at h
    obtain ⟨p, vs, bs, _, h1, e, h2⟩ := h
    rw [e] at ha
    cases ha with
    | head => exact ⟨vs, h1⟩
    | tail _ ha => exact MRepL.own h2 a ha
  | .tp ts, v, as, h, a, ha => by
    unfold MRep at h
    obtain ⟨p, vs, _, _, h2⟩ := h
    exact MRepL.own h2 a ha
theorem MRepL.own : ∀ {ts : List MT} {vs : List V} {as : List Addr}, MRepL K G H ts vs as → ∀ a ∈ as, ∃ vs, H a = some (.lst vs)
  | [], vs, as, h, a, ha => by
    unfold MRepL at h
    rw [h.2] at ha
    cases ha
  | t :: ts, vs, as, h, a, ha => by
    unfold MRepL at h
    obtain ⟨v, r, x, y, _, e, h1, h2⟩ := h
    rw [e] at ha
    rcases List.mem_append.mp ha with ha | ha
    · exact MRep.own h1 a ha
    · exact MRepL.own h2 a ha
end
mutual
theorem MRep.mo (m : Mo K G H G' H') : ∀ {t : MT} {v : V} {as : List Addr}, (∀ a ∈ as, H' a = H a) → MRep K G H t v as → MRep K G' H' t v as
  | .fz d, v, as, k, h => by
    unfold MRep at h ⊢
    exact ⟨h.1, h.2.mo m⟩
  | .ls ts, v, as, k, h => by
    unfold MRep at h ⊢
    obtain ⟨p, vs, bs, e0, h1, e, h2⟩ := h
    exact ⟨p, vs, bs, e0, by rw [k p (by rw [e]; exact .head _)]; exact h1, e, MRepL.mo m (fun a ha => k a (by rw [e]; exact .tail _ ha)) h2⟩
  | .tp ts, v, as, k, h => by
    unfold MRep at h ⊢
    obtain ⟨p, vs, e0, h1, h2⟩ := h
    exact ⟨p, vs, e0, m.exG _ _ h1, MRepL.mo m k h2⟩
theorem MRepL.mo (m : Mo K G H G' H') : ∀ {ts : List MT} {vs : List V} {as : List Addr}, (∀ a ∈ as, H' a = H a) → MRepL K G H ts vs as → MRepL K G' H' ts vs as
  | [], vs, as, k, h => by
    unfold MRepL at h ⊢
    exact h
  | t :: ts, vs, as, k, h => by
    unfold MRepL at h ⊢
    obtain ⟨v, r, x, y, e1, e, h1, h2⟩ := h
    exact ⟨v, r, x, y, e1, e, MRep.mo m (fun a ha => k a (by rw [e]; exact List.mem_append_left _ ha)) h1, MRepL.mo m (fun a ha => k a (by rw [e]; exact List.mem_append_right _ ha)) h2⟩
end
theorem MRepL.get : ∀ {ts : List MT} {vs : List V} {as : List Addr} {i : Nat} {t : MT}, MRepL K G H ts vs as → ts[i]? = some t → ∃ v pre b post, vs[i]? = some v ∧ as = pre ++ (b ++ post) ∧ MRep K G H t v b ∧
    ∀ G' H' u b', Mo K G H G' H' → (∀ a ∈ pre, H' a = H a) → (∀ a ∈ post, H' a = H a) → MRep K G' H' u v b' → MRepL K G' H' (ts.set i u) vs (pre ++ (b' ++ post))
  | [], vs, as, i, t, h, e => by simp at e
  | t0 :: ts, vs, as, 0, t, h, e => by
    unfold MRepL at h
    obtain ⟨v, r, x, y, e1, e2, h1, h2⟩ := h
    simp at e
    subst e
    refine ⟨v, [], x, y, by rw [e1]; rfl, e2, h1, fun G' H' u b' m _ kq hu => ?_⟩
    show MRepL K G' H' (u :: ts) vs (b' ++ y)
    unfold MRepL
    exact ⟨v, r, b', y, e1, rfl, hu, MRepL.mo m kq h2⟩
  | t0 :: ts, vs, as, i + 1, t, h, e => by
    unfold MRepL at h
    obtain ⟨v, r, x, y, e1, e2, h1, h2⟩ := h
    obtain ⟨w, pre, b, post, q1, q2, q3, q4⟩ := MRepL.get h2 (show ts[i]? = some t by simpa using e)
    refine ⟨w, x ++ pre, b, post, by rw [e1]; simpa using q1, by rw [e2, q2]; simp, q3, fun G' H' u b' m kp kq hu => ?_⟩
    show MRepL K G' H' (t0 :: ts.set i u) vs (x ++ pre ++ (b' ++ post))
    unfold MRepL
    exact ⟨v, r, x, pre ++ (b' ++ post), e1, by simp, MRep.mo m (fun a ha => kp a (List.mem_append_left _ ha)) h1, q4 G' H' u b' m (fun a ha => kp a (List.mem_append_right _ ha)) kq hu⟩
theorem VAt.mo (e : Same G G') : ∀ {π : List Nat} {t : MT} {v w : V} {as : List Addr}, MRep K G H t v as → (∀ a ∈ as, H' a = H a) → VAt K G H π t v w → VAt K G' H' π t v w
  | [], t, v, w, as, _, _, h => h
  | i :: π, t, v, w, as, r, k, h => by
    obtain ⟨p, vs, ts, t', x, e1, q1, q2, q3, q4⟩ := h
    rcases q3 with ⟨rfl, h1⟩ | ⟨rfl, h1⟩
    · unfold MRep at r
      obtain ⟨p', vs', bs, e1', h1', e2, h2⟩ := r
      rw [e1] at e1'
      cases e1'
      rw [h1] at h1'
      cases h1'
      obtain ⟨x', pre, b, post, s1, s2, s3, _⟩ := h2.get q1
      rw [q2] at s1
      cases s1
      exact ⟨p, vs, ts, t', x, e1, q1, q2, .inl ⟨rfl, by rw [k p (by rw [e2]; exact .head _)]; exact h1⟩, VAt.mo e s3 (fun a ha => k a (by rw [e2, s2]; simp [ha])) q4⟩
    · unfold MRep at r
      obtain ⟨p', vs', e1', h1', h2⟩ := r
      rw [e1] at e1'
      cases e1'
      rw [h1] at h1'
      cases h1'
      obtain ⟨x', pre, b, post, s1, s2, s3, _⟩ := h2.get q1
      rw [q2] at s1
      cases s1
      exact ⟨p, vs, ts, t', x, e1, q1, q2, .inr ⟨rfl, e _ _ h1⟩, VAt.mo e s3 (fun a ha => k a (by rw [s2]; simp [ha])) q4⟩
theorem SlF.own {s : Sl} {o : Option (Option V)} {as : List Addr} (h : SlF K G H H0 s o as) : ∀ a ∈ as, G a = none ∧ H0 a = none ∧ ∃ u, H a = some u ∧ ownO u := by
  cases s with
  | no => intro a ha; rw [show as = [] from h] at ha; cases ha
  | fz d => intro a ha; rw [h.1] at ha; cases ha
  | ow ds =>
    obtain ⟨p, vs, e, _, h1, g, h0, _⟩ := h
    intro a ha
    rw [e] at ha
    cases List.mem_singleton.mp ha
    exact ⟨g, h0, _, h1, trivial⟩
  | ob C p ns ds =>
    obtain ⟨dx, fs, e, _, h1, g, h0, _⟩ := h
    intro a ha
    rw [e] at ha
    cases List.mem_singleton.mp ha
    exact ⟨g, h0, _, h1, trivial⟩
  | mt t pins =>
    obtain ⟨v, _, h1, _, h2, _⟩ := h
    intro a ha
    obtain ⟨vs, h3⟩ := h1.own a ha
    exact ⟨(h2 a ha).1, (h2 a ha).2, _, h3, trivial⟩
  | dc ks ds =>
    obtain ⟨p, kvs, e, _, h1, g, h0, _⟩ := h
    intro a ha
    rw [e] at ha
    cases List.mem_singleton.mp ha
    exact ⟨g, h0, _, h1, trivial⟩
theorem SlF.mo {s : Sl} {o : Option (Option V)} {as : List Addr} (m : Mo K G H G' H') (k : ∀ a ∈ as, H' a = H a ∧ G' a = none) (h : SlF K G H H0 s o as) : SlF K G' H' H0 s o as := by
  cases s with
  | no => exact h
  | fz d =>
    obtain ⟨e, v, e1, r⟩ := h
    exact ⟨e, v, e1, r.mo m⟩
  | ow ds =>
    obtain ⟨p, vs, e, e1, h1, g, h0, r⟩ := h
    obtain ⟨q1, q2⟩ := k p (by rw [e]; exact .head _)
    exact ⟨p, vs, e, e1, by rw [q1]; exact h1, q2, h0, r.mo m⟩
  | ob C p ns ds =>
    obtain ⟨dx, fs, e, e1, h1, g, h0, hn, r⟩ := h
    obtain ⟨q1, q2⟩ := k p (by rw [e]; exact .head _)
    exact ⟨dx, fs, e, e1, by rw [q1]; exact h1, q2, h0, hn, r.mo m⟩
  | mt t pins =>
    obtain ⟨v, e1, h1, nd, h2, hp⟩ := h
    exact ⟨v, e1, h1.mo m (fun a ha => (k a ha).1), nd, fun a ha => ⟨(k a ha).2, (h2 a ha).2⟩, fun x hx => (hp x hx).mo m.exG h1 (fun a ha => (k a ha).1)⟩
  | dc ks ds =>
    obtain ⟨p, kvs, e, e1, h1, g, h0, hn, r⟩ := h
    obtain ⟨q1, q2⟩ := k p (by rw [e]; exact .head _)
    exact ⟨p, kvs, e, e1, by rw [q1]; exact h1, q2, h0, hn, r.mo m⟩
theorem ownO.nsto {o : HO} (h : ownO o) : ¬ isSto o := by
  cases o <;> first | exact h.elim | exact fun z => z.elim
theorem SlF.mono {s : Sl} {o : Option (Option V)} {as : List Addr} (t : Stp K G H G' H') (h : SlF K G H H0 s o as) : SlF K G' H' H0 s o as := by
  refine h.mo t.mo fun a ha => ?_
  obtain ⟨g, _, u, h1, h2⟩ := h.own a ha
  obtain ⟨g', q⟩ := t.own a u h1 g
  rcases q with q | ⟨q, _⟩
  · exact ⟨by rw [q, h1], g'⟩
  · exact (h2.nsto q).elim
theorem EnvOk.mono (t : Stp K G H G' H') (h : EnvOk K G H H0 σ δ) : EnvOk K G' H' H0 σ δ := by
  obtain ⟨F, f, dj⟩ := h.fp
  exact ⟨h.len, F, fun i => (f i).mono t, dj⟩
theorem EnvOk.fz (h : EnvOk K G H H0 σ δ) {i : Nat} {d : D} (e : δ[i]? = some (.fz d)) : ∃ v, σ[i]? = some (some v) ∧ Rep K G H d v := h.at_ i _ e
/-- one slot anew; the addresses of the others stay -/
theorem EnvOk.anew {F : Nat → List Addr} {σ' : St} {s' : Sl} {i : Nat} {as' : List Addr} (hl : σ.length = δ.length) (f : ∀ j : Nat, SlF K G H H0 ((δ[j]?).getD .no) σ[j]? (F j)) (dj : ∀ i j, i ≠ j → ∀ a ∈ F i, a ∉ F j)
    (m : Mo K G H G' H') (k : ∀ j, j ≠ i → ∀ a ∈ F j, H' a = H a ∧ G' a = none) (hl' : σ'.length = σ.length) (hσ : ∀ j, j ≠ i → σ'[j]? = σ[j]?) (new : i < δ.length → SlF K G' H' H0 s' σ'[i]? as') (dn : ∀ j, j ≠ i → ∀ a ∈ as', a ∉ F j) : EnvOk K G' H' H0 σ' (δ.set i s') := by
  by_cases hi : i < δ.length
  · refine ⟨by simp [hl', hl], fun j => if j = i then as' else F j, fun j => ?_, fun j l n a ha => ?_⟩
    · by_cases z : j = i
      · subst z
        rw [List.getElem?_set_self hi]
        simp only [if_true]
        exact new hi
      · rw [List.getElem?_set_ne (fun w => z w.symm)]
        simp only [if_neg z]
        rw [hσ j z]
        exact (f j).mo m (k j z)
    · by_cases z : j = i
      · subst z
        simp only [if_true] at ha
        simp only [if_neg (fun w => n (Eq.symm w))]
        exact dn l (fun w => n w.symm) a ha
      · simp only [if_neg z] at ha
        by_cases z2 : l = i
        · subst z2
          simp only [if_true]
          exact fun hb => dn j z a hb ha
        · simp only [if_neg z2]
          exact dj j l n a ha
  · have ed : δ.set i s' = δ := List.set_eq_of_length_le (by omega)
    have n0 : ∀ j, j = i → F j = [] := by
      intro j z
      subst z
      have := f j
      rw [List.getElem?_eq_none (by omega)] at this
      exact this
    rw [ed]
    refine ⟨by rw [hl', hl], F, fun j => ?_, dj⟩
    by_cases z : j = i
    · subst z
      rw [List.getElem?_eq_none (show δ.length ≤ j by omega), n0 j rfl]
      rfl
    · rw [hσ j z]
      exact (f j).mo m (k j z)
theorem EnvOk.at0 {F : Nat → List Addr} (f : ∀ j : Nat, SlF K G H H0 ((δ[j]?).getD .no) σ[j]? (F j)) {i : Nat} {s : Sl} (e : δ[i]? = some s) : SlF K G H H0 s σ[i]? (F i) := by
  have := f i
  rw [e] at this
  exact this
theorem EnvOk.set (h : EnvOk K G H H0 σ δ) {i : Nat} {d : D} {v : V} (r : Rep K G H d v) : EnvOk K G H H0 (σ.set i (some v)) (δ.set i (.fz d)) := by
  obtain ⟨F, f, dj⟩ := h.fp
  exact EnvOk.anew (as' := []) h.len f dj .refl (fun j _ a ha => ⟨rfl, ((f j).own a ha).1⟩) (by simp) (fun j n => List.getElem?_set_ne (fun w => n w.symm)) (fun hi => ⟨rfl, v, by rw [List.getElem?_set_self (by rw [h.len]; exact hi)], r⟩) (fun _ _ a ha => by cases ha)
/-- a slot forgotten -/
theorem EnvOk.forget (h : EnvOk K G H H0 σ δ) (i : Nat) (o : Option V) : EnvOk K G H H0 (σ.set i o) (δ.set i .no) := by
  obtain ⟨F, f, dj⟩ := h.fp
  exact EnvOk.anew (as' := []) h.len f dj .refl (fun j _ a ha => ⟨rfl, ((f j).own a ha).1⟩) (by simp) (fun j n => List.getElem?_set_ne (fun w => n w.symm)) (fun _ => rfl) (fun _ _ a ha => by cases ha)
end
end Z
set_option Elab.async false
set_option linter.all false
set_option maxRecDepth 100000
set_option maxHeartbeats 4000000
/-! Z1: what a piece of code does to plain data: JE, JT, JA, JS .. over the program's own syntax; their rules. -/
namespace Z
open PySem L2
variable [tabsI : TabsT]

/-- what is known of a block's names: slots, scope, the names that may be read, that may be stored, the globals -/
structure Scp where
  N : List Str
  sc : Scope
  vs : List (Str × Nat)
  ss : List (Str × Nat)
  gl : List Str
  lv : Nat
/-- is an exception being handled: no; yes (its address, class, dict); yes, unknown here -/
inductive Md where
  | calm | hot (h : Addr × Addr × Option Addr) | blind
/-- the surroundings of a body that runs -/
structure Cg where
  P : Program
  w : World
  K : PySem.W.Frag
  mg : Str → Option Value
  base : Heap
  G0 : Hp
  H0 : Hp
  ex : List Sl → Value → List Str → List D → Prop
  rf : MT → Prop
  blk : Bool
  md : Md
  cd : Option (Addr × Addr × Str) := none

structure Scp.Ok (S : Scp) : Prop where
  nd : S.N.Nodup
  vs : ∀ p ∈ S.vs, S.N[p.2]? = some p.1 ∧ Vis S.sc p.1
  ss : ∀ p ∈ S.ss, S.N[p.2]? = some p.1 ∧ Loc S.sc p.1
  gl : ∀ x ∈ S.gl, S.sc.names.lookup x = some .globalImplicit

/-- an exception's own fields -/
def XdOk (K : PySem.W.Frag) (G H : Hp) (d : Option Addr) (ns : List Str) (ds : List D) : Prop :=
  (d = none ∧ ns = [] ∧ ds = []) ∨ ∃ dd fs, d = some dd ∧ G dd = some (.xd fs) ∧ fs.map (·.1) = ns ∧ RepL K G H ds (fs.map (·.2))
def wx (Γ : Cg) : WX := fun cls d σ H => ∃ G δ ns ds, Stp Γ.K Γ.G0 Γ.H0 G H ∧ EnvOk Γ.K G H Γ.H0 σ δ ∧ XdOk Γ.K G H d ns ds ∧ Γ.ex δ cls ns ds

/-- no exception is handled -/
class Calm (Γ : Cg) : Prop where
  hx : Γ.md = .calm
theorem unH {k : Nat} {A : Around} (r : L2H.RoomH k A) : A.units + 64 < cLine := by have := r.un; omega
theorem unH1 {k : Nat} {A : Around} (r : L2H.RoomH k A) : A.units + 1 < cLine := by have := r.un; omega
/-- the exception that the suite holds -/
def HeldX (X : Cx) (h : Addr × Addr × Option Addr) : Prop := ∃ oe, (h.1, oe) ∈ X.pn ∧ L2H.Hot1 X.A (h.1, oe) ∧ oe.cls = .ref h.2.1 ∧ oe.dict = h.2.2 ∧ X.calm = false ∧ (∃ vs, oe.data = .fields vs)
structure COk (S : Scp) (Γ : Cg) (X : Cx) : Prop where
  so : S.Ok
  prog : X.prog = Γ.P
  w : X.w = Γ.w
  K : X.K = Γ.K
  mg : X.mg = Γ.mg
  base : X.base = Γ.base
  N : X.N = S.N
  sc : X.env.scope = S.sc
  calm : Γ.md = .calm → X.calm = true
  room : Γ.md = .calm → Room S.lv X.A
  roomH : L2H.RoomH S.lv X.A
  hot : ∀ h, Γ.md = .hot h → HeldX X h
  st : ∀ x, x ∈ S.ss → X.fn x.1 = true ∨ X.env.scope.names.lookup x.1 = some .local
  def_ : Γ.blk = false → X.stack = X.env :: X.outer ∧ X.env.frame = some X.env.locals ∧ X.ex = [] ∧ PassesOwn (model X.prog X.w) X.A X.env X.xe
  tk : L2N.Takes X (wx Γ)
  tb : TOk Γ.G0 Γ.H0
  cd : ∀ c P q, Γ.cd = some (c, P, q) → X.env.code = .ref c ∧ X.env.qual = q

/-! ### the weakest readings -/
section
variable (X : Cx)
def wE (e : Expr) : TE := fun σ H Q => ∀ pins s, Inv X pins σ H s → wpAny (model X.prog X.w) X.A (eval e X.env) (EP X pins σ Q) X.xe s
def wT (e : Expr) : TT := fun σ H Q => ∀ pins s, Inv X pins σ H s → wpAny (model X.prog X.w) X.A (isTrue e X.env (eval e X.env)) (TP X pins σ Q) X.xe s
def wA (es : List Expr) : TA := fun σ H Q => ∀ pos pins s, Inv X pins σ H s → wpAny (model X.prog X.w) X.A (spliced (backTo pos (starEach es X.env))) (AP X pins σ Q) X.xe s
def wS (st : Stmt) : TS := fun D σ H => ∀ pins s, Inv X pins σ H s → wpAny (model X.prog X.w) X.A (exec st X.env) (SP X pins D) X.xe s
def wSs (st : List Stmt) : TS := fun D σ H => ∀ pins s, Inv X pins σ H s → wpAny (model X.prog X.w) X.A (execs st X.env) (SP X pins D) X.xe s
def wG (tg : Expr) : TG := fun v σ H Q => ∀ pins s u, Inv X pins σ H s → RelV v u → wpAny (model X.prog X.w) X.A (assign tg X.env u) (fun _ s' => ∃ σ' H', Inv X pins σ' H' s' ∧ Q σ' H') X.xe s
def wGs (ts : List Expr) : TGs := fun vs σ H Q => ∀ pins s us, Inv X pins σ H s → Vals vs us → wpAny (model X.prog X.w) X.A (assignInOrder ((assignEach ts X.env).map (·.2)) us) (fun _ s' => ∃ σ' H', Inv X pins σ' H' s' ∧ Q σ' H') X.xe s
def wO (f : Value → Value → Sem Value) : R2 := fun x y H Q => ∀ pins s σ v u, Inv X pins σ H s → RelV x v → RelV y u → wpAny (model X.prog X.w) X.A (f v u) (EP X pins σ Q) X.xe s
def wU (f : Value → Sem Value) : V → Hp → VK → Prop := fun x H Q => ∀ pins s σ v, Inv X pins σ H s → RelV x v → wpAny (model X.prog X.w) X.A (f v) (EP X pins σ Q) X.xe s
def wC (f : Value) : List V → Hp → VK → Prop := fun xs H Q => ∀ pins s σ us, Inv X pins σ H s → Vals xs us → wpAny (model X.prog X.w) X.A (call f us) (EP X pins σ Q) X.xe s
def wI (tg e : Expr) : TI := fun σ H R => ∀ pins s, Inv X pins σ H s → wpAny (model X.prog X.w) X.A (eval e X.env) (fun v s1 => wpAny (model X.prog X.w) X.A (pyIter v) (fun u s2 => (X.calm = true → PIE X pins σ tg R u s2) ∧ (X.calm = false → L2H.PIEH X pins σ tg R u s2)) X.xe s1) X.xe s
def wX (f : Value → Value → Sem Value) : R2 := wO X f
end
section
variable {X : Cx} {e tg : Expr} {es : List Expr} {st : Stmt} {sts : List Stmt} {σ : St} {H : Hp}
theorem wE_pe : PE X e (wE X e) := ⟨fun pins s _ _ _ I h => h pins s I⟩
theorem wT_pt : PT X e (wT X e) := ⟨fun pins s _ _ _ I h => h pins s I⟩
theorem wA_pa : PA X es (wA X es) := ⟨fun pos pins s _ _ _ I h => h pos pins s I⟩
theorem wS_ps : PS X st (wS X st) := ⟨fun pins s _ _ _ I h => h pins s I⟩
theorem wSs_pss : PSs X sts (wSs X sts) := ⟨fun pins s _ _ _ I h => h pins s I⟩
theorem wG_pg : PG X tg (wG X tg) := ⟨fun pins s _ _ _ u _ I r h => h pins s u I r⟩
theorem wGs_pgs : PGs X es (wGs X es) := ⟨fun pins s _ _ _ u _ I r h => h pins s u I r⟩
theorem wI_pi (hc : X.calm = true) : PI X tg e (wI X tg e) := ⟨fun pins s _ _ _ I h => thn (h pins s I) fun v s1 z => thn z fun u s2 y => y.1 hc⟩
theorem wI_piH (hc : X.calm = false) : L2H.PIH X tg e (wI X tg e) := ⟨fun pins s _ _ _ I h => thn (h pins s I) fun v s1 z => thn z fun u s2 y => y.2 hc⟩
theorem wO_r {f : Value → Value → Sem Value} : OpR X f (wO X f) := fun pins s σ _ _ _ v u _ I r1 r2 h => h pins s σ v u I r1 r2
theorem wU_r {f : Value → Sem Value} : UnR X f (wU X f) := fun pins s σ _ _ v _ I r1 h => h pins s σ v I r1
theorem wC_r {f : Value} : CallR X f (wC X f) := fun pins s σ _ _ us _ I r1 h => h pins s σ us I r1
theorem PEw {t : TE} {Q : VK} (h : PE X e t) (q : t σ H Q) : wE X e σ H Q := fun pins s I => h.run pins s σ H Q I q
theorem PTw {t : TT} {Q : Bool → Hp → Prop} (h : PT X e t) (q : t σ H Q) : wT X e σ H Q := fun pins s I => h.run pins s σ H Q I q
theorem PAw {t : TA} {Q : List V → Hp → Prop} (h : PA X es t) (q : t σ H Q) : wA X es σ H Q := fun pos pins s I => h.run pos pins s σ H Q I q
theorem PSw {t : TS} {D : Ends} (h : PS X st t) (q : t D σ H) : wS X st D σ H := fun pins s I => h.run pins s σ H D I q
theorem PSsw {t : TS} {D : Ends} (h : PSs X sts t) (q : t D σ H) : wSs X sts D σ H := fun pins s I => h.run pins s σ H D I q
theorem PGw {t : TG} {v : V} {Q : St → Hp → Prop} (h : PG X tg t) (q : t v σ H Q) : wG X tg v σ H Q := fun pins s u I r => h.run pins s σ H v u Q I r q
theorem PGsw {t : TGs} {vs : List V} {Q : St → Hp → Prop} (h : PGs X es t) (q : t vs σ H Q) : wGs X es vs σ H Q := fun pins s u I r => h.run pins s σ H vs u Q I r q
theorem PIw {t : TI} {R : It → Hp → Prop} (hc : X.calm = true) (h : PI X tg e t) (q : t σ H R) : wI X tg e σ H R := fun pins s I => thn (h.run pins s σ H R I q) fun v s1 z => thn z fun u s2 y => ⟨fun _ => y, (fun hf => by rw [hc] at hf; cases hf)⟩
theorem PIwB {t : TI} {R : It → Hp → Prop} (h : PI X tg e t) (h' : L2H.PIH X tg e t) (q : t σ H R) : wI X tg e σ H R := fun pins s I => by
  cases hc : X.calm with
  | true => exact thn (h.run pins s σ H R I q) fun v s1 z => thn z fun u s2 y => ⟨fun _ => y, (fun hf => by cases hf)⟩
  | false => exact thn (h'.run pins s σ H R I q) fun v s1 z => thn z fun u s2 y => ⟨(fun hf => by cases hf), fun _ => y⟩
theorem OpRw {f : Value → Value → Sem Value} {r : R2} {x y : V} {Q : VK} (h : OpR X f r) (q : r x y H Q) : wO X f x y H Q := fun pins s σ v u I r1 r2 => h pins s σ H x y v u Q I r1 r2 q
theorem UnRw {f : Value → Sem Value} {r : V → Hp → VK → Prop} {x : V} {Q : VK} (h : UnR X f r) (q : r x H Q) : wU X f x H Q := fun pins s σ v I r1 => h pins s σ H x v Q I r1 q
theorem CallRw {f : Value} {r : List V → Hp → VK → Prop} {xs : List V} {Q : VK} (h : CallR X f r) (q : r xs H Q) : wC X f xs H Q := fun pins s σ us I r1 => h pins s σ H xs us Q I r1 q
end

/-! ### the judgements -/
section
variable (S : Scp) (Γ : Cg)
structure JE (e : Expr) (δ : List Sl) (P : D → Prop) : Prop where
  run : ∀ X, COk S Γ X → ∀ σ G H, Stp Γ.K Γ.G0 Γ.H0 G H → EnvOk Γ.K G H Γ.H0 σ δ → ∀ Q : VK, (∀ v G' H' d, Stp Γ.K G H G' H' → Rep Γ.K G' H' d v → P d → Q v H') → wE X e σ H Q
/-- a new list of one's own -/
structure JF (e : Expr) (δ : List Sl) (P : List D → Prop) : Prop where
  run : ∀ X, COk S Γ X → ∀ σ G H, Stp Γ.K Γ.G0 Γ.H0 G H → EnvOk Γ.K G H Γ.H0 σ δ → ∀ Q : VK, (∀ p vs G' H' ds, Stp Γ.K G H G' H' → H p = none → G' p = none → H' p = some (.lst vs) → RepL Γ.K G' H' ds vs → P ds → Q (.ref p) H') → wE X e σ H Q
structure JT (e : Expr) (δ : List Sl) (P : Bool → Prop) : Prop where
  run : ∀ X, COk S Γ X → ∀ σ G H, Stp Γ.K Γ.G0 Γ.H0 G H → EnvOk Γ.K G H Γ.H0 σ δ → ∀ Q : Bool → Hp → Prop, (∀ b G' H', Stp Γ.K G H G' H' → P b → Q b H') → wT X e σ H Q
structure JA (es : List Expr) (δ : List Sl) (P : List D → Prop) : Prop where
  run : ∀ X, COk S Γ X → ∀ σ G H, Stp Γ.K Γ.G0 Γ.H0 G H → EnvOk Γ.K G H Γ.H0 σ δ → ∀ Q : List V → Hp → Prop, (∀ vs G' H' ds, Stp Γ.K G H G' H' → RepL Γ.K G' H' ds vs → P ds → Q vs H') → wA X es σ H Q
structure OpD (f : Value → Value → Sem Value) (x y : D) (P : D → Prop) : Prop where
  run : ∀ X, COk S Γ X → ∀ v u G H, Stp Γ.K Γ.G0 Γ.H0 G H → Rep Γ.K G H x v → Rep Γ.K G H y u → ∀ Q : VK, (∀ z G' H' d, Stp Γ.K G H G' H' → Rep Γ.K G' H' d z → P d → Q z H') → wO X f v u H Q
structure UnD (f : Value → Sem Value) (x : D) (P : D → Prop) : Prop where
  run : ∀ X, COk S Γ X → ∀ v G H, Stp Γ.K Γ.G0 Γ.H0 G H → Rep Γ.K G H x v → ∀ Q : VK, (∀ z G' H' d, Stp Γ.K G H G' H' → Rep Γ.K G' H' d z → P d → Q z H') → wU X f v H Q
structure CallD (f : Value) (xs : List D) (P : D → Prop) : Prop where
  run : ∀ X, COk S Γ X → ∀ vs G H, Stp Γ.K Γ.G0 Γ.H0 G H → RepL Γ.K G H xs vs → ∀ Q : VK, (∀ z G' H' d, Stp Γ.K G H G' H' → Rep Γ.K G' H' d z → P d → Q z H') → wC X f vs H Q
structure Kp where
  nx : List Sl → Prop
  rt : D → Prop
  bk : List Sl → Prop := fun _ => False
  ct : List Sl → Prop := fun _ => False
structure EndOk (K : Kp) (De : Ends) (G H : Hp) : Prop where
  nx : ∀ σ' G' H' δ', Stp Γ.K Γ.G0 Γ.H0 G' H' → Mo Γ.K G H G' H' → EnvOk Γ.K G' H' Γ.H0 σ' δ' → K.nx δ' → De.nx σ' H'
  bk : ∀ σ' G' H' δ', Stp Γ.K Γ.G0 Γ.H0 G' H' → Mo Γ.K G H G' H' → EnvOk Γ.K G' H' Γ.H0 σ' δ' → K.bk δ' → De.bk σ' H'
  ct : ∀ σ' G' H' δ', Stp Γ.K Γ.G0 Γ.H0 G' H' → Mo Γ.K G H G' H' → EnvOk Γ.K G' H' Γ.H0 σ' δ' → K.ct δ' → De.ct σ' H'
  rt : ∀ v G' H' d, Stp Γ.K Γ.G0 Γ.H0 G' H' → Rep Γ.K G' H' d v → K.rt d → De.rt v H'
  rf : ∀ v as t G' H', Stp Γ.K Γ.G0 Γ.H0 G' H' → MRep Γ.K G' H' t v as → as.Nodup → (∀ a ∈ as, G' a = none ∧ Γ.H0 a = none) → Γ.rf t → De.rt v H'
theorem EndOk.go {Γ : Cg} {K : Kp} {De : Ends} {G H G1 H1 : Hp} (en : EndOk Γ K De G H) (m : Mo Γ.K G H G1 H1) : EndOk Γ K De G1 H1 :=
  ⟨fun σ' G' H' δ' s m' => en.nx σ' G' H' δ' s (m.trans m'), fun σ' G' H' δ' s m' => en.bk σ' G' H' δ' s (m.trans m'), fun σ' G' H' δ' s m' => en.ct σ' G' H' δ' s (m.trans m'), en.rt, en.rf⟩
structure JS (st : Stmt) (δ : List Sl) (K : Kp) : Prop where
  run : ∀ X, COk S Γ X → ∀ σ G H De, Stp Γ.K Γ.G0 Γ.H0 G H → EnvOk Γ.K G H Γ.H0 σ δ → EndOk Γ K De G H → wS X st De σ H
structure JSs (st : List Stmt) (δ : List Sl) (K : Kp) : Prop where
  run : ∀ X, COk S Γ X → ∀ σ G H De, Stp Γ.K Γ.G0 Γ.H0 G H → EnvOk Γ.K G H Γ.H0 σ δ → EndOk Γ K De G H → wSs X st De σ H
structure JG (tg : Expr) (d : D) (δ : List Sl) (P : List Sl → Prop) : Prop where
  run : ∀ X, COk S Γ X → ∀ v σ G H, Stp Γ.K Γ.G0 Γ.H0 G H → EnvOk Γ.K G H Γ.H0 σ δ → Rep Γ.K G H d v → ∀ Q : St → Hp → Prop, (∀ σ' G' H' δ', Stp Γ.K G H G' H' → EnvOk Γ.K G' H' Γ.H0 σ' δ' → P δ' → Q σ' H') → wG X tg v σ H Q
structure JGs (tgs : List Expr) (ds : List D) (δ : List Sl) (P : List Sl → Prop) : Prop where
  run : ∀ X, COk S Γ X → ∀ vs σ G H, Stp Γ.K Γ.G0 Γ.H0 G H → EnvOk Γ.K G H Γ.H0 σ δ → RepL Γ.K G H ds vs → ∀ Q : St → Hp → Prop, (∀ σ' G' H' δ', Stp Γ.K G H G' H' → EnvOk Γ.K G' H' Γ.H0 σ' δ' → P δ' → Q σ' H') → wGs X tgs vs σ H Q
end

section
variable {S : Scp} {Γ : Cg} {δ : List Sl} {P : D → Prop} {PB : Bool → Prop} {PL : List D → Prop} {K : Kp} {a b c e : Expr} {es rest : List Expr} {pos : Pos}

/-! ### expressions -/
theorem je_name {x : Str} {i : Nat} {d : D} (hv : (x, i) ∈ S.vs) (hδ : δ[i]? = some (.fz d)) (h : P d) (hd : (x == ("__debug__" : Str)) = false := by decide) (hcd : (x == ("__classdict__" : Str)) = false := by decide) : JE S Γ (.Name x pos) δ P := by
  refine ⟨fun X hX σ G H st ev Q k => ?_⟩
  obtain ⟨h1, h2⟩ := hX.so.vs _ hv
  obtain ⟨v, e, r⟩ := ev.fz hδ
  exact PEw (pe_var (by rw [hX.N]; exact h1) (by rw [hX.sc]; exact h2) hd hcd) ⟨v, e, k v G H d (.refl st.sub) r h⟩
theorem rep_int {K : PySem.W.Frag} {G H : Hp} {i : Int} : Rep K G H (.int i) (.int i) := by unfold Rep; rfl
theorem rep_bl {K : PySem.W.Frag} {G H : Hp} {i : Bool} : Rep K G H (.bl i) (.bl i) := by unfold Rep; rfl
theorem rep_non {K : PySem.W.Frag} {G H : Hp} : Rep K G H .non .non := by unfold Rep; rfl
theorem rep_str {K : PySem.W.Frag} {G H : Hp} {x : Str} : Rep K G H (.str x) (.str x) := by unfold Rep; rfl
theorem je_int {i : Int} {j : Nat} (h : P (.int i)) : JE S Γ (.Constant (.int i) j pos) δ P := ⟨fun X hX σ G H st ev Q k => PEw pe_int (k _ G H _ (.refl st.sub) rep_int h)⟩
theorem je_bl {i : Bool} {j : Nat} (h : P (.bl i)) : JE S Γ (.Constant (.bool i) j pos) δ P := ⟨fun X hX σ G H st ev Q k => PEw pe_bl (k _ G H _ (.refl st.sub) rep_bl h)⟩
theorem je_non {j : Nat} (h : P .non) : JE S Γ (.Constant .none j pos) δ P := ⟨fun X hX σ G H st ev Q k => PEw pe_non (k _ G H _ (.refl st.sub) rep_non h)⟩
theorem je_str {x : Str} {j : Nat} (h : P (.str x)) : JE S Γ (.Constant (.str x) j pos) δ P := ⟨fun X hX σ G H st ev Q k => PEw pe_str (k _ G H _ (.refl st.sub) rep_str h)⟩
/-- a global of the module that is a known address (a class, a def) -/
theorem je_globA {x : Str} {A : Addr} (hg : x ∈ S.gl) (hm : Γ.mg x = some (.ref A)) (h : P (.cls A)) (hd : (x == ("__debug__" : Str)) = false := by decide) : JE S Γ (.Name x pos) δ P := by
  refine ⟨fun X hX σ G H st ev Q k => ?_⟩
  have hk : Gl X x := by show X.env.scope.names.lookup x = _; rw [hX.sc]; exact hX.so.gl x hg
  exact PEw (pe_glob (v := .ref A) hk (by rw [hX.mg]; exact hm) rfl hd) (k _ G H _ (.refl st.sub) (by unfold Rep; rfl) h)
theorem je_globT {x : Str} {T : String} (hg : x ∈ S.gl) (hm : Γ.mg x = none) (hb : bootBuiltins x = some (.type T)) (h : P (.ty T)) (hn : x ≠ "__name__" := by decide) (hd : (x == ("__debug__" : Str)) = false := by decide) : JE S Γ (.Name x pos) δ P := by
  refine ⟨fun X hX σ G H st ev Q k => ?_⟩
  have hk : Gl X x := by show X.env.scope.names.lookup x = _; rw [hX.sc]; exact hX.so.gl x hg
  exact PEw (pe_bltn (v := .ty T) hk (by rw [hX.mg]; exact hm) hb rfl hn hd) (k _ G H _ (.refl st.sub) (by unfold Rep; rfl) h)
theorem je_bin {op : Operator} (h : JE S Γ a δ fun x => JE S Γ b δ fun y => OpD S Γ (binaryOp op) x y P) : JE S Γ (.BinOp a op b pos) δ P := by
  refine ⟨fun X hX σ G H st ev Q k => ?_⟩
  refine PEw (pe_op wO_r wE_pe wE_pe) ?_
  refine h.run X hX σ G H st ev _ fun v G1 H1 x s1 r1 h1 => ?_
  refine h1.run X hX σ G1 H1 (st.trans s1) (ev.mono s1) _ fun u G2 H2 y s2 r2 h2 => ?_
  exact h2.run X hX v u G2 H2 ((st.trans s1).trans s2) (r1.mono s2) r2 Q fun z G' H' d s r p => k z G' H' d ((s1.trans s2).trans s) r p
theorem je_un {op : UnaryOp} (h : JE S Γ a δ fun x => UnD S Γ (unaryOp op) x P) : JE S Γ (.UnaryOp op a pos) δ P := by
  refine ⟨fun X hX σ G H st ev Q k => ?_⟩
  refine PEw (pe_un wU_r wE_pe) ?_
  refine h.run X hX σ G H st ev _ fun v G1 H1 x s1 r1 h1 => ?_
  exact h1.run X hX v G1 H1 (st.trans s1) r1 Q fun z G' H' d s r p => k z G' H' d (s1.trans s) r p
theorem je_cmp {op : CmpOp} (hm : behindInMarks op b = false) (h : JE S Γ a δ fun x => JE S Γ b δ fun y => OpD S Γ (compareOp op) x y P) : JE S Γ (.Compare a [op] [b] pos) δ P := by
  refine ⟨fun X hX σ G H st ev Q k => ?_⟩
  refine PEw (pe_cmpR wO_r wE_pe wE_pe hm) ?_
  refine h.run X hX σ G H st ev _ fun v G1 H1 x s1 r1 h1 => ?_
  refine h1.run X hX σ G1 H1 (st.trans s1) (ev.mono s1) _ fun u G2 H2 y s2 r2 h2 => ?_
  exact h2.run X hX v u G2 H2 ((st.trans s1).trans s2) (r1.mono s2) r2 Q fun z G' H' d s r p => k z G' H' d ((s1.trans s2).trans s) r p
def isBl (P : Bool → Prop) (d : D) : Prop := match d with | .bl b => P b | _ => False
theorem isBl_v {K : PySem.W.Frag} {G H : Hp} {PB : Bool → Prop} {d : D} {v : V} (h : isBl PB d) (r : Rep K G H d v) : ∃ b, v = .bl b ∧ d = .bl b ∧ PB b := by
  cases d <;> first | exact h.elim | skip
  unfold Rep at r
  exact ⟨_, r, rfl, h⟩
theorem jt_cmp {op : CmpOp} (hm : behindInMarks op b = false) (h : JE S Γ a δ fun x => JE S Γ b δ fun y => OpD S Γ (compareOp op) x y (isBl PB)) : JT S Γ (.Compare a [op] [b] pos) δ PB := by
  refine ⟨fun X hX σ G H st ev Q k => ?_⟩
  refine PTw (pt_cmpR wO_r wE_pe wE_pe hm) ?_
  refine h.run X hX σ G H st ev _ fun v G1 H1 x s1 r1 h1 => ?_
  refine h1.run X hX σ G1 H1 (st.trans s1) (ev.mono s1) _ fun u G2 H2 y s2 r2 h2 => ?_
  refine h2.run X hX v u G2 H2 ((st.trans s1).trans s2) (r1.mono s2) r2 _ fun z G' H' d s r p => ?_
  obtain ⟨bb, e1, e2, q⟩ := isBl_v p r
  exact ⟨bb, e1, k bb G' H' ((s1.trans s2).trans s) q⟩
/-- a test by a bool value -/
theorem jt_val (h : JE S Γ e δ (isBl PB)) (he : ∀ env whole, isTrue e env whole = (do let v ← whole; standAt e.pos; holding [v] (truthy v))) : JT S Γ e δ PB := by
  refine ⟨fun X hX σ G H st ev Q k => ?_⟩
  refine PTw (pt_val wE_pe (he _)) ?_
  refine h.run X hX σ G H st ev _ fun v G1 H1 x s1 r1 h1 => ?_
  obtain ⟨bb, e1, e2, q⟩ := isBl_v h1 r1
  exact ⟨bb, e1, k bb G1 H1 s1 q⟩
theorem jt_not (h : JT S Γ a δ fun t => PB (!t)) : JT S Γ (.UnaryOp .Not a pos) δ PB := by
  refine ⟨fun X hX σ G H st ev Q k => ?_⟩
  refine PTw (pt_not wT_pt) ?_
  exact h.run X hX σ G H st ev _ fun b G1 H1 s1 p => k (!b) G1 H1 s1 p
/-- and / or: the rest is asked as a whole of its own -/
def wTw (X : Cx) (e : Expr) : TT := fun σ H Q => ∀ (whole : Sem Value) pins s, Inv X pins σ H s → wpAny (model X.prog X.w) X.A (isTrue e X.env whole) (TP X pins σ Q) X.xe s
structure JW (S : Scp) (Γ : Cg) (e : Expr) (δ : List Sl) (P : Bool → Prop) : Prop where
  run : ∀ X, COk S Γ X → ∀ σ G H, Stp Γ.K Γ.G0 Γ.H0 G H → EnvOk Γ.K G H Γ.H0 σ δ → ∀ Q : Bool → Hp → Prop, (∀ b G' H', Stp Γ.K G H G' H' → P b → Q b H') → wTw X e σ H Q
theorem wTw_pw {X : Cx} : PW X e (wTw X e) := ⟨fun wh pins s _ _ _ I h => h wh pins s I⟩
theorem jw_t (h : JW S Γ e δ PB) : JT S Γ e δ PB := ⟨fun X hX σ G H st ev Q k pins s I => h.run X hX σ G H st ev Q k _ pins s I⟩
theorem jw_and1 (h : JT S Γ a δ PB) : JW S Γ (.BoolOp .And [a] pos) δ PB := by
  refine ⟨fun X hX σ G H st ev Q k wh pins s I => ?_⟩
  exact (pw_and1 wT_pt).run wh pins s σ H Q I (h.run X hX σ G H st ev Q k)
theorem jw_or1 (h : JT S Γ a δ PB) : JW S Γ (.BoolOp .Or [a] pos) δ PB := by
  refine ⟨fun X hX σ G H st ev Q k wh pins s I => ?_⟩
  exact (pw_or1 wT_pt).run wh pins s σ H Q I (h.run X hX σ G H st ev Q k)
theorem jw_and (h : JT S Γ a δ fun t => if t = true then JW S Γ (.BoolOp .And (b :: rest) pos) δ PB else PB false) : JW S Γ (.BoolOp .And (a :: b :: rest) pos) δ PB := by
  refine ⟨fun X hX σ G H st ev Q k wh pins s I => ?_⟩
  refine (pw_and wT_pt wTw_pw).run wh pins s σ H Q I ?_
  refine h.run X hX σ G H st ev _ fun t G1 H1 s1 p => ?_
  cases t with
  | false => exact L2.iteF (k _ G1 H1 s1 p)
  | true => exact L2.iteT ((show JW _ _ _ _ _ from p).run X hX σ G1 H1 (st.trans s1) (ev.mono s1) Q fun b G2 H2 s2 q => k b G2 H2 (s1.trans s2) q)
theorem jw_or (h : JT S Γ a δ fun t => if t = true then PB true else JW S Γ (.BoolOp .Or (b :: rest) pos) δ PB) : JW S Γ (.BoolOp .Or (a :: b :: rest) pos) δ PB := by
  refine ⟨fun X hX σ G H st ev Q k wh pins s I => ?_⟩
  refine (pw_or wT_pt wTw_pw).run wh pins s σ H Q I ?_
  refine h.run X hX σ G H st ev _ fun t G1 H1 s1 p => ?_
  cases t with
  | true => exact L2.iteT (k _ G1 H1 s1 p)
  | false => exact L2.iteF ((show JW _ _ _ _ _ from p).run X hX σ G1 H1 (st.trans s1) (ev.mono s1) Q fun b G2 H2 s2 q => k b G2 H2 (s1.trans s2) q)
/-! .. as values -/
theorem je_one {op : BoolOp} (h : JE S Γ a δ P) : JE S Γ (.BoolOp op [a] pos) δ P := ⟨fun X hX σ G H st ev Q k => PEw (pe_one wE_pe) (h.run X hX σ G H st ev Q k)⟩
theorem je_and (h : JE S Γ a δ (isBl fun t => if t = true then JE S Γ (.BoolOp .And (b :: rest) pos) δ P else P (.bl false))) : JE S Γ (.BoolOp .And (a :: b :: rest) pos) δ P := by
  refine ⟨fun X hX σ G H st ev Q k => ?_⟩
  refine PEw (pe_and wE_pe wE_pe) ?_
  refine h.run X hX σ G H st ev _ fun v G1 H1 x s1 r1 h1 => ?_
  obtain ⟨bb, e1, e2, q⟩ := isBl_v h1 r1
  refine ⟨bb, e1, ?_⟩
  cases bb with
  | false => exact L2.iteF (k _ G1 H1 _ s1 rep_bl q)
  | true => exact L2.iteT ((show JE _ _ _ _ _ from q).run X hX σ G1 H1 (st.trans s1) (ev.mono s1) Q fun v G2 H2 d s2 r p => k v G2 H2 d (s1.trans s2) r p)
theorem je_not (h : JE S Γ a δ (isBl fun t => P (.bl (!t)))) : JE S Γ (.UnaryOp .Not a pos) δ P := by
  refine ⟨fun X hX σ G H st ev Q k => ?_⟩
  refine PEw (L2.pe_not wE_pe) ?_
  refine h.run X hX σ G H st ev _ fun v G1 H1 x s1 r1 h1 => ?_
  obtain ⟨bb, e1, e2, q⟩ := isBl_v h1 r1
  exact ⟨bb, e1, k _ G1 H1 _ s1 rep_bl q⟩
/-! ### argument lists, displays -/
theorem ja_nil (h : PL []) : JA S Γ [] δ PL := ⟨fun X hX σ G H st ev Q k => PAw pa_nil (k _ G H _ (.refl st.sub) .nil h)⟩
theorem ja_cons (hs : ∀ env, starEach (e :: es) env = (false, eval e env) :: starEach es env) (h : JE S Γ e δ fun d => JA S Γ es δ fun ds => PL (d :: ds)) : JA S Γ (e :: es) δ PL := by
  refine ⟨fun X hX σ G H st ev Q k => ?_⟩
  refine PAw (pa_cons wE_pe wA_pa (hs _)) ?_
  refine h.run X hX σ G H st ev _ fun v G1 H1 x s1 r1 h1 => ?_
  refine h1.run X hX σ G1 H1 (st.trans s1) (ev.mono s1) _ fun vs G2 H2 ds s2 r2 h2 => ?_
  exact k _ G2 H2 _ (s1.trans s2) (.cons (r1.mono s2) r2) h2
theorem je_tup {k : Nat} (h : JA S Γ es δ fun ds => ds.length ≤ sizeLine ∧ P (.tup ds)) : JE S Γ (.Tuple es k pos) δ P := by
  refine ⟨fun X hX σ G H st ev Q kk => ?_⟩
  refine PEw (pe_tup wA_pa) ?_
  refine h.run X hX σ G H st ev _ fun vs G1 H1 ds s1 r1 h1 => ?_
  refine ⟨by rw [r1.length]; exact h1.1, fun p hp => ?_⟩
  have s2 : Stp Γ.K G1 H1 (upd G1 p (.tup vs)) (upd H1 p (.tup vs)) := .new s1.sub hp
  refine kk _ _ _ (.tup ds) (s1.trans s2) ?_ h1.2
  unfold Rep
  exact ⟨p, vs, rfl, upd_same, r1.mono s2⟩
theorem jf_lst (h : JA S Γ es δ fun ds => ds.length ≤ sizeLine ∧ PL ds) : JF S Γ (.List es pos) δ PL := by
  refine ⟨fun X hX σ G H st ev Q kk => ?_⟩
  refine PEw (pe_lst wA_pa) ?_
  refine h.run X hX σ G H st ev _ fun vs G1 H1 ds s1 r1 h1 => ?_
  refine ⟨by rw [r1.length]; exact h1.1, fun p hp => ?_⟩
  have s2 : Stp Γ.K G1 H1 G1 (upd H1 p (.lst vs)) := .newM s1.sub hp
  exact kk p vs G1 _ ds (s1.trans s2) (s1.free hp) (s1.sub.free hp) upd_same (r1.mono s2) h1.2
/-- a new list, never changed afterwards -/
theorem jf_je (h : JF S Γ e δ fun ds => P (.lst ds)) : JE S Γ e δ P := by
  refine ⟨fun X hX σ G H st ev Q kk => ?_⟩
  refine h.run X hX σ G H st ev _ fun p vs G1 H1 ds s1 hp gp h1 r h2 => ?_
  refine kk _ _ _ (.lst ds) (s1.freeze hp h1 gp) ?_ h2
  unfold Rep
  exact ⟨p, vs, rfl, upd_same, r.mo (.freeze h1 gp)⟩
end
end Z
set_option Elab.async false
set_option linter.all false
set_option maxRecDepth 100000
set_option maxHeartbeats 4000000
/-! Z2: subscripts, operations, built-in calls, calls of defs. -/
namespace Z
open PySem L2
variable [tabsI : TabsT]

section
variable {S : Scp} {Γ : Cg} {δ : List Sl} {P : D → Prop} {PB : Bool → Prop} {PL : List D → Prop} {a b c e : Expr} {es rest : List Expr} {pos : Pos}

/-! ### a[b] -/
def wIx (X : Cx) : R2 := fun x y H Q => ∀ (value slice : Expr) pins s σ v u, Inv X pins σ H s → RelV x v → RelV y u → subscripted slice false v u = operate [v, u] (getItem v u) → wpAny (model X.prog X.w) X.A (PyProof.Rows.subscriptTail value slice v u) (EP X pins σ Q) X.xe s
theorem wIx_r {X : Cx} : IxR X (wIx X) := fun value slice pins s σ _ _ _ v u _ I r1 r2 h hs => h value slice pins s σ v u I r1 r2 hs
theorem IxRw {X : Cx} {r : R2} {x y : V} {H : Hp} {Q : VK} (h : IxR X r) (q : r x y H Q) : wIx X x y H Q := fun value slice pins s σ v u I r1 r2 hs => h value slice pins s σ H x y v u Q I r1 r2 q hs
structure IxD (S : Scp) (Γ : Cg) (x y : D) (P : D → Prop) : Prop where
  run : ∀ X, COk S Γ X → ∀ v u G H, Stp Γ.K Γ.G0 Γ.H0 G H → Rep Γ.K G H x v → Rep Γ.K G H y u → ∀ Q : VK, (∀ z G' H' d, Stp Γ.K G H G' H' → Rep Γ.K G' H' d z → P d → Q z H') → wIx X v u H Q
theorem je_ix (hs : PlainIx b) (h : JE S Γ a δ fun x => JE S Γ b δ fun y => IxD S Γ x y P) : JE S Γ (.Subscript a b pos) δ P := by
  refine ⟨fun X hX σ G H st ev Q k => ?_⟩
  refine PEw (pe_ix wIx_r wE_pe wE_pe hs) ?_
  refine h.run X hX σ G H st ev _ fun v G1 H1 x s1 r1 h1 => ?_
  refine h1.run X hX σ G1 H1 (st.trans s1) (ev.mono s1) _ fun u G2 H2 y s2 r2 h2 => ?_
  exact h2.run X hX v u G2 H2 ((st.trans s1).trans s2) (r1.mono s2) r2 Q fun z G' H' d s r p => k z G' H' d ((s1.trans s2).trans s) r p
theorem RepL.atI {K : PySem.W.Frag} {G H : Hp} {ds : List D} {vs : List V} {i : Int} {d : D} (h : RepL K G H ds vs) (e : L2.atI ds i = some d) : ∃ v, L2.atI vs i = some v ∧ Rep K G H d v := by
  unfold L2.atI at e ⊢
  rw [h.length]
  cases q : ixN ds.length i with
  | none => rw [q] at e; cases e
  | some j =>
    rw [q] at e
    exact h.get (show ds[j]? = some d from e)
theorem ixd_tup {ds : List D} {i : Int} {d : D} (e : L2.atI ds i = some d) (h : P d) : IxD S Γ (.tup ds) (.int i) P := by
  refine ⟨fun X hX v u G H st r1 r2 Q k => ?_⟩
  unfold Rep at r1 r2
  obtain ⟨p, vs, rfl, h1, h2⟩ := r1
  subst r2
  obtain ⟨z, e1, r⟩ := h2.atI e
  refine IxRw ix_tup ⟨p, vs, i, z, rfl, rfl, ?_, e1, k z G H d (.refl st.sub) r h⟩
  rw [hX.K]
  exact Same.tup st.sub h1
theorem ixd_lst {ds : List D} {i : Int} {d : D} (e : L2.atI ds i = some d) (h : P d) : IxD S Γ (.lst ds) (.int i) P := by
  refine ⟨fun X hX v u G H st r1 r2 Q k => ?_⟩
  unfold Rep at r1 r2
  obtain ⟨p, vs, rfl, h1, h2⟩ := r1
  subst r2
  obtain ⟨z, e1, r⟩ := h2.atI e
  exact IxRw ix_list ⟨p, vs, i, z, rfl, rfl, .inl (.inl (st.sub _ _ h1)), e1, k z G H d (.refl st.sub) r h⟩
/-! ### operations on ints -/
/-- an operation on ints, its rule in HandS -/
theorem opd_I {f : Value → Value → Sem Value} {C : Int → Int → Prop} {g : Int → Int → Int} (hr : ∀ X, OpR X f (rI C fun i j => .int (g i j))) {i j : Int} (hc : C i j) (h : P (.int (g i j))) : OpD S Γ f (.int i) (.int j) P := by
  refine ⟨fun X hX v u G H st r1 r2 Q k => ?_⟩
  unfold Rep at r1 r2
  subst r1 r2
  exact OpRw (hr X) ⟨i, j, rfl, rfl, hc, k _ G H _ (.refl st.sub) rep_int h⟩
theorem opd_I0 {f : Value → Value → Sem Value} {g : Int → Int → Int} (hr : ∀ X, OpR X f (rI0 fun i j => .int (g i j))) {i j : Int} (h : P (.int (g i j))) : OpD S Γ f (.int i) (.int j) P := by
  refine ⟨fun X hX v u G H st r1 r2 Q k => ?_⟩
  unfold Rep at r1 r2
  subst r1 r2
  exact OpRw (hr X) ⟨i, j, rfl, rfl, k _ G H _ (.refl st.sub) rep_int h⟩
theorem opd_B0 {f : Value → Value → Sem Value} {g : Int → Int → Bool} (hr : ∀ X, OpR X f (rI0 fun i j => .bl (g i j))) {i j : Int} (h : P (.bl (g i j))) : OpD S Γ f (.int i) (.int j) P := by
  refine ⟨fun X hX v u G H st r1 r2 Q k => ?_⟩
  unfold Rep at r1 r2
  subst r1 r2
  exact OpRw (hr X) ⟨i, j, rfl, rfl, k _ G H _ (.refl st.sub) rep_bl h⟩
theorem od_add {i j : Int} (h : P (.int (i + j))) : OpD S Γ (binaryOp .Add) (.int i) (.int j) P := opd_I0 (fun _ => op_add) h
theorem od_sub {i j : Int} (h : P (.int (i - j))) : OpD S Γ (binaryOp .Sub) (.int i) (.int j) P := opd_I0 (fun _ => op_sub) h
theorem op_mulG {X : Cx} : OpR X (binaryOp .Mult) (rI IntMulOk fun i j => .int (i * j)) := opI fun _ _ _ _ _ _ _ hc q => PyProof.Rows.mul_int q hc
theorem op_fdivG {X : Cx} : OpR X (binaryOp .FloorDiv) (rI (fun i j => 0 < j ∧ Builtin.divisionGoesByPylong i j = false) fun i j => .int (i / j)) := opI fun i j _ _ _ _ _ hc q => by
  have h1 : (0 : Int) < j := hc.1
  exact PyProof.Rows.floordiv_int (by omega) (by rw [Int.fdiv_eq_ediv_of_nonneg i (by omega)]; exact q) (.inl hc.2)
theorem od_mul {i j : Int} (hc : IntMulOk i j) (h : P (.int (i * j))) : OpD S Γ (binaryOp .Mult) (.int i) (.int j) P := opd_I (fun _ => op_mulG) hc h
theorem od_fdiv {i j : Int} (hj : 0 < j) (hp : Builtin.divisionGoesByPylong i j = false) (h : P (.int (i / j))) : OpD S Γ (binaryOp .FloorDiv) (.int i) (.int j) P := opd_I (fun _ => op_fdivG) ⟨hj, hp⟩ h
theorem od_mod {i j : Int} (hj : 0 < j) (h : P (.int (i % j))) : OpD S Γ (binaryOp .Mod) (.int i) (.int j) P := opd_I (fun _ => op_mod) hj h
theorem od_pow {i j : Int} (hj : CPow i j) (h : P (.int (i ^ j.toNat))) : OpD S Γ (binaryOp .Pow) (.int i) (.int j) P := opd_I (fun _ => op_pow) hj h
theorem od_iadd {i j : Int} (h : P (.int (i + j))) : OpD S Γ (inplaceOp .Add) (.int i) (.int j) P := opd_I0 (fun _ => iop_add) h
theorem od_isub {i j : Int} (h : P (.int (i - j))) : OpD S Γ (inplaceOp .Sub) (.int i) (.int j) P := opd_I0 (fun _ => iop_sub) h
theorem od_lt {i j : Int} (h : P (.bl (decide (i < j)))) : OpD S Γ (compareOp .Lt) (.int i) (.int j) P := opd_B0 (fun _ => op_lt) h
theorem od_le {i j : Int} (h : P (.bl (decide (i ≤ j)))) : OpD S Γ (compareOp .LtE) (.int i) (.int j) P := opd_B0 (fun _ => op_le) h
theorem od_gt {i j : Int} (h : P (.bl (decide (j < i)))) : OpD S Γ (compareOp .Gt) (.int i) (.int j) P := opd_B0 (fun _ => op_gt) h
theorem od_ge {i j : Int} (h : P (.bl (decide (j ≤ i)))) : OpD S Γ (compareOp .GtE) (.int i) (.int j) P := opd_B0 (fun _ => op_ge) h
theorem dec_V_int {i j : Int} : decide (V.int i = V.int j) = decide (i = j) := by
  by_cases e : i = j
  · subst e; simp
  · rw [decide_eq_false e, decide_eq_false (fun q => e (V.int.inj q))]
theorem dec_V_str {i j : Str} : decide (V.str i = V.str j) = decide (i = j) := by
  by_cases e : i = j
  · subst e; simp
  · rw [decide_eq_false e, decide_eq_false (fun q => e (V.str.inj q))]
theorem dec_V_bl {i j : Bool} : decide (V.bl i = V.bl j) = decide (i = j) := by
  cases i <;> cases j <;> decide
theorem od_eq {i j : Int} (h : P (.bl (decide (i = j)))) : OpD S Γ (compareOp .Eq) (.int i) (.int j) P := by
  refine ⟨fun X hX v u G H st r1 r2 Q k => ?_⟩
  unfold Rep at r1 r2
  subst r1 r2
  exact OpRw op_eq ⟨rfl, by rw [dec_V_int]; exact k _ G H _ (.refl st.sub) rep_bl h⟩
theorem od_ne {i j : Int} (h : P (.bl (!decide (i = j)))) : OpD S Γ (compareOp .NotEq) (.int i) (.int j) P := by
  refine ⟨fun X hX v u G H st r1 r2 Q k => ?_⟩
  unfold Rep at r1 r2
  subst r1 r2
  exact OpRw op_ne ⟨rfl, by rw [dec_V_int]; exact k _ G H _ (.refl st.sub) rep_bl h⟩
theorem od_eqS {i j : Str} (h : P (.bl (decide (i = j)))) : OpD S Γ (compareOp .Eq) (.str i) (.str j) P := by
  refine ⟨fun X hX v u G H st r1 r2 Q k => ?_⟩
  unfold Rep at r1 r2
  subst r1 r2
  exact OpRw op_eq ⟨rfl, by rw [dec_V_str]; exact k _ G H _ (.refl st.sub) rep_bl h⟩
theorem od_eqB {i j : Bool} (h : P (.bl (decide (i = j)))) : OpD S Γ (compareOp .Eq) (.bl i) (.bl j) P := by
  refine ⟨fun X hX v u G H st r1 r2 Q k => ?_⟩
  unfold Rep at r1 r2
  subst r1 r2
  exact OpRw op_eq ⟨rfl, by rw [dec_V_bl]; exact k _ G H _ (.refl st.sub) rep_bl h⟩
theorem ud_neg {i : Int} (h : P (.int (-i))) : UnD S Γ (unaryOp .USub) (.int i) P := by
  refine ⟨fun X hX v G H st r1 Q k => ?_⟩
  unfold Rep at r1
  subst r1
  exact UnRw un_neg ⟨i, rfl, k _ G H _ (.refl st.sub) rep_int h⟩
/-- x is None -/
def isNon : D → Bool | .non => true | _ => false
theorem rep_non_iff {K : PySem.W.Frag} {G H : Hp} : ∀ {d : D} {v : V}, Rep K G H d v → decide (v = .non) = isNon d := by
  intro d v r
  cases d <;> unfold Rep at r
  case non => subst r; rfl
  case bl => subst r; rfl
  case int => subst r; rfl
  case str => subst r; rfl
  case cls => subst r; rfl
  case ty => subst r; rfl
  case tup => obtain ⟨_, _, e, _⟩ := r; subst e; rfl
  case dic => obtain ⟨_, _, _, e, _⟩ := r; subst e; rfl
  case lst => obtain ⟨_, _, e, _⟩ := r; subst e; rfl
  case obj => obtain ⟨_, _, _, e, _⟩ := r; subst e; rfl
  case sto => obtain ⟨_, e, _⟩ := r; subst e; rfl
  case scr => obtain ⟨_, e, _⟩ := r; subst e; rfl
  case exc => obtain ⟨e, _⟩ := r; subst e; rfl
theorem od_isN {x : D} (h : P (.bl (isNon x))) : OpD S Γ (compareOp .Is) x .non P := by
  refine ⟨fun X hX v u G H st r1 r2 Q k => ?_⟩
  have e := rep_non_iff r1
  unfold Rep at r2
  subst r2
  exact OpRw op_isN ⟨rfl, by rw [e]; exact k _ G H _ (.refl st.sub) rep_bl h⟩
/-- lists put together: a new list -/
structure OpF (S : Scp) (Γ : Cg) (f : Value → Value → Sem Value) (x y : D) (P : List D → Prop) : Prop where
  run : ∀ X, COk S Γ X → ∀ v u G H, Stp Γ.K Γ.G0 Γ.H0 G H → Rep Γ.K G H x v → Rep Γ.K G H y u → ∀ Q : VK, (∀ p vs G' H' ds, Stp Γ.K G H G' H' → H p = none → G' p = none → H' p = some (.lst vs) → RepL Γ.K G' H' ds vs → P ds → Q (.ref p) H') → wO X f v u H Q
theorem of_cat {xs ys : List D} (hl : xs.length + ys.length ≤ sizeLine) (h : PL (xs ++ ys)) : OpF S Γ (binaryOp .Add) (.lst xs) (.lst ys) PL := by
  refine ⟨fun X hX v u G H st r1 r2 Q k => ?_⟩
  unfold Rep at r1 r2
  obtain ⟨p, vs, rfl, h1, h2⟩ := r1
  obtain ⟨p', vs', rfl, h1', h2'⟩ := r2
  refine OpRw op_cat ⟨p, p', vs, vs', rfl, rfl, st.sub _ _ h1, st.sub _ _ h1', by rw [h2.length, h2'.length]; exact hl, fun q hq => ?_⟩
  have s2 : Stp Γ.K G H G (upd H q (.lst (vs ++ vs'))) := .newM st.sub hq
  exact k q _ G _ (xs ++ ys) s2 hq (st.sub.free hq) upd_same ((h2.append h2').mono s2) h
theorem of_od {f : Value → Value → Sem Value} {x y : D} (h : OpF S Γ f x y fun ds => P (.lst ds)) : OpD S Γ f x y P := by
  refine ⟨fun X hX v u G H st r1 r2 Q k => ?_⟩
  refine h.run X hX v u G H st r1 r2 Q fun p vs G1 H1 ds s1 hp gp h1 r h2 => ?_
  refine k _ _ _ (.lst ds) (s1.freeze hp h1 gp) ?_ h2
  unfold Rep
  exact ⟨p, vs, rfl, upd_same, r.mo (.freeze h1 gp)⟩
/-! ### built-in calls -/
theorem je_callB {x : Str} {id : String} {p : Pos} (hg : x ∈ S.gl) (hm : Γ.mg x = none) (hv : bootBuiltins x = some (.builtin id)) (h : JA S Γ (e :: es) δ fun ds => CallD S Γ (.builtin id) ds P)
    (hn : x ≠ "__name__" := by decide) (hdb : (x == ("__debug__" : Str)) = false := by decide) (he : ∀ env, starEach (e :: es) env = (false, eval e env) :: starEach es env := by intro _; rfl) (hpl : ∀ env, (backTo pos (starEach es env)).any (·.1) = false := by intro _; rfl) :
    JE S Γ (.Call (.Name x p) (e :: es) [] pos) δ P := by
  refine ⟨fun X hX σ G H st ev Q k => ?_⟩
  have hk : Gl X x := by show X.env.scope.names.lookup x = _; rw [hX.sc]; exact hX.so.gl x hg
  refine PEw (pe_callB wC_r hk (by rw [hX.mg]; exact hm) hv wA_pa hn hdb (he _) (hpl _)) ?_
  refine h.run X hX σ G H st ev _ fun vs G1 H1 ds s1 r1 h1 => ?_
  exact h1.run X hX vs G1 H1 (st.trans s1) r1 Q fun z G' H' d s r p => k z G' H' d (s1.trans s) r p
theorem je_callTy {x : Str} {T : String} {p : Pos} (hg : x ∈ S.gl) (hm : Γ.mg x = none) (hv : bootBuiltins x = some (.type T)) (h : JA S Γ (e :: es) δ fun ds => CallD S Γ (.type T) ds P)
    (hn : x ≠ "__name__" := by decide) (hdb : (x == ("__debug__" : Str)) = false := by decide) (he : ∀ env, starEach (e :: es) env = (false, eval e env) :: starEach es env := by intro _; rfl) (hpl : ∀ env, (backTo pos (starEach es env)).any (·.1) = false := by intro _; rfl) :
    JE S Γ (.Call (.Name x p) (e :: es) [] pos) δ P := by
  refine ⟨fun X hX σ G H st ev Q k => ?_⟩
  have hk : Gl X x := by show X.env.scope.names.lookup x = _; rw [hX.sc]; exact hX.so.gl x hg
  refine PEw (pe_callTy wC_r hk (by rw [hX.mg]; exact hm) hv wA_pa hn hdb (he _) (hpl _)) ?_
  refine h.run X hX σ G H st ev _ fun vs G1 H1 ds s1 r1 h1 => ?_
  exact h1.run X hX vs G1 H1 (st.trans s1) r1 Q fun z G' H' d s r p => k z G' H' d (s1.trans s) r p
/-- a built-in whose value is a new list -/
structure CallF (S : Scp) (Γ : Cg) (f : Value) (xs : List D) (P : List D → Prop) : Prop where
  run : ∀ X, COk S Γ X → ∀ vs G H, Stp Γ.K Γ.G0 Γ.H0 G H → RepL Γ.K G H xs vs → ∀ Q : VK, (∀ p vs G' H' ds, Stp Γ.K G H G' H' → H p = none → G' p = none → H' p = some (.lst vs) → RepL Γ.K G' H' ds vs → P ds → Q (.ref p) H') → wC X f vs H Q
theorem jf_callTy {x : Str} {T : String} {p : Pos} (hg : x ∈ S.gl) (hm : Γ.mg x = none) (hv : bootBuiltins x = some (.type T)) (h : JA S Γ (e :: es) δ fun ds => CallF S Γ (.type T) ds PL)
    (hn : x ≠ "__name__" := by decide) (hdb : (x == ("__debug__" : Str)) = false := by decide) (he : ∀ env, starEach (e :: es) env = (false, eval e env) :: starEach es env := by intro _; rfl) (hpl : ∀ env, (backTo pos (starEach es env)).any (·.1) = false := by intro _; rfl) :
    JF S Γ (.Call (.Name x p) (e :: es) [] pos) δ PL := by
  refine ⟨fun X hX σ G H st ev Q k => ?_⟩
  have hk : Gl X x := by show X.env.scope.names.lookup x = _; rw [hX.sc]; exact hX.so.gl x hg
  refine PEw (pe_callTy wC_r hk (by rw [hX.mg]; exact hm) hv wA_pa hn hdb (he _) (hpl _)) ?_
  refine h.run X hX σ G H st ev _ fun vs G1 H1 ds s1 r1 h1 => ?_
  exact h1.run X hX vs G1 H1 (st.trans s1) r1 Q fun p vs G' H' ds s hp g h r q => k p vs G' H' ds (s1.trans s) (s1.free hp) g h r q
theorem repL1 {K : PySem.W.Frag} {G H : Hp} {d : D} {vs : List V} (h : RepL K G H [d] vs) : ∃ v, vs = [v] ∧ Rep K G H d v := by
  unfold RepL at h
  obtain ⟨v, r, e, h1, h2⟩ := h
  unfold RepL at h2
  subst h2
  exact ⟨v, e, h1⟩
theorem repL2 {K : PySem.W.Frag} {G H : Hp} {d d' : D} {vs : List V} (h : RepL K G H [d, d'] vs) : ∃ v u, vs = [v, u] ∧ Rep K G H d v ∧ Rep K G H d' u := by
  unfold RepL at h
  obtain ⟨v, r, e, h1, h2⟩ := h
  obtain ⟨u, e2, h3⟩ := repL1 h2
  subst e2
  exact ⟨v, u, e, h1, h3⟩
theorem cd_int {i : Int} (h : P (.int i)) : CallD S Γ (.type "int") [.int i] P := by
  refine ⟨fun X hX vs G H st r Q k => ?_⟩
  obtain ⟨v, rfl, r1⟩ := repL1 r
  unfold Rep at r1
  subst r1
  exact CallRw call_int1 (.inl ⟨i, rfl, k _ G H _ (.refl st.sub) rep_int h⟩)
theorem cd_intB {i : Bool} (h : P (.int (if i then 1 else 0))) : CallD S Γ (.type "int") [.bl i] P := by
  refine ⟨fun X hX vs G H st r Q k => ?_⟩
  obtain ⟨v, rfl, r1⟩ := repL1 r
  unfold Rep at r1
  subst r1
  exact CallRw call_int1 (.inr ⟨i, rfl, k _ G H _ (.refl st.sub) rep_int h⟩)
theorem cd_lenL {ds : List D} (h : P (.int ds.length)) : CallD S Γ (.builtin "len") [.lst ds] P := by
  refine ⟨fun X hX vs G H st r Q k => ?_⟩
  obtain ⟨v, rfl, r1⟩ := repL1 r
  unfold Rep at r1
  obtain ⟨p, ys, rfl, h1, h2⟩ := r1
  exact CallRw call_len_seq ⟨p, ys, rfl, .inl (.inl (.inl (st.sub _ _ h1))), by rw [h2.length]; exact k _ G H _ (.refl st.sub) rep_int h⟩
theorem cd_lenT {ds : List D} (h : P (.int ds.length)) : CallD S Γ (.builtin "len") [.tup ds] P := by
  refine ⟨fun X hX vs G H st r Q k => ?_⟩
  obtain ⟨v, rfl, r1⟩ := repL1 r
  unfold Rep at r1
  obtain ⟨p, ys, rfl, h1, h2⟩ := r1
  exact CallRw call_len_seq ⟨p, ys, rfl, .inr (by rw [hX.K]; exact Same.tup st.sub h1), by rw [h2.length]; exact k _ G H _ (.refl st.sub) rep_int h⟩
theorem cd_max [Calm Γ] {i j : Int} (h : P (.int (if j > i then j else i))) : CallD S Γ (.builtin "max") [.int i, .int j] P := by
  refine ⟨fun X hX vs G H st r Q k => ?_⟩
  obtain ⟨v, u, rfl, r1, r2⟩ := repL2 r
  unfold Rep at r1 r2
  subst r1 r2
  exact CallRw (call_max2 (hX.calm Calm.hx)) ⟨i, j, rfl, k _ G H _ (.refl st.sub) rep_int h⟩
theorem cf_list {ds : List D} (h : PL ds) : CallF S Γ (.type "list") [.lst ds] PL := by
  refine ⟨fun X hX vs G H st r Q k => ?_⟩
  obtain ⟨v, rfl, r1⟩ := repL1 r
  unfold Rep at r1
  obtain ⟨p, ys, rfl, h1, h2⟩ := r1
  refine CallRw call_list_of ⟨p, ys, rfl, .inl (.inl (.inl (st.sub _ _ h1))), fun l hl => ?_⟩
  have s2 : Stp Γ.K G H G (upd H l (.lst ys)) := .newM st.sub hl
  exact k l _ G _ ds s2 hl (st.sub.free hl) upd_same (h2.mono s2) h
theorem cf_listT {ds : List D} (h : PL ds) : CallF S Γ (.type "list") [.tup ds] PL := by
  refine ⟨fun X hX vs G H st r Q k => ?_⟩
  obtain ⟨v, rfl, r1⟩ := repL1 r
  unfold Rep at r1
  obtain ⟨p, ys, rfl, h1, h2⟩ := r1
  refine CallRw call_list_of ⟨p, ys, rfl, .inr (by rw [hX.K]; exact Same.tup st.sub h1), fun l hl => ?_⟩
  have s2 : Stp Γ.K G H G (upd H l (.lst ys)) := .newM st.sub hl
  exact k l _ G _ ds s2 hl (st.sub.free hl) upd_same (h2.mono s2) h
/-- isinstance with one of the common built-in types -/
def tyS : D → String
  | .non => "NoneType"
  | .bl _ => "bool"
  | .int _ => "int"
  | .str _ => "str"
  | .tup _ => "tuple"
  | .lst _ => "list"
  | .sto _ => "dict"
  | _ => "object"
def isTyS (a T : String) : Bool := a == T || (a == "bool" && T == "int")
def isTy (d : D) (T : String) : Bool := isTyS (tyS d) T
def plainD : D → Bool
  | .obj _ _ _ => false | .cls _ => false | .ty _ => false | .scr _ => false | .exc _ _ _ _ => false | .dic _ _ => false | _ => true
theorem tyx_of {K : PySem.W.Frag} {G H : Hp} (e : Same G H) {d : D} {v : V} (hp : plainD d = true) (r : Rep K G H d v) : TyX K H v (.type (tyS d)) := by
  cases d <;> first | cases hp | skip
  all_goals unfold Rep at r
  case non => subst r; exact .base .non
  case bl => subst r; exact .base (.bl _)
  case int => subst r; exact .base (.int _)
  case str => subst r; exact .base (.str _)
  case tup =>
    obtain ⟨p, vs, rfl, h, _⟩ := r
    exact .base (.tup (e _ _ h))
  case lst => obtain ⟨p, vs, rfl, h, _⟩ := r; exact .base (.lst (e _ _ h))
  case sto => obtain ⟨p, rfl, _, kvs, h, _⟩ := r; exact .base (.dK h)
theorem kit_tab : (["NoneType", "bool", "int", "str", "tuple", "list", "dict"].all fun a => ["int", "bool", "str", "tuple", "list", "dict"].all fun T => decide (kitB a T = some (isTyS a T))) = true := by decide +kernel
theorem kit_all {K : PySem.W.Frag} {d : D} (hp : plainD d = true) {T : String} (hT : T ∈ ["int", "bool", "str", "tuple", "list", "dict"]) : PySem.W.kitOne K (.type (tyS d)) (.type T) = some (isTy d T) := by
  have h := kit_tab
  rw [List.all_eq_true] at h
  have h2 : tyS d ∈ ["NoneType", "bool", "int", "str", "tuple", "list", "dict"] := by
    cases d <;> first | (simp [tyS]; done) | cases hp
  have h3 := h _ h2
  rw [List.all_eq_true] at h3
  exact kit_ty (of_decide_eq_true (h3 _ hT))
theorem cd_isi {d : D} {T : String} (hp : plainD d = true) (hT : T ∈ ["int", "bool", "str", "tuple", "list", "dict"]) (h : P (.bl (isTy d T))) : CallD S Γ (.builtin "isinstance") [d, .ty T] P := by
  refine ⟨fun X hX vs G H st r Q k => ?_⟩
  obtain ⟨v, u, rfl, r1, r2⟩ := repL2 r
  unfold Rep at r2
  subst r2
  exact CallRw call_isi ⟨v, .ty T, .type (tyS d), .type T, isTy d T, rfl, .ty T, by rw [hX.K]; exact tyx_of st.sub hp r1, kit_all hp hT, k _ G H _ (.refl st.sub) rep_bl h⟩

/-! ### a def's contract -/
abbrev Ct := List D → (D → Prop) → (Value → List Str → List D → Prop) → Prop
def spC (K : PySem.W.Frag) (c : Ct) : Sp := fun vs H Q E => ∃ G ds, Same G H ∧ TOk G H ∧ RepL K G H ds vs ∧ c ds (fun d => ∀ v G' H', Stp K G H G' H' → Rep K G' H' d v → Q v H') fun cls ns es => ∀ d G' H', Stp K G H G' H' → XdOk K G' H' d ns es → E cls d H'
/-- a def of the module, called with arguments and the defaults df -/
structure DefOk (P : Program) (w : World) (K : PySem.W.Frag) (mg : Str → Option Value) (base : Heap) (x : Str) (lv : Nat) (df : List D) (c : Ct) : Prop where
  mono : ∀ ds (P P' : D → Prop) (E E' : Value → List Str → List D → Prop), (∀ d, P d → P' d) → (∀ v ns es, E v ns es → E' v ns es) → c ds P E → c ds P' E'
  ex : ∃ f fd ps ds dvs, FnOk P w K mg base (L2N.CX P w) lv f fd ps (spC K c) ∧ mg x = some (.ref f) ∧ PySem.W.keepIn K (.ref f) = true ∧ Binds K fd ps ds ∧ Vals dvs ds ∧ ∀ G H, RepL K G H df dvs
theorem je_call [Calm Γ] {x : Str} {lv : Nat} {df : List D} {ct : Ct} {p : Pos} (F : DefOk Γ.P Γ.w Γ.K Γ.mg Γ.base x lv df ct) (hl : lv ≤ S.lv) (hg : x ∈ S.gl)
    (h : JA S Γ (e :: es) δ fun ds => ct (ds ++ df) P (Γ.ex δ))
    (hdb : (x == ("__debug__" : Str)) = false := by decide) (he : ∀ env, starEach (e :: es) env = (false, eval e env) :: starEach es env := by intro _; rfl) (hpl : ∀ env, (backTo pos (starEach es env)).any (·.1) = false := by intro _; rfl) :
    JE S Γ (.Call (.Name x p) (e :: es) [] pos) δ P := by
  refine ⟨fun X hX σ G H st ev Q k => ?_⟩
  have hk : Gl X x := by show X.env.scope.names.lookup x = _; rw [hX.sc]; exact hX.so.gl x hg
  obtain ⟨f, fd, ps, ds, dvs, F1, F2, F3, F4, F5, F6⟩ := F.ex
  have F1' : FnOk X.prog X.w X.K X.mg X.base (L2N.CX X.prog X.w) lv f fd ps (spC Γ.K ct) := by rw [hX.prog, hX.w, hX.K, hX.mg, hX.base]; exact F1
  refine PEw (pe_callSD (E := WE (wx Γ)) F1' ((hX.room Calm.hx).mono hl) hk (by rw [hX.mg]; exact F2) (by rw [hX.K]; exact F3) (by rw [hX.K]; exact F4) F5 (fun σ => L2N.passAt hX.tk σ) wA_pa hdb (he _) (hpl _)) ?_
  refine h.run X hX σ G H st ev _ fun vs G1 H1 ds s1 r1 h1 => ?_
  refine ⟨G1, ds ++ df, s1.sub, (st.trans s1).tab hX.tb, r1.append (F6 _ _), F.mono _ _ _ _ _ (fun d p v G' H' s r => k v G' H' d (s1.trans s) r p) (fun cls ns es q d G' H' s x => ?_) h1⟩
  exact ⟨G', δ, ns, es, (st.trans s1).trans s, ev.mono (s1.trans s), x, q⟩
end
end Z
set_option Elab.async false
set_option linter.all false
set_option maxRecDepth 100000
set_option maxHeartbeats 4000000
/-! Z3: statements, targets, loops, comprehensions, a def keeps its contract. -/
namespace Z
open PySem L2
variable [tabsI : TabsT]

section
variable {S : Scp} {Γ : Cg} {δ : List Sl} {P : D → Prop} {PB : Bool → Prop} {PL : List D → Prop} {K : Kp} {a b c e : Expr} {es rest : List Expr} {pos : Pos} {st : Stmt} {sts : List Stmt}

/-! ### blocks -/
theorem jss_nil (h : K.nx δ) : JSs S Γ [] δ K := ⟨fun X hX σ G H De s ev en => PSsw pss_nil (en.nx σ G H δ s .refl ev h)⟩
theorem jss_cons (h : JS S Γ st δ { K with nx := fun δ' => JSs S Γ sts δ' K }) : JSs S Γ (st :: sts) δ K := by
  refine ⟨fun X hX σ G H De s ev en => ?_⟩
  refine PSsw (pss_cons wS_ps wSs_pss) ?_
  refine h.run X hX σ G H _ s ev ⟨fun σ' G' H' δ' s' m ev' q => ?_, en.bk, en.ct, en.rt, en.rf⟩
  exact q.run X hX σ' G' H' De s' ev' (en.go m)
theorem jss_one (h : JS S Γ st δ K) : JSs S Γ [st] δ K := ⟨fun X hX σ G H De s ev en => PSsw (pss_one wS_ps) (h.run X hX σ G H De s ev en)⟩
theorem js_break (h : K.bk δ) : JS S Γ (.Break pos) δ K := ⟨fun X hX σ G H De s ev en => PSw ps_break (en.bk σ G H δ s .refl ev h)⟩
theorem js_ret (h : JE S Γ e δ K.rt) : JS S Γ (.Return (some e) pos) δ K := by
  refine ⟨fun X hX σ G H De s ev en => ?_⟩
  refine PSw (ps_ret wE_pe) ?_
  exact h.run X hX σ G H s ev _ fun v G' H' d s' r p => en.rt v G' H' d (s.trans s') r p
theorem js_if {x y : List Stmt} (h : JT S Γ c δ fun t => if t = true then JSs S Γ x δ K else JSs S Γ y δ K) : JS S Γ (.If c x y pos) δ K := by
  refine ⟨fun X hX σ G H De s ev en => ?_⟩
  refine PSw (ps_if wT_pt wSs_pss wSs_pss) ?_
  refine h.run X hX σ G H s ev _ fun t G1 H1 s1 p => ?_
  cases t with
  | true => exact L2.iteT ((show JSs _ _ _ _ _ from p).run X hX σ G1 H1 De (s.trans s1) (ev.mono s1) (en.go s1.mo))
  | false => exact L2.iteF ((show JSs _ _ _ _ _ from p).run X hX σ G1 H1 De (s.trans s1) (ev.mono s1) (en.go s1.mo))
/-- an expression whose value is dropped -/
theorem js_expr (h : JE S Γ e δ fun _ => K.nx δ) (hs : ∀ env, swapsWith e none pos.line env = pure false := by intro _; rfl) : JS S Γ (.Expr e pos) δ K := by
  refine ⟨fun X hX σ G H De s ev en => ?_⟩
  refine PSw (ps_expr wE_pe (hs _)) ?_
  exact h.run X hX σ G H s ev _ fun v G' H' d s' r p => en.nx σ G' H' δ (s.trans s') s'.mo (ev.mono s') p

/-! ### targets -/
theorem COk.loc {X : Cx} (hX : COk S Γ X) {x : Str} {i : Nat} (h : (x, i) ∈ S.ss) : X.N[i]? = some x ∧ Loc X.env.scope x ∧ (X.fn x = true ∨ X.env.scope.names.lookup x = some .local) := by
  obtain ⟨h1, h2⟩ := hX.so.ss _ h
  exact ⟨by rw [hX.N]; exact h1, by rw [hX.sc]; exact h2, hX.st _ h⟩
theorem jg_name {x : Str} {i : Nat} {d : D} {Q : List Sl → Prop} (hv : (x, i) ∈ S.ss) (h : Q (δ.set i (.fz d))) : JG S Γ (.Name x pos) d δ Q := by
  refine ⟨fun X hX v σ G H s ev r Q' k => ?_⟩
  obtain ⟨h1, h2, h3⟩ := hX.loc hv
  exact PGw (pg_name (by rw [hX.N]; exact hX.so.nd) h1 h2 h3) (k _ G H _ (.refl s.sub) (ev.set r) h)
theorem jgs_nil {Q : List Sl → Prop} (h : Q δ) : JGs S Γ [] [] δ Q := by
  refine ⟨fun X hX vs σ G H s ev r Q' k => ?_⟩
  unfold RepL at r
  exact PGsw pgs_nil ⟨r, k _ G H _ (.refl s.sub) ev h⟩
theorem jgs_cons {d : D} {ds : List D} {Q : List Sl → Prop} (h : JG S Γ e d δ fun δ' => JGs S Γ es ds δ' Q) (hs : ∀ env, (assignEach (e :: es) env).map (·.2) = assign e env :: (assignEach es env).map (·.2) := by intro _; rfl) : JGs S Γ (e :: es) (d :: ds) δ Q := by
  refine ⟨fun X hX vs σ G H s ev r Q' k => ?_⟩
  unfold RepL at r
  obtain ⟨v, vr, rfl, r1, r2⟩ := r
  refine PGsw (pgs_cons wG_pg wGs_pgs (hs _)) ⟨v, vr, rfl, ?_⟩
  refine h.run X hX v σ G H s ev r1 _ fun σ1 G1 H1 δ1 s1 ev1 q => ?_
  exact q.run X hX vr σ1 G1 H1 (s.trans s1) ev1 (r2.mono s1) Q' fun σ2 G2 H2 δ2 s2 ev2 q2 => k σ2 G2 H2 δ2 (s1.trans s2) ev2 q2
theorem jg_tup [Calm Γ] {kk : Nat} {ds : List D} {Q : List Sl → Prop} {n : Nat} (hl : ds.length = n) (h : JGs S Γ es ds δ Q) (hn : ∀ env, (assignEach es env).length = n := by intro _; rfl) (hst : ∀ env, (assignEach es env).findIdx? (·.1) = none := by intro _; rfl) : JG S Γ (.Tuple es kk pos) (.tup ds) δ Q := by
  refine ⟨fun X hX v σ G H s ev r Q' k => ?_⟩
  unfold Rep at r
  obtain ⟨p, vs, rfl, h1, h2⟩ := r
  refine PGw (pg_tup (hX.calm Calm.hx) wGs_pgs (hn _) (hst _)) ⟨p, vs, rfl, by rw [hX.K]; exact Same.tup s.sub h1, by rw [h2.length]; exact hl, ?_⟩
  exact h.run X hX vs σ G H s ev h2 Q' k
/-- name = value -/
theorem js_set {x : Str} {i : Nat} {p : Pos} (hv : (x, i) ∈ S.ss) (h : JE S Γ e δ fun d => K.nx (δ.set i (.fz d))) (hs : ∀ env, swapsWith e (some (.Name x p)) pos.line env = pure false := by intro _; rfl) : JS S Γ (.Assign [.Name x p] e pos) δ K := by
  refine ⟨fun X hX σ G H De s ev en => ?_⟩
  obtain ⟨h1, h2, h3⟩ := hX.loc hv
  refine PSw (ps_set (by rw [hX.N]; exact hX.so.nd) h1 h2 wE_pe (hs _) h3) ?_
  exact h.run X hX σ G H s ev _ fun v G1 H1 d s1 r q => en.nx _ G1 H1 _ (s.trans s1) s1.mo ((ev.mono s1).set r) q
/-- one's own things stand where nothing stood before -/
theorem EnvOk.fps {KK : PySem.W.Frag} {G H G' H' H0 : Hp} {σ : St} {δ : List Sl} (h : EnvOk KK G H H0 σ δ) (s : Stp KK G H G' H') : ∃ F : Nat → List Addr, (∀ j : Nat, SlF KK G' H' H0 ((δ[j]?).getD .no) σ[j]? (F j)) ∧ (∀ i j, i ≠ j → ∀ a ∈ F i, a ∉ F j) ∧ ∀ j, ∀ a ∈ F j, H a ≠ none := by
  obtain ⟨F, f, dj⟩ := h.fp
  refine ⟨F, fun j => (f j).mono s, dj, fun j a ha z => ?_⟩
  obtain ⟨_, _, u, h1, _⟩ := (f j).own a ha
  rw [z] at h1
  cases h1
theorem EnvOk.setOwn {KK : PySem.W.Frag} {G H G' H' H0 : Hp} {σ : St} {δ : List Sl} (h : EnvOk KK G H H0 σ δ) (s : Stp KK G H G' H') {i : Nat} {ds : List D} {vs : List V} {p : Addr} (hp : H p = none) (h1 : H' p = some (.lst vs)) (g : G' p = none) (h0 : H0 p = none) (r : RepL KK G' H' ds vs) : EnvOk KK G' H' H0 (σ.set i (some (.ref p))) (δ.set i (.ow ds)) := by
  obtain ⟨F, f, dj, hF⟩ := h.fps s
  refine EnvOk.anew (as' := [p]) h.len f dj .refl (fun j _ a ha => ⟨rfl, ((f j).own a ha).1⟩) (by simp) (fun j n => List.getElem?_set_ne (fun w => n w.symm)) (fun hi => ⟨p, vs, rfl, by rw [List.getElem?_set_self (by rw [h.len]; exact hi)], h1, g, h0, r⟩) (fun j _ a ha => ?_)
  rw [List.mem_singleton.mp ha]
  exact fun z => hF j p z hp
/-- name = a new list, of one's own -/
theorem js_setF {x : Str} {i : Nat} {p : Pos} (hv : (x, i) ∈ S.ss) (h : JF S Γ e δ fun ds => K.nx (δ.set i (.ow ds))) (hs : ∀ env, swapsWith e (some (.Name x p)) pos.line env = pure false := by intro _; rfl) : JS S Γ (.Assign [.Name x p] e pos) δ K := by
  refine ⟨fun X hX σ G H De s ev en => ?_⟩
  obtain ⟨h1, h2, h3⟩ := hX.loc hv
  refine PSw (ps_set (by rw [hX.N]; exact hX.so.nd) h1 h2 wE_pe (hs _) h3) ?_
  refine h.run X hX σ G H s ev _ fun p vs G1 H1 ds s1 hp gp h1 r q => ?_
  have h0 : Γ.H0 p = none := s.free hp
  exact en.nx _ G1 H1 _ (s.trans s1) s1.mo (ev.setOwn s1 hp h1 gp h0 r) q
/-- a list of one's own will never change from here on -/
theorem EnvOk.freeze {KK : PySem.W.Frag} {G H H0 : Hp} {σ : St} {δ : List Sl} (h : EnvOk KK G H H0 σ δ) {i : Nat} {ds : List D} (e : δ[i]? = some (.ow ds)) : ∃ p vs, H p = some (.lst vs) ∧ G p = none ∧ H0 p = none ∧ EnvOk KK (upd G p (.lst vs)) H H0 σ (δ.set i (.fz (.lst ds))) := by
  obtain ⟨F, f, dj⟩ := h.fp
  obtain ⟨p, vs, ea, e1, h1, g, h0, r⟩ := EnvOk.at0 f e
  have mo : Mo KK G H (upd G p (.lst vs)) H := .freeze h1 g
  refine ⟨p, vs, h1, g, h0, EnvOk.anew (as' := []) h.len f dj mo (fun j n a ha => ⟨rfl, ?_⟩) rfl (fun _ _ => rfl) (fun _ => ⟨rfl, _, e1, ?_⟩) (fun _ _ a ha => by cases ha)⟩
  · have ne : a ≠ p := by
      intro w
      subst w
      exact dj j i n a ha (by rw [ea]; exact .head _)
    rw [upd_ne ne]
    exact ((f j).own a ha).1
  · unfold Rep
    exact ⟨p, vs, rfl, upd_same, r.mo mo⟩
theorem js_freeze (i : Nat) {ds : List D} (e : δ[i]? = some (.ow ds)) (h : JS S Γ st (δ.set i (.fz (.lst ds))) K) : JS S Γ st δ K := by
  refine ⟨fun X hX σ G H De s ev en => ?_⟩
  obtain ⟨p, vs, h1, g, h0, ev'⟩ := ev.freeze e
  exact h.run X hX σ _ H De (s.freeze h0 h1 g) ev' (en.go (.freeze h1 g))
/-- name op= e -/
theorem js_aug {x : Str} {i : Nat} {p : Pos} {op : Operator} {d : D} (hv : (x, i) ∈ S.ss) (hδ : δ[i]? = some (.fz d)) (h : JE S Γ e δ fun y => OpD S Γ (inplaceOp op) d y fun z => K.nx (δ.set i (.fz z))) : JS S Γ (.AugAssign (.Name x p) op e pos) δ K := by
  refine ⟨fun X hX σ G H De s ev en => ?_⟩
  obtain ⟨h1, h2, h3⟩ := hX.loc hv
  obtain ⟨v, e1, r⟩ := ev.fz hδ
  refine PSw (ps_aug (ti := wO X (inplaceOp op)) (by rw [hX.N]; exact hX.so.nd) h1 h2 wE_pe (fun pins s σ H x y v u Q I r1 r2 h => h pins s σ v u I r1 r2) h3) ⟨v, e1, ?_⟩
  refine h.run X hX σ G H s ev _ fun u G1 H1 y s1 r1 q => ?_
  exact q.run X hX v u G1 H1 (s.trans s1) (r.mono s1) r1 _ fun z G2 H2 dz s2 r2 q2 => en.nx _ G2 H2 _ ((s.trans s1).trans s2) (s1.trans s2).mo (((ev.mono s1).mono s2).set r2) q2

theorem TOk.upd_ {G H : Hp} {p : Addr} {o u : HO} (hp : H p = some o) (no : nExt o) (t : TOk G H) (n : ∀ q ∈ tabsI.T, q.1 ≠ p) (nu : ∀ vs, u ≠ .tup vs := by intro _ z; cases z) : TOk G (upd H p u) := by
  refine ⟨fun q hq => ?_, t.gn, fun a vs q => by
    by_cases z : a = p
    · subst z; rw [upd_same] at q; cases q; exact absurd rfl (nu vs)
    · rw [upd_ne z] at q; exact t.tg a vs q⟩
  obtain ⟨ps, h1, h2, h3⟩ := t.tb q hq
  refine ⟨ps, by rw [upd_ne (n q hq)]; exact h1, h2, fun pos cv hc => ?_⟩
  obtain ⟨c, e1, e2⟩ := h3 pos cv hc
  refine ⟨c, e1, ?_⟩
  rw [upd_ne]
  · exact e2
  · intro z
    subst z
    rw [hp] at e2
    have e3 := Option.some.inj e2
    subst e3
    exact no
theorem TOk.upd_o {G H : Hp} {p : Addr} {o u : HO} (hp : H p = some o) (no : nExt o) (nt : ∀ ps, o ≠ .tbl ps) (t : TOk G H) (nu : ∀ vs, u ≠ .tup vs := by intro _ z; cases z) : TOk G (upd H p u) := TOk.upd_ hp no t (fun q hq z => by
  obtain ⟨ps, h1, _⟩ := t.tb q hq
  rw [z, hp] at h1
  exact nt ps (Option.some.inj h1)) nu
theorem Stp.write {KK : PySem.W.Frag} {G0 H0 G H : Hp} (s : Stp KK G0 H0 G H) {p : Addr} {o u : HO} (g : G p = none) (h0 : H0 p = none) (hp : H p = some o := by assumption) (no : nExt o := by exact True.intro) (nu : ∀ vs, u ≠ .tup vs := by intro _ z; cases z) : Stp KK G0 H0 G (upd H p u) := by
  refine ⟨s.exG, fun b w q => ?_, fun b w q n => ?_, fun t0 => TOk.upd_ hp no (s.tab t0) (fun q hq z => by
    obtain ⟨ps, k1, _⟩ := t0.tb q hq
    rw [z, h0] at k1
    cases k1) nu⟩
  · rw [upd_ne (ne_of_none q g)]; exact s.sub b w q
  · have z : b ≠ p := ne_of_none q h0
    obtain ⟨n', q'⟩ := s.own b w q n
    refine ⟨n', ?_⟩
    rcases q' with q' | ⟨q1, kvs, q2, q3⟩
    · exact .inl (by rw [upd_ne z]; exact q')
    · exact .inr ⟨q1, kvs, by rw [upd_ne z]; exact q2, q3.1, fun cells w => by
        obtain ⟨kv, w1, w2⟩ := q3.2 cells w
        have zz : b ≠ p := z
        exact ⟨kv, by rw [upd_ne zz]; exact w1, w2⟩⟩
theorem Mo.write {KK : PySem.W.Frag} {G H : Hp} {p : Addr} {vs : List V} {u : HO} (hp : H p = some (.lst vs)) : Mo KK G H G (upd H p u) := by
  refine ⟨Same.refl G, fun a cells n q => ⟨n, ?_⟩⟩
  obtain ⟨kvs, q1, q2⟩ := q
  have z : a ≠ p := by
    intro z
    subst z
    rw [hp] at q1
    cases q1
  exact ⟨kvs, by rw [upd_ne z]; exact q1, q2⟩
/-! ### loops -/
theorem atGet {α : Type} {xs : List α} {i : Nat} {x : α} (h : xs[i]? = some x) : i < xs.length := (List.getElem?_eq_some_iff.mp h).1
/-- what a loop's turn keeps -/
def Turns (S : Scp) (Γ : Cg) (tg : Expr) (body : List Stmt) (K : Kp) (I : Nat → List Sl → Prop) (i : Nat) (x : D) : Prop :=
  ∀ δ', I i δ' → JG S Γ tg x δ' fun δ2 => JSs S Γ body δ2 { nx := I (i + 1), rt := K.rt, bk := K.nx, ct := I (i + 1) }
/-- a walk of n turns over the data f 0, f 1, .. -/
structure ItOk (Γ : Cg) (G1 H1 : Hp) (J : It) (n : Nat) (f : Nat → D) : Prop where
  go : ∀ i G' H', Same G' H' → Mo Γ.K G1 H1 G' H' → i < n → J.go i H'
  yld : ∀ i G' H' x H2, Same G' H' → Mo Γ.K G1 H1 G' H' → i < n → TOk G' H' → J.yld i H' x H2 → ∃ G2, Stp Γ.K G' H' G2 H2 ∧ Rep Γ.K G2 H2 (f i) x
  stop : ∀ G' H', Same G' H' → Mo Γ.K G1 H1 G' H' → J.stop n H'
structure JI (S : Scp) (Γ : Cg) (tg e : Expr) (δ : List Sl) (P : Nat → (Nat → D) → Prop) : Prop where
  run : ∀ X, COk S Γ X → ∀ σ G H, Stp Γ.K Γ.G0 Γ.H0 G H → EnvOk Γ.K G H Γ.H0 σ δ → ∀ R : It → Hp → Prop, (∀ J G1 H1 n f, Stp Γ.K G H G1 H1 → ItOk Γ G1 H1 J n f → P n f → R J H1) → wI X tg e σ H R
def atD (ds : List D) (i : Nat) : D := (ds[i]?).getD .non
theorem atD_get {ds : List D} {i : Nat} (h : i < ds.length) : ds[i]? = some (atD ds i) := by
  unfold atD
  rw [List.getElem?_eq_getElem h]
  rfl
variable {tg : Expr} {PI' : Nat → (Nat → D) → Prop}
theorem ji_list (h : JE S Γ e δ fun d => ∃ ds, d = .lst ds ∧ PI' ds.length (atD ds)) : JI S Γ tg e δ PI' := by
  refine ⟨fun X hX σ G H s ev R k => ?_⟩
  refine PIwB (pi_list wE_pe) (Zh.pi_listH wE_pe) ?_
  refine h.run X hX σ G H s ev _ fun v G1 H1 d s1 r q => ?_
  obtain ⟨ds, rfl, q⟩ := q
  unfold Rep at r
  obtain ⟨p, vs, rfl, h1, h2⟩ := r
  refine ⟨p, rfl, ⟨vs, .inl (.inl (s1.sub _ _ h1))⟩, k _ G1 H1 _ _ s1 ⟨?_, ?_, ?_⟩ q⟩
  · intro i G' H' e m hi
    have hlt : i < vs.length := by rw [h2.length]; exact hi
    have hv := List.getElem?_eq_getElem hlt
    exact ⟨vs, _, .inl (.inl (e _ _ (m.exG _ _ h1))), hv⟩
  · rintro i G' H' x H2 e m hi _ ⟨rfl, y⟩
    have hx := y vs (.inl (.inl (e _ _ (m.exG _ _ h1))))
    obtain ⟨d, hd, rd⟩ := h2.back hx
    rw [atD_get hi] at hd
    cases hd
    exact ⟨G', .refl e, rd.mo m⟩
  · intro G' H' e m
    exact ⟨vs, .inl (.inl (e _ _ (m.exG _ _ h1))), by rw [h2.length]; exact Nat.le_refl _⟩
theorem itok_rng {G1 H1 : Hp} {lo : Int} {n : Nat} : ItOk Γ G1 H1 (Itr lo n) n (fun i => .int (lo + i)) := by
  refine ⟨fun i _ _ _ _ hi => hi, ?_, fun _ _ _ _ => Nat.le_refl _⟩
  rintro i G' H' x H2 e m hi _ ⟨rfl, rfl⟩
  exact ⟨G', .refl e, rep_int⟩
theorem ji_rng1 {p1 p2 : Pos} (hg : ("range" : Str) ∈ S.gl) (hm : Γ.mg "range" = none) (hs : ∀ env, starEach [a] env = [(false, eval a env)])
    (h : JE S Γ a δ fun d => ∃ n, d = .int n ∧ -(2 ^ 62) ≤ n ∧ n < 2 ^ 62 ∧ PI' n.toNat (fun i => .int (0 + i))) : JI S Γ tg (.Call (.Name "range" p1) [a] [] p2) δ PI' := by
  refine ⟨fun X hX σ G H s ev R k => ?_⟩
  have hk : Gl X "range" := by show X.env.scope.names.lookup _ = _; rw [hX.sc]; exact hX.so.gl _ hg
  refine PIwB (pi_range1 hk (by rw [hX.mg]; exact hm) (pa_cons wE_pe pa_nil (hs _)) (hs _)) (L2H.pi_range1H hk (by rw [hX.mg]; exact hm) (pa_cons wE_pe pa_nil (hs _)) (hs _)) ?_
  refine h.run X hX σ G H s ev _ fun v G1 H1 d s1 r q => ?_
  obtain ⟨n, rfl, b1, b2, q⟩ := q
  unfold Rep at r
  subst r
  exact ⟨n, rfl, b1, b2, k _ G1 H1 _ _ s1 itok_rng q⟩
theorem ji_rng2 [Calm Γ] {p1 p2 : Pos} (hg : ("range" : Str) ∈ S.gl) (hm : Γ.mg "range" = none) (hs : ∀ env, starEach [a, b] env = [(false, eval a env), (false, eval b env)]) (hs2 : ∀ env, starEach [b] env = [(false, eval b env)])
    (h : JE S Γ a δ fun d => JE S Γ b δ fun d' => ∃ m n, d = .int m ∧ d' = .int n ∧ (-(2 ^ 62) ≤ m ∧ m < 2 ^ 62 ∧ -(2 ^ 62) ≤ n ∧ n < 2 ^ 62) ∧ PI' (n - m).toNat (fun i => .int (m + i))) : JI S Γ tg (.Call (.Name "range" p1) [a, b] [] p2) δ PI' := by
  refine ⟨fun X hX σ G H s ev R k => ?_⟩
  have hk : Gl X "range" := by show X.env.scope.names.lookup _ = _; rw [hX.sc]; exact hX.so.gl _ hg
  refine PIw (hX.calm Calm.hx) (pi_range2 hk (by rw [hX.mg]; exact hm) (pa_cons wE_pe (pa_cons wE_pe pa_nil (hs2 _)) (by rw [hs, hs2])) (hs _) (hs2 _)) ?_
  refine h.run X hX σ G H s ev _ fun v G1 H1 d s1 r q => ?_
  refine q.run X hX σ G1 H1 (s.trans s1) (ev.mono s1) _ fun v2 G2 H2 d2 s2 r2 q => ?_
  obtain ⟨m, n, rfl, rfl, b, q⟩ := q
  unfold Rep at r r2
  subst r r2
  exact ⟨m, n, rfl, b, k _ G2 H2 _ _ (s1.trans s2) itok_rng q⟩
/-- for tg in e -/
theorem js_for [Calm Γ] {body : List Stmt} (hb : Γ.blk = false) (h : JI S Γ tg e δ fun n f => ∃ I : Nat → List Sl → Prop, I 0 δ ∧ (∀ i, i < n → Turns S Γ tg body K I i (f i)) ∧ ∀ δ', I n δ' → K.nx δ')
    (hs : ∀ env x, foldedSetIterable e env x = pure x := by intros; rfl) : JS S Γ (.For tg e body [] pos) δ K := by
  refine ⟨fun X hX σ G H De s ev en => ?_⟩
  refine PSw (ps_for (hX.def_ hb).2.2.2 (hX.calm Calm.hx) (wI_pi (hX.calm Calm.hx)) wG_pg wSs_pss (hs _)) ?_
  refine h.run X hX σ G H s ev _ fun J G1 H1 n f s1 it q => ?_
  obtain ⟨I, i0, turn, fin⟩ := q
  refine ⟨fun i m σ' H' => m = n - i ∧ i ≤ n ∧ ∃ G' δ', Stp Γ.K Γ.G0 Γ.H0 G' H' ∧ Mo Γ.K G1 H1 G' H' ∧ EnvOk Γ.K G' H' Γ.H0 σ' δ' ∧ I i δ', ⟨n, by simp, Nat.zero_le _, G1, δ, s.trans s1, .refl, ev.mono s1, i0⟩, ?_⟩
  rintro i m σ' H' ⟨rfl, hi, G', δ', s', m', ev', ii⟩
  by_cases hlt : i < n
  · refine .inr ⟨it.go i G' H' s'.sub m' hlt, fun σ2 H2 => ∃ G2 δ2, Stp Γ.K Γ.G0 Γ.H0 G2 H2 ∧ Mo Γ.K G1 H1 G2 H2 ∧ EnvOk Γ.K G2 H2 Γ.H0 σ2 δ2 ∧ I (i + 1) δ2, fun σ2 H2 h2 => ⟨n - (i + 1), by omega, rfl, hlt, h2⟩, fun x H2 y => ?_⟩
    obtain ⟨G2, s2, rx⟩ := it.yld i G' H' x H2 s'.sub m' hlt (s'.tab hX.tb) y
    refine (turn i hlt δ' ii).run X hX x σ' G2 H2 (s'.trans s2) (ev'.mono s2) rx _ fun σ3 G3 H3 δ3 s3 ev3 q3 => ?_
    refine q3.run X hX σ3 G3 H3 _ ((s'.trans s2).trans s3) ev3 ⟨?_, ?_, ?_, ?_, en.rf⟩
    · exact fun σ4 G4 H4 δ4 s4 m4 ev4 q4 => ⟨G4, δ4, s4, ((m'.trans s2.mo).trans s3.mo).trans m4, ev4, q4⟩
    · exact fun σ4 G4 H4 δ4 s4 m4 ev4 q4 => en.nx σ4 G4 H4 δ4 s4 ((((s1.mo.trans m').trans s2.mo).trans s3.mo).trans m4) ev4 q4
    · exact fun σ4 G4 H4 δ4 s4 m4 ev4 q4 => ⟨G4, δ4, s4, ((m'.trans s2.mo).trans s3.mo).trans m4, ev4, q4⟩
    · exact en.rt
  · have e : i = n := by omega
    subst e
    exact .inl ⟨it.stop G' H' s'.sub m', en.nx σ' G' H' δ' s' (s1.mo.trans m') ev' (fin δ' ii)⟩

/-! ### list comprehensions -/
def wipeD (δ : List Sl) : List Nat → List Sl
  | [] => δ
  | v :: vs => (wipeD δ vs).set v .no
theorem EnvOk.wipe {KK : PySem.W.Frag} {G H H0 : Hp} {σ : L2.St} {δ : List Sl} (h : EnvOk KK G H H0 σ δ) : ∀ vs : List Nat, EnvOk KK G H H0 (L2.wipe σ vs) (wipeD δ vs)
  | [] => h
  | v :: vs => (h.wipe vs).forget v none
theorem wipe_set {σ : L2.St} {i : Nat} {o : Option V} : ∀ {vs : List Nat}, i ∈ vs → L2.wipe (σ.set i o) vs = L2.wipe σ vs
  | v :: vs, h => by
    unfold L2.wipe
    by_cases z : i ∈ vs
    · rw [wipe_set z]
    · have e : i = v := by
        rcases List.mem_cons.mp h with e | e
        · exact e
        · exact absurd e z
      subst e
      have : ∀ vs : List Nat, i ∉ vs → L2.wipe (σ.set i o) vs = (L2.wipe σ vs).set i o := by
        intro vs
        induction vs with
        | nil => intro _; rfl
        | cons w ws ih =>
          intro hz
          simp only [List.mem_cons, not_or] at hz
          unfold L2.wipe
          rw [ih hz.2, List.set_comm _ _ hz.1]
      rw [this vs z, List.set_set]
theorem wipe_wipe {σ : L2.St} : ∀ {vs us : List Nat}, (∀ v ∈ us, v ∈ vs) → L2.wipe (L2.wipe σ us) vs = L2.wipe σ vs
  | vs, [], _ => rfl
  | vs, u :: us, h => by
    show L2.wipe ((L2.wipe σ us).set u none) vs = _
    rw [wipe_set (h u (.head _)), wipe_wipe fun v hv => h v (.tail _ hv)]
/-- a target within a comprehension: only its own slots vs change -/
structure JGW (S : Scp) (Γ : Cg) (vs : List Nat) (tg : Expr) (d : D) (δ : List Sl) (P : List Sl → Prop) : Prop where
  run : ∀ X, COk S Γ X → ∀ v σ G H, Stp Γ.K Γ.G0 Γ.H0 G H → EnvOk Γ.K G H Γ.H0 σ δ → Rep Γ.K G H d v → ∀ Q : L2.St → Hp → Prop, (∀ σ' G' H' δ', L2.wipe σ' vs = L2.wipe σ vs → Stp Γ.K G H G' H' → EnvOk Γ.K G' H' Γ.H0 σ' δ' → P δ' → Q σ' H') → wG X tg v σ H Q
structure JGWs (S : Scp) (Γ : Cg) (vs : List Nat) (tgs : List Expr) (ds : List D) (δ : List Sl) (P : List Sl → Prop) : Prop where
  run : ∀ X, COk S Γ X → ∀ us σ G H, Stp Γ.K Γ.G0 Γ.H0 G H → EnvOk Γ.K G H Γ.H0 σ δ → RepL Γ.K G H ds us → ∀ Q : L2.St → Hp → Prop, (∀ σ' G' H' δ', L2.wipe σ' vs = L2.wipe σ vs → Stp Γ.K G H G' H' → EnvOk Γ.K G' H' Γ.H0 σ' δ' → P δ' → Q σ' H') → wGs X tgs us σ H Q
theorem jgw_name {vs : List Nat} {x : Str} {i : Nat} {d : D} {Q : List Sl → Prop} (hv : (x, i) ∈ S.ss) (hi : i ∈ vs) (h : Q (δ.set i (.fz d))) : JGW S Γ vs (.Name x pos) d δ Q := by
  refine ⟨fun X hX v σ G H s ev r Q' k => ?_⟩
  obtain ⟨h1, h2, h3⟩ := hX.loc hv
  exact PGw (pg_name (by rw [hX.N]; exact hX.so.nd) h1 h2 h3) (k _ G H _ (wipe_set hi) (.refl s.sub) (ev.set r) h)
theorem jgws_nil {vs : List Nat} {Q : List Sl → Prop} (h : Q δ) : JGWs S Γ vs [] [] δ Q := by
  refine ⟨fun X hX us σ G H s ev r Q' k => ?_⟩
  unfold RepL at r
  exact PGsw pgs_nil ⟨r, k _ G H _ rfl (.refl s.sub) ev h⟩
theorem jgws_cons {vs : List Nat} {d : D} {ds : List D} {Q : List Sl → Prop} (h : JGW S Γ vs e d δ fun δ' => JGWs S Γ vs es ds δ' Q) (hs : ∀ env, (assignEach (e :: es) env).map (·.2) = assign e env :: (assignEach es env).map (·.2) := by intro _; rfl) : JGWs S Γ vs (e :: es) (d :: ds) δ Q := by
  refine ⟨fun X hX us σ G H s ev r Q' k => ?_⟩
  unfold RepL at r
  obtain ⟨v, vr, rfl, r1, r2⟩ := r
  refine PGsw (pgs_cons wG_pg wGs_pgs (hs _)) ⟨v, vr, rfl, ?_⟩
  refine h.run X hX v σ G H s ev r1 _ fun σ1 G1 H1 δ1 w1 s1 ev1 q => ?_
  exact q.run X hX vr σ1 G1 H1 (s.trans s1) ev1 (r2.mono s1) Q' fun σ2 G2 H2 δ2 w2 s2 ev2 q2 => k σ2 G2 H2 δ2 (w2.trans w1) (s1.trans s2) ev2 q2
theorem jgw_tup [Calm Γ] {vs : List Nat} {kk : Nat} {ds : List D} {Q : List Sl → Prop} {n : Nat} (hl : ds.length = n) (h : JGWs S Γ vs es ds δ Q) (hn : ∀ env, (assignEach es env).length = n := by intro _; rfl) (hst : ∀ env, (assignEach es env).findIdx? (·.1) = none := by intro _; rfl) : JGW S Γ vs (.Tuple es kk pos) (.tup ds) δ Q := by
  refine ⟨fun X hX v σ G H s ev r Q' k => ?_⟩
  unfold Rep at r
  obtain ⟨p, us, rfl, h1, h2⟩ := r
  refine PGw (pg_tup (hX.calm Calm.hx) wGs_pgs (hn _) (hst _)) ⟨p, us, rfl, by rw [hX.K]; exact Same.tup s.sub h1, by rw [h2.length]; exact hl, ?_⟩
  exact h.run X hX us σ G H s ev h2 Q' k
/-- the tests of a comprehension -/
structure JTs (S : Scp) (Γ : Cg) (ifs : List Expr) (δ : List Sl) (P : Bool → Prop) : Prop where
  run : ∀ X, COk S Γ X → ∀ σ G H, Stp Γ.K Γ.G0 Γ.H0 G H → EnvOk Γ.K G H Γ.H0 σ δ → ∀ pins s, Inv X pins σ H s → ∀ Q : Bool → Hp → Prop, (∀ b G' H', Stp Γ.K G H G' H' → P b → Q b H') →
    wpAny (model X.prog X.w) X.A (forIn ifs true fun c r => if r = true then do let ok ← isTrue c X.env (eval c X.env); pure (ForInStep.yield ok) else pure (ForInStep.yield r)) (TP X pins σ Q) X.xe s
theorem jts_nil (h : PB true) : JTs S Γ [] δ PB := ⟨fun X hX σ G H s ev pins s0 I Q k => pts_nil.run pins s0 σ H Q I (k true G H (.refl s.sub) h)⟩
theorem jts_one (h : JT S Γ c δ PB) : JTs S Γ [c] δ PB := ⟨fun X hX σ G H s ev pins s0 I Q k => (pts_one wT_pt).run pins s0 σ H Q I (h.run X hX σ G H s ev Q k)⟩
def wTs (X : Cx) (ifs : List Expr) : TT := fun σ H Q => ∀ pins s, Inv X pins σ H s → wpAny (model X.prog X.w) X.A (forIn ifs true fun c r => if r = true then do let ok ← isTrue c X.env (eval c X.env); pure (ForInStep.yield ok) else pure (ForInStep.yield r)) (TP X pins σ Q) X.xe s
def Md.inB : Md → Md
  | .calm => .calm
  | _ => .blind
theorem Md.inB_hot {m : Md} {h : Addr × Addr × Option Addr} : m.inB ≠ .hot h := by cases m <;> intro z <;> cases z
theorem Md.inB_calm {m : Md} (e : m.inB = .calm) : m = .calm := by cases m <;> first | rfl | cases e
abbrev Cg.inBlk (Γ : Cg) : Cg := { Γ with ex := fun _ _ _ _ => False, blk := true, md := Γ.md.inB, cd := none }
/-- what stands of a comprehension's block -/
structure BlkS (S S' : Scp) (scope : Scope) (own : List (Str × Nat)) : Prop where
  ok : BlkOk S.N S.sc scope own
  so : S'.Ok
  N : S'.N = S.N
  sc : S'.sc = relS scope S.sc
  lv : S'.lv = S.lv
  st : ∀ x ∈ S'.ss, S'.sc.names.lookup x.1 = some .local ∨ scope.names.lookup x.1 = some .cell
theorem COk.blk {S' : Scp} {scope : Scope} {own : List (Str × Nat)} (B : BlkS S S' scope own) {X : Cx} (hX : COk S Γ X) (s : Shared) (H : Hp) (C : Addr) (cl : List (Str × Addr)) (fp : List Addr) : COk S' Γ.inBlk (X.blk s H scope (compEnvC scope cl C X.env) fp) := by
  have e : (compEnvC scope cl C X.env).scope = S'.sc := by rw [B.sc, ← hX.sc]; rfl
  refine ⟨B.so, hX.prog, hX.w, hX.K, hX.mg, hX.base, by rw [B.N]; exact hX.N, e, fun m => hX.calm (Md.inB_calm m), by rw [B.lv]; exact fun m => hX.room (Md.inB_calm m), by rw [B.lv]; exact hX.roomH, fun _ m => absurd m Md.inB_hot, fun x hx => ?_, (fun z => Bool.noConfusion z), ?_, hX.tb, (fun _ _ _ z => by cases z)⟩
  · rcases B.st x hx with q | q
    · refine .inr ?_
      show (compEnvC scope cl C X.env).scope.names.lookup x.1 = _
      rw [e]
      exact q
    · exact .inl (beq_iff_eq.mpr q)
  · rintro u s' ⟨a, B, sI, pins, σ, H, cls, d, e, I, nb, up, sky, na, os, ag, G, δ, ns, ds, _, _, _, z⟩
    exact z.elim
theorem lc_t {S' : Scp} {elt iter : Expr} {ifs : List Expr} {scope : Scope} {own : List (Str × Nat)} (B : BlkS S S' scope own)
    (h : JI S Γ tg iter δ fun n f => ∃ A : Nat → List D → Prop, A 0 [] ∧ (∀ i acc, i < n → A i acc → JGW S' Γ.inBlk (own.map (·.2)) tg (f i) (wipeD δ (own.map (·.2))) fun δ2 => JTs S' Γ.inBlk ifs δ2 fun t => if t = true then JE S' Γ.inBlk elt δ2 fun d => acc.length < sizeLine ∧ A (i + 1) (acc ++ [d]) else A (i + 1) acc) ∧ ∀ acc, A n acc → PL acc)
    {X : Cx} (hX : COk S Γ X) {σ : L2.St} {G H : Hp} (s : Stp Γ.K Γ.G0 Γ.H0 G H) (ev : EnvOk Γ.K G H Γ.H0 σ δ) {Q : VK} (k : ∀ p vs G' H' ds, Stp Γ.K G H G' H' → H p = none → G' p = none → H' p = some (.lst vs) → RepL Γ.K G' H' ds vs → PL ds → Q (.ref p) H') :
    tLc (wI X tg iter) (fun v σ H Q => ∀ s H0 C cl fp, wG (X.blk s H0 scope (compEnvC scope cl C X.env) fp) tg v σ H Q) (fun σ H Q => ∀ s H0 C cl fp, wTs (X.blk s H0 scope (compEnvC scope cl C X.env) fp) ifs σ H Q) (fun σ H Q => ∀ s H0 C cl fp, wE (X.blk s H0 scope (compEnvC scope cl C X.env) fp) elt σ H Q) (own.map (·.2)) σ H Q := by
  refine h.run X hX σ G H s ev _ fun J G1 H1 n f s1 it q => ?_
  obtain ⟨A, a0, turn, fin⟩ := q
  intro p hp
  have g1 : G1 p = none := s1.sub.free hp
  have h0 : H p = none := s1.free hp
  refine ⟨fun i m H' => m = n - i ∧ i ≤ n ∧ ∃ G' acc ds, Stp Γ.K G1 H1 G' H' ∧ G' p = none ∧ H' p = some (.lst acc) ∧ RepL Γ.K G' H' ds acc ∧ A i ds, ⟨n, by simp, Nat.zero_le _, G1, [], [], .newM s1.sub hp, g1, upd_same, .nil, a0⟩, ?_⟩
  rintro i m H' ⟨rfl, hi, G', acc, ds, s', g', hp', r', ai⟩
  have st' := (s.trans s1).trans s'
  by_cases hlt : i < n
  · refine .inr ⟨it.go i G' H' s'.sub s'.mo hlt, fun H2 => ∃ G2 acc2 ds2, Stp Γ.K G1 H1 G2 H2 ∧ G2 p = none ∧ H2 p = some (.lst acc2) ∧ RepL Γ.K G2 H2 ds2 acc2 ∧ A (i + 1) ds2, fun H2 h2 => ⟨n - (i + 1), by omega, rfl, hlt, h2⟩, fun x H2 y => ?_⟩
    obtain ⟨G2, s2, rx⟩ := it.yld i G' H' x H2 s'.sub s'.mo hlt (st'.tab hX.tb) y
    have own2 := s2.own p _ hp' g'
    intro s0 H0 C cl fp
    refine (turn i ds hlt ai).run _ (COk.blk B hX s0 H0 C cl fp) x _ G2 H2 (st'.trans s2) ((((ev.mono s1).mono s').mono s2).wipe _) rx _ fun σ3 G3 H3 δ3 w3 s3 ev3 q3 => ?_
    refine ⟨?_, ?_⟩
    · rw [w3]
      exact wipe_wipe fun _ z => z
    intro s0 H0 C cl fp pins s00 I
    refine q3.run _ (COk.blk B hX s0 H0 C cl fp) σ3 G3 H3 ((st'.trans s2).trans s3) ev3 pins s00 I _ fun t G4 H4 s4 q4 => ?_
    have s24 := (s2.trans s3).trans s4
    have own4 := s24.own p _ hp' g'
    have hp4 : H4 p = some (.lst acc) := own4.2.elim id fun z => z.1.elim
    cases t with
    | false =>
      refine L2.iteF ⟨G4, acc, ds, s'.trans s24, own4.1, hp4, r'.mono s24, ?_⟩
      exact q4
    | true =>
      refine L2.iteT ?_
      intro s0 H0 C cl fp
      refine (show JE _ _ _ _ _ from q4).run _ (COk.blk B hX s0 H0 C cl fp) σ3 G4 H4 (st'.trans s24) (ev3.mono s4) _ fun y5 G5 H5 d5 s5 r5 q5 => ?_
      have own5 := s5.own p _ hp4 own4.1
      have hp5 : H5 p = some (.lst acc) := own5.2.elim id fun z => z.1.elim
      have rr := (r'.mono s24).mono s5
      refine ⟨acc, hp5, by rw [r'.length]; exact q5.1, G5, acc ++ [y5], ds ++ [d5], ((s'.trans s24).trans s5).write (o := .lst acc) own5.1 hp, own5.1, upd_same, ?_, q5.2⟩
      exact (rr.append (.one r5)).mo (.write hp5)
  · have e : i = n := by omega
    subst e
    exact .inl ⟨it.stop G' H' s'.sub s'.mo, k p acc G' H' ds (s1.trans s') h0 g' hp' r' (fin ds ai)⟩
theorem jf_lc [Calm Γ] {S' : Scp} {elt iter : Expr} {ifs : List Expr} {scope : Scope} {own : List (Str × Nat)} (B : BlkS S S' scope own)
    (h : JI S Γ tg iter δ fun n f => ∃ A : Nat → List D → Prop, A 0 [] ∧ (∀ i acc, i < n → A i acc → JGW S' Γ.inBlk (own.map (·.2)) tg (f i) (wipeD δ (own.map (·.2))) fun δ2 => JTs S' Γ.inBlk ifs δ2 fun t => if t = true then JE S' Γ.inBlk elt δ2 fun d => acc.length < sizeLine ∧ A (i + 1) (acc ++ [d]) else A (i + 1) acc) ∧ ∀ acc, A n acc → PL acc)
    (hs : ∀ env x, foldedSetIterable iter env x = pure x := by intros; rfl) : JF S Γ (.ListComp elt [⟨tg, iter, ifs, 0⟩] scope pos) δ PL := by
  refine ⟨fun X hX σ G H s ev Q k => ?_⟩
  refine PEw (pe_lc (hX.calm Calm.hx) (by rw [hX.N]; exact hX.so.nd) (wI_pi (hX.calm Calm.hx)) (by rw [hX.N, hX.sc]; exact B.ok) ?_ ?_ ?_ (hs _)) (lc_t B h hX s ev k)
  · exact fun s H C cl fp => ⟨fun pins s0 σ H0 v u Q I r q => q s H C cl fp pins s0 u I r⟩
  · exact fun s H C cl fp => ⟨fun pins s0 σ H0 Q I q => q s H C cl fp pins s0 I⟩
  · exact fun s H C cl fp => ⟨fun pins s0 σ H0 Q I q => q s H C cl fp pins s0 I⟩
/-! ### x.append(e) at a list of one's own -/
theorem EnvOk.write {KK : PySem.W.Frag} {G H H0 : Hp} {σ : St} {δ : List Sl} (h : EnvOk KK G H H0 σ δ) {i : Nat} {ds es : List D} {p : Addr} {us : List V} (e : δ[i]? = some (.ow ds)) (ep : σ[i]? = some (some (.ref p))) (g : G p = none) (h0 : H0 p = none) {vs : List V} (hp : H p = some (.lst vs))
    (r : RepL KK G H es us) : EnvOk KK G (upd H p (.lst us)) H0 σ (δ.set i (.ow es)) := by
  have mo : Mo KK G H G (upd H p (.lst us)) := .write hp
  obtain ⟨F, f, dj⟩ := h.fp
  obtain ⟨p', vs', ea, e1, _, _, _, _⟩ := EnvOk.at0 f e
  rw [ep] at e1
  cases e1
  refine EnvOk.anew (as' := [p]) h.len f dj mo (fun j n a ha => ⟨?_, ((f j).own a ha).1⟩) rfl (fun _ _ => rfl) (fun _ => ⟨p, us, rfl, ep, upd_same, g, h0, r.mo mo⟩) (fun j n a ha => ?_)
  · rw [upd_ne]
    intro w
    subst w
    exact dj j i n a ha (by rw [ea]; exact .head _)
  · rw [List.mem_singleton.mp ha]
    exact dj i j (fun w => n w.symm) p (by rw [ea]; exact .head _)
theorem js_append {x : Str} {i : Nat} {ds : List D} {p1 p2 p3 : Pos} (hv : (x, i) ∈ S.vs) (hδ : δ[i]? = some (.ow ds)) (h : JE S Γ e δ fun d => ds.length < sizeLine ∧ K.nx (δ.set i (.ow (ds ++ [d]))))
    (hd : (x == ("__debug__" : Str)) = false := by decide) (hcd : (x == ("__classdict__" : Str)) = false := by decide)
    (hs : ∀ env, starEach [e] env = (false, eval e env) :: starEach [] env := by intro _; rfl) (hline : (p2.endLine == p3.line) = true := by rfl)
    (hfew : ∀ env, ((backTo p3 (starEach [e] env)).all (fun x => !x.1) && (backToKw p3 (keywordEach [] env)).all (fun x => x.1.isSome) && decide (([e] : List Expr).length + ([] : List Keyword).length + (if ([] : List Keyword).isEmpty then 0 else 1) < 30)) = true := by intro _; rfl)
    (hsw : ∀ env, swapsWith (.Call (.Attribute (.Name x p1) "append" p2) [e] [] p3) none pos.line env = pure false := by intro _; rfl) :
    JS S Γ (.Expr (.Call (.Attribute (.Name x p1) "append" p2) [e] [] p3) pos) δ K := by
  refine ⟨fun X hX σ G H De s ev en => ?_⟩
  obtain ⟨h1, h2⟩ := hX.so.vs _ hv
  refine PSw (ps_expr (pe_bm PySem.F.plainAttrs_list PySem.F.slot_list_append PySem.F.type_list_append mt_append (pe_var (by rw [hX.N]; exact h1) (by rw [hX.sc]; exact h2) hd hcd) (pa_cons wE_pe pa_nil (hs _)) (by rfl) (hfew _) hline (hs _) (by rfl)) (hsw _)) ?_
  obtain ⟨p, vs, ep, hp, g, h0, r⟩ := ev.at_ i _ hδ
  refine ⟨_, ep, .inl ⟨rfl, vs, .inl (.inl hp)⟩, ?_⟩
  refine h.run X hX σ G H s ev _ fun v G1 H1 d s1 r1 q => ?_
  have ev1 := ev.mono s1
  obtain ⟨p', vs', ep', hp', g', h0', r'⟩ := ev1.at_ i _ hδ
  rw [ep] at ep'
  cases ep'
  have hlen := r'.length
  refine ⟨p, vs', v, rfl, rfl, hp', by rw [hlen]; exact q.1, ?_⟩
  exact en.nx σ G1 _ _ ((s.trans s1).write (o := .lst vs') g' h0) (s1.mo.trans (.write hp')) (ev1.write hδ ep g' h0 hp' (r'.append (.one r1))) q.2
end

/-! ### a def keeps its contract -/
theorem EnvOk.start {KK : PySem.W.Frag} {G H H0 : Hp} {ds : List D} {vs : List V} (r : RepL KK G H ds vs) (N : List Str) (hN : ds.length ≤ N.length) : EnvOk KK G H H0 (L2.start N vs) (ds.map Sl.fz ++ List.replicate (N.length - ds.length) Sl.no) := by
  have hl := r.length
  refine ⟨by simp [L2.start, hl], fun _ => [], fun i => ?_, fun _ _ _ a ha => by cases ha⟩
  by_cases hi : i < ds.length
  · rw [List.getElem?_append_left (by simpa using hi), List.getElem?_map]
    obtain ⟨v, hv, rv⟩ := r.get (List.getElem?_eq_getElem hi)
    rw [List.getElem?_eq_getElem hi]
    refine ⟨rfl, v, ?_, rv⟩
    unfold L2.start
    rw [List.getElem?_append_left (by simp [hl, hi]), List.getElem?_map, hv]
    rfl
  · rw [List.getElem?_append_right (by simpa using Nat.le_of_not_lt hi)]
    cases q : (List.replicate (N.length - ds.length) Sl.no)[i - (List.map Sl.fz ds).length]? with
    | none => rfl
    | some s =>
      rw [List.eq_of_mem_replicate (List.mem_of_getElem? q)]
      rfl
def startD (N : List Str) (ds : List D) : List Sl := ds.map Sl.fz ++ List.replicate (N.length - ds.length) Sl.no
/-- the surroundings that a def's body finds -/
def cgOf (P : Program) (w : World) (K : PySem.W.Frag) (mg : Str → Option Value) (base : Heap) (G H : Hp) (ex : List Sl → Value → List Str → List D → Prop) : Cg := ⟨P, w, K, mg, base, G, H, ex, fun _ => False, false, .calm, none⟩
/-- .. of a def that hands back a new list -/
def cgOfF (P : Program) (w : World) (K : PySem.W.Frag) (mg : Str → Option Value) (base : Heap) (G H : Hp) (ex : List Sl → Value → List Str → List D → Prop) (rf : MT → Prop) : Cg := ⟨P, w, K, mg, base, G, H, ex, rf, false, .calm, none⟩
/-- .. of a def that is called while an exception is handled -/
def cgOfH (P : Program) (w : World) (K : PySem.W.Frag) (mg : Str → Option Value) (base : Heap) (G H : Hp) (ex : List Sl → Value → List Str → List D → Prop) (hx : Addr × Addr × Option Addr) : Cg := ⟨P, w, K, mg, base, G, H, ex, fun _ => False, false, .hot hx, none⟩
instance calm_of {P : Program} {w : World} {K : PySem.W.Frag} {mg : Str → Option Value} {base : Heap} {G H : Hp} {ex : List Sl → Value → List Str → List D → Prop} : Calm (cgOf P w K mg base G H ex) := ⟨rfl⟩
instance calm_ofF {P : Program} {w : World} {K : PySem.W.Frag} {mg : Str → Option Value} {base : Heap} {G H : Hp} {ex : List Sl → Value → List Str → List D → Prop} {rf : MT → Prop} : Calm (cgOfF P w K mg base G H ex rf) := ⟨rfl⟩
instance calm_blk {Γ : Cg} [c : Calm Γ] : Calm Γ.inBlk := ⟨by show Γ.md.inB = _; rw [c.hx]; rfl⟩
/-- what all defs of a module lean on -/
structure Env1 where
  P : Program
  w : World
  K : PySem.W.Frag
  mg : Str → Option Value
  base : Heap
abbrev Env1.cg (U : Env1) (G H : Hp) (ex : List Sl → Value → List Str → List D → Prop) : Cg := cgOf U.P U.w U.K U.mg U.base G H ex
abbrev Env1.cgF (U : Env1) (G H : Hp) (ex : List Sl → Value → List Str → List D → Prop) (rf : MT → Prop) : Cg := cgOfF U.P U.w U.K U.mg U.base G H ex rf
abbrev Env1.Def (U : Env1) (x : Str) (lv : Nat) (df : List D) (c : Ct) : Prop := DefOk U.P U.w U.K U.mg U.base x lv df c
structure FunAt (U : Env1) (x : Str) (st : Stmt) (dvs : List V) : Prop where
  ex : ∃ f fd, FunD U.K x x (defArgs st) (defBody st) (defScope st) dvs [] f fd ∧ U.mg x = some (.ref f)
theorem def_ok {U : Env1} {x : Str} {st : Stmt} {S : Scp} {ps : List Str} {c : Ct} {n : Nat} {dvs : List V} {df : List D} {j : Nat} (F : FunAt U x st dvs) (so : S.Ok) (sc : S.sc = defScope st) (fs : FnScope S.N ps (defScope st)) (hn : ps.length = n) (hN : n ≤ S.N.length)
    (hb : ∀ f fd, FunD U.K x x (defArgs st) (defBody st) (defScope st) dvs [] f fd → ∃ ds, Vals (dvs.drop j) ds ∧ Binds U.K fd ps ds) (hdf : ∀ G H, RepL U.K G H df (dvs.drop j))
    (len : ∀ ds P E, c ds P E → ds.length = n)
    (mono : ∀ ds (P P' : D → Prop) (E E' : Value → List Str → List D → Prop), (∀ d, P d → P' d) → (∀ v ns es, E v ns es → E' v ns es) → c ds P E → c ds P' E')
    (body : ∀ (G H : Hp) ds P E, c ds P E → JSs S (U.cg G H fun _ => E) (defBody st) (startD S.N ds) { nx := fun _ => P .non, rt := P }) : U.Def x (S.lv + 1) df c := by
  refine ⟨mono, ?_⟩
  obtain ⟨f, fd, Fu, hm⟩ := F.ex
  obtain ⟨ds, hv, hbi⟩ := hb f fd Fu
  refine ⟨f, fd, ps, ds, dvs.drop j, ?_, hm, Fu.kp, hbi, hv, hdf⟩
  refine Fu.ok fs (fun vs H Q E h => ?_) (fun cdv A outer s H vs Q E hr h => ?_)
  · obtain ⟨G, ds, _, _, r, h⟩ := h
    rw [r.length, len _ _ _ h, hn]
  · obtain ⟨G, ds, e, tb, r, h⟩ := h
    have hl := len _ _ _ h
    refine ⟨_, wSs_pss, ?_⟩
    refine (body G H ds _ _ h).run _ ⟨so, rfl, rfl, rfl, rfl, rfl, rfl, sc.symm, fun _ => rfl, fun _ => hr, L2H.roomH_of hr, (fun _ z => by cases z), fun _ _ => .inl rfl, fun _ => ⟨rfl, rfl, rfl, passes_of rfl⟩, ?_, tb, (fun _ _ _ z => by cases z)⟩ _ G H _ (.refl e) (EnvOk.start r _ (by omega)) ⟨?_, ?_, ?_, ?_, fun _ _ _ _ _ _ _ _ _ q => q.elim⟩
    · refine L2N.Takes.imp (L2N.takes_of rfl rfl rfl rfl) ?_
      rintro cls d σ' H' ⟨G', δ', ns, es, s', ev', x', q⟩
      exact q d G' H' s' x'
    · exact fun σ' G' H' δ' s' _ _ q => q .non G' H' s' rep_non
    · exact fun _ _ _ _ _ _ _ q => q.elim
    · exact fun _ _ _ _ _ _ _ q => q.elim
    · exact fun v G' H' d s' r' q => q v G' H' s' r'
end Z
set_option Elab.async false
set_option linter.all false
set_option maxRecDepth 100000
set_option maxHeartbeats 4000000
/-! Z4: the rules in the form that the walk takes. -/
namespace Z
open PySem L2
variable [tabsI : TabsT]

inductive Has : List (Str × Nat) → Str → Nat → Prop
  | head {x : Str} {i : Nat} {l : List (Str × Nat)} : Has ((x, i) :: l) x i
  | tail {x : Str} {i : Nat} {p : Str × Nat} {l : List (Str × Nat)} : Has l x i → Has (p :: l) x i
theorem Has.mem {l : List (Str × Nat)} {x : Str} {i : Nat} (h : Has l x i) : (x, i) ∈ l := by
  induction h with
  | head => exact .head _
  | tail _ ih => exact .tail _ ih
inductive HasG : List Str → Str → Prop
  | head {x : Str} {l : List Str} : HasG (x :: l) x
  | tail {x y : Str} {l : List Str} : HasG l x → HasG (y :: l) x
theorem HasG.mem {l : List Str} {x : Str} (h : HasG l x) : x ∈ l := by
  induction h with
  | head => exact .head _
  | tail _ ih => exact .tail _ ih

section
variable {S : Scp} {Γ : Cg} {δ : List Sl} {P : D → Prop} {PB : Bool → Prop} {PL : List D → Prop} {N B C : List Sl → Prop} {R : D → Prop} {a b c e : Expr} {es rest : List Expr} {pos : Pos} {st : Stmt} {sts : List Stmt}
theorem zs_nil (h : N δ) : JSs S Γ [] δ ⟨N, R, B, C⟩ := jss_nil h
theorem zs_cons {st2 : Stmt} (h : JS S Γ st δ ⟨fun δ' => JSs S Γ (st2 :: sts) δ' ⟨N, R, B, C⟩, R, B, C⟩) : JSs S Γ (st :: st2 :: sts) δ ⟨N, R, B, C⟩ := jss_cons h
theorem zs_one (h : JS S Γ st δ ⟨N, R, B, C⟩) : JSs S Γ [st] δ ⟨N, R, B, C⟩ := jss_one h
theorem zs_break (h : B δ) : JS S Γ (.Break pos) δ ⟨N, R, B, C⟩ := js_break h
theorem zs_ret (h : JE S Γ e δ R) : JS S Γ (.Return (some e) pos) δ ⟨N, R, B, C⟩ := js_ret h
theorem zs_if {x y : List Stmt} (h : JT S Γ c δ fun t => if t = true then JSs S Γ x δ ⟨N, R, B, C⟩ else JSs S Γ y δ ⟨N, R, B, C⟩) : JS S Γ (.If c x y pos) δ ⟨N, R, B, C⟩ := js_if h
theorem zs_expr (h : JE S Γ e δ fun _ => N δ) (hs : ∀ env, swapsWith e none pos.line env = pure false := by intro _; rfl) : JS S Γ (.Expr e pos) δ ⟨N, R, B, C⟩ := js_expr h hs
theorem zs_set {x : Str} {i : Nat} {p : Pos} (hv : Has S.ss x i) (h : JE S Γ e δ fun d => N (δ.set i (.fz d))) (hs : ∀ env, swapsWith e (some (.Name x p)) pos.line env = pure false := by intro _; rfl) : JS S Γ (.Assign [.Name x p] e pos) δ ⟨N, R, B, C⟩ := js_set hv.mem h hs
theorem zs_setF {x : Str} {i : Nat} {p : Pos} (hv : Has S.ss x i) (h : JF S Γ e δ fun ds => N (δ.set i (.ow ds))) (hs : ∀ env, swapsWith e (some (.Name x p)) pos.line env = pure false := by intro _; rfl) : JS S Γ (.Assign [.Name x p] e pos) δ ⟨N, R, B, C⟩ := js_setF hv.mem h hs
theorem zg_name {x : Str} {i : Nat} {d : D} {Q : List Sl → Prop} (hv : Has S.ss x i) (h : Q (δ.set i (.fz d))) : JG S Γ (.Name x pos) d δ Q := jg_name hv.mem h
theorem zs_aug {x : Str} {i : Nat} {p : Pos} {op : Operator} {d : D} (hv : Has S.ss x i) (hδ : δ[i]? = some (.fz d)) (h : JE S Γ e δ fun y => OpD S Γ (inplaceOp op) d y fun z => N (δ.set i (.fz z))) : JS S Γ (.AugAssign (.Name x p) op e pos) δ ⟨N, R, B, C⟩ := js_aug hv.mem hδ h
theorem zs_append {x : Str} {i : Nat} {ds : List D} {p1 p2 p3 : Pos} (hv : Has S.vs x i) (hδ : δ[i]? = some (.ow ds)) (h : JE S Γ e δ fun d => ds.length < sizeLine ∧ N (δ.set i (.ow (ds ++ [d]))))
    (hd : (x == ("__debug__" : Str)) = false := by decide) (hcd : (x == ("__classdict__" : Str)) = false := by decide)
    (hs : ∀ env, starEach [e] env = (false, eval e env) :: starEach [] env := by intro _; rfl) (hline : (p2.endLine == p3.line) = true := by rfl)
    (hfew : ∀ env, ((backTo p3 (starEach [e] env)).all (fun x => !x.1) && (backToKw p3 (keywordEach [] env)).all (fun x => x.1.isSome) && decide (([e] : List Expr).length + ([] : List Keyword).length + (if ([] : List Keyword).isEmpty then 0 else 1) < 30)) = true := by intro _; rfl)
    (hsw : ∀ env, swapsWith (.Call (.Attribute (.Name x p1) "append" p2) [e] [] p3) none pos.line env = pure false := by intro _; rfl) :
    JS S Γ (.Expr (.Call (.Attribute (.Name x p1) "append" p2) [e] [] p3) pos) δ ⟨N, R, B, C⟩ := js_append hv.mem hδ h hd hcd hs hline hfew hsw
theorem ze_name {x : Str} {i : Nat} {d : D} (hv : Has S.vs x i) (hδ : δ[i]? = some (.fz d)) (h : P d) (hd : (x == ("__debug__" : Str)) = false := by decide) (hcd : (x == ("__classdict__" : Str)) = false := by decide) : JE S Γ (.Name x pos) δ P := je_name hv.mem hδ h hd hcd
theorem ze_call [Calm Γ] {x : Str} {lv : Nat} {df : List D} {ct : Ct} {p : Pos} (F : DefOk Γ.P Γ.w Γ.K Γ.mg Γ.base x lv df ct) (hl : lv ≤ S.lv) (hg : HasG S.gl x)
    (h : JA S Γ (e :: es) δ fun ds => ct (ds ++ df) P (Γ.ex δ))
    (hdb : (x == ("__debug__" : Str)) = false := by decide) (he : ∀ env, starEach (e :: es) env = (false, eval e env) :: starEach es env := by intro _; rfl) (hpl : ∀ env, (backTo pos (starEach es env)).any (·.1) = false := by intro _; rfl) :
    JE S Γ (.Call (.Name x p) (e :: es) [] pos) δ P := je_call F hl hg.mem h hdb he hpl
theorem isBl_mk {b : Bool} (h : PB b) : isBl PB (.bl b) := h
/-! tests whose answer is asked -/
theorem ite_d {c : Prop} [Decidable c] {A B : Prop} (h1 : c → A) (h2 : ¬ c → B) : if decide c = true then A else B := by
  by_cases h : c
  · rw [decide_eq_true h]; exact L2.iteT (h1 h)
  · rw [decide_eq_false h]; exact L2.iteF (h2 h)
theorem ite_nd {c : Prop} [Decidable c] {A B : Prop} (h1 : ¬ c → A) (h2 : c → B) : if (!decide c) = true then A else B := by
  by_cases h : c
  · rw [decide_eq_true h]; exact L2.iteF (h2 h)
  · rw [decide_eq_false h]; exact L2.iteT (h1 h)
theorem ite_T {b : Bool} {A B : Prop} (hb : b = true) (h : A) : if b = true then A else B := by rw [hb]; exact L2.iteT h
theorem ite_F {b : Bool} {A B : Prop} (hb : b = false) (h : B) : if b = true then A else B := by rw [hb]; exact L2.iteF h
theorem ite_dT {c : Prop} [Decidable c] {A B : Prop} (hc : c) (h : A) : if decide c = true then A else B := ite_T (decide_eq_true hc) h
theorem ite_dF {c : Prop} [Decidable c] {A B : Prop} (hc : ¬ c) (h : B) : if decide c = true then A else B := ite_F (decide_eq_false hc) h
theorem ite_ndF {c : Prop} [Decidable c] {A B : Prop} (hc : c) (h : B) : if (!decide c) = true then A else B := ite_F (by rw [decide_eq_true hc]; rfl) h
end
end Z
namespace Z
open PySem L2
variable [tabsI : TabsT]
section
variable {S : Scp} {Γ : Cg} {δ : List Sl} {N B C : List Sl → Prop} {R : D → Prop} {a b : Expr} {pos : Pos}
end
end Z
set_option Elab.async false
set_option linter.all false
set_option maxRecDepth 100000
set_option maxHeartbeats 4000000
/-! Z5: the law's store (a dict of six keys) and the script. -/
namespace Z
open PySem L2
variable [tabsI : TabsT]
section
variable {S : Scp} {Γ : Cg} {δ : List Sl} {P : D → Prop} {PB : Bool → Prop} {PL : List D → Prop} {N B C : List Sl → Prop} {R : D → Prop} {a b c e o : Expr} {es rest : List Expr} {pos : Pos} {st : Stmt} {sts : List Stmt}
theorem ks12 : ¬ kS "cells" = kS "at" := by decide +kernel
theorem ks13 : ¬ kS "cells" = kS "rest" := by decide +kernel
theorem ks14 : ¬ kS "cells" = kS "left" := by decide +kernel
theorem ks15 : ¬ kS "cells" = kS "turn" := by decide +kernel
theorem ks16 : ¬ kS "cells" = kS "seed" := by decide +kernel
theorem ks23 : ¬ kS "at" = kS "rest" := by decide +kernel
theorem ks24 : ¬ kS "at" = kS "left" := by decide +kernel
theorem ks25 : ¬ kS "at" = kS "turn" := by decide +kernel
theorem ks26 : ¬ kS "at" = kS "seed" := by decide +kernel
theorem ks34 : ¬ kS "rest" = kS "left" := by decide +kernel
theorem ks35 : ¬ kS "rest" = kS "turn" := by decide +kernel
theorem ks36 : ¬ kS "rest" = kS "seed" := by decide +kernel
theorem ks45 : ¬ kS "left" = kS "turn" := by decide +kernel
theorem ks46 : ¬ kS "left" = kS "seed" := by decide +kernel
theorem ks56 : ¬ kS "turn" = kS "seed" := by decide +kernel
theorem st_ne {x y : Str} (h : ¬ kS x = kS y) : ¬ x = y := fun z => h (congrArg Sum.inr z)
theorem pos2560 : (0 : Int) < 2 ^ 2560 := by decide +kernel
section
variable {k : Addr} {x r l t s : Int}
theorem sv_cells : valV (stoKvs k x r l t s) (kS "cells") = some (.ref k) := valV_pos rfl
theorem sv_at : valV (stoKvs k x r l t s) (kS "at") = some (.int x) := by
  unfold stoKvs
  rw [valV_neg ks12, valV_pos rfl]
theorem sv_rest : valV (stoKvs k x r l t s) (kS "rest") = some (.int r) := by
  unfold stoKvs
  rw [valV_neg ks13, valV_neg ks23, valV_pos rfl]
theorem sv_left : valV (stoKvs k x r l t s) (kS "left") = some (.int l) := by
  unfold stoKvs
  rw [valV_neg ks14, valV_neg ks24, valV_neg ks34, valV_pos rfl]
theorem sv_turn : valV (stoKvs k x r l t s) (kS "turn") = some (.int t) := by
  unfold stoKvs
  rw [valV_neg ks15, valV_neg ks25, valV_neg ks35, valV_neg ks45, valV_pos rfl]
theorem sv_seed : valV (stoKvs k x r l t s) (kS "seed") = some (.int s) := by
  unfold stoKvs
  rw [valV_neg ks16, valV_neg ks26, valV_neg ks36, valV_neg ks46, valV_neg ks56, valV_pos rfl]
theorem sp_at {x' : Int} : putK (stoKvs k x r l t s) (kS "at") (.int x') = stoKvs k x' r l t s := by
  simp [putK, stoKvs, st_ne ks12, Ne.symm (st_ne ks12), st_ne ks23, Ne.symm (st_ne ks23), st_ne ks24, Ne.symm (st_ne ks24), st_ne ks25, Ne.symm (st_ne ks25), st_ne ks26, Ne.symm (st_ne ks26)]
theorem sp_rest {x' : Int} : putK (stoKvs k x r l t s) (kS "rest") (.int x') = stoKvs k x x' l t s := by
  simp [putK, stoKvs, st_ne ks13, Ne.symm (st_ne ks13), st_ne ks23, Ne.symm (st_ne ks23), st_ne ks34, Ne.symm (st_ne ks34), st_ne ks35, Ne.symm (st_ne ks35), st_ne ks36, Ne.symm (st_ne ks36)]
theorem sp_left {x' : Int} : putK (stoKvs k x r l t s) (kS "left") (.int x') = stoKvs k x r x' t s := by
  simp [putK, stoKvs, st_ne ks14, Ne.symm (st_ne ks14), st_ne ks24, Ne.symm (st_ne ks24), st_ne ks34, Ne.symm (st_ne ks34), st_ne ks45, Ne.symm (st_ne ks45), st_ne ks46, Ne.symm (st_ne ks46)]
theorem sp_turn {x' : Int} : putK (stoKvs k x r l t s) (kS "turn") (.int x') = stoKvs k x r l x' s := by
  simp [putK, stoKvs, st_ne ks15, Ne.symm (st_ne ks15), st_ne ks25, Ne.symm (st_ne ks25), st_ne ks35, Ne.symm (st_ne ks35), st_ne ks45, Ne.symm (st_ne ks45), st_ne ks56, Ne.symm (st_ne ks56)]
end
/-- what a key of the store tells -/
def StoGet (cells : List Int) (key : Str) (P : D → Prop) : Prop :=
  ∀ (K : PySem.W.Frag) (G : Hp) (k : Addr) (x r l t s : Int), G k = some (.lst (cells.map V.int)) → 0 ≤ x → x ≤ cells.length → 0 ≤ r → r < 2 ^ 2560 → (0 < l → cells ≠ []) → ∃ v d, valV (stoKvs k x r l t s) (kS key) = some v ∧ (∀ H, Rep K G H d v) ∧ P d
theorem je_stoGet {key : Str} {j : Nat} {p2 : Pos} (h : JE S Γ o δ fun d => ∃ cells, d = .sto cells ∧ StoGet cells key P) (hs : NoSl (.Constant (.str key) j p2) := by intro _ _; rfl) : JE S Γ (.Subscript o (.Constant (.str key) j p2) pos) δ P := by
  refine ⟨fun X hX σ G H st ev Q k => ?_⟩
  refine PEw (pe_dget (unH1 hX.roomH) wE_pe pe_str hs) ?_
  refine h.run X hX σ G H st ev _ fun v G1 H1 d s1 r1 h1 => ?_
  obtain ⟨cells, rfl, g⟩ := h1
  unfold Rep at r1
  obtain ⟨p, rfl, gp, kvs, hp, sa⟩ := r1
  obtain ⟨c, x, r, l, t, s, rfl, q1, q2, q3, q4, q5, q6, q7⟩ := sa.ex
  obtain ⟨v, d, e1, e2, e3⟩ := g Γ.K G1 c x r l t s q1 q3 q4 q5 q6 q7
  refine ⟨p, v, rfl, ?_, k v G1 H1 d s1 (e2 _) e3⟩
  have := DGet.k (k := kS key) hp
  rw [e1] at this
  exact this
theorem sg_rest {cells : List Int} (h : ∀ r : Int, 0 ≤ r → r < 2 ^ 2560 → P (.int r)) : StoGet cells "rest" P := fun K G k x r l t s _ _ _ h1 h2 _ => ⟨_, .int r, sv_rest, fun _ => rep_int, h r h1 h2⟩
theorem sg_left {cells : List Int} (h : ∀ r : Int, (0 < r → cells ≠ []) → P (.int r)) : StoGet cells "left" P := fun K G k x r l t s _ _ _ _ _ h1 => ⟨_, .int l, sv_left, fun _ => rep_int, h l h1⟩
theorem sg_at {cells : List Int} (h : ∀ r : Int, 0 ≤ r → r ≤ cells.length → P (.int r)) : StoGet cells "at" P := fun K G k x r l t s _ h1 h2 _ _ _ => ⟨_, .int x, sv_at, fun _ => rep_int, h x h1 h2⟩
theorem sg_turn {cells : List Int} (h : ∀ r : Int, P (.int r)) : StoGet cells "turn" P := fun K G k x r l t s _ _ _ _ _ _ => ⟨_, .int t, sv_turn, fun _ => rep_int, h t⟩
theorem sg_seed {cells : List Int} (h : ∀ r : Int, P (.int r)) : StoGet cells "seed" P := fun K G k x r l t s _ _ _ _ _ _ => ⟨_, .int s, sv_seed, fun _ => rep_int, h s⟩
theorem sg_cells {cells : List Int} (h : P (.lst (cells.map D.int))) : StoGet cells "cells" P := fun K G k x r l t s h0 _ _ _ _ _ => ⟨_, .lst (cells.map D.int), sv_cells, fun H => by unfold Rep; exact ⟨k, _, rfl, h0, .ofInts⟩, h⟩
/-- what may be put there -/
def StoPut (cells : List Int) (key : Str) (d : D) : Prop :=
  ∃ y : Int, d = .int y ∧ ∀ (k : Addr) (x r l t s : Int), 0 ≤ x → x ≤ cells.length → 0 ≤ r → r < 2 ^ 2560 → (0 < l → cells ≠ []) →
    ∃ x' r' l' t' s', putK (stoKvs k x r l t s) (kS key) (.int y) = stoKvs k x' r' l' t' s' ∧ 0 ≤ x' ∧ x' ≤ cells.length ∧ 0 ≤ r' ∧ r' < 2 ^ 2560 ∧ (0 < l' → cells ≠ [])
theorem spp_rest {cells : List Int} {y : Int} (h1 : 0 ≤ y) (h2 : y < 2 ^ 2560) : StoPut cells "rest" (.int y) := ⟨y, rfl, fun k x r l t s a1 a2 _ _ a5 => ⟨x, y, l, t, s, sp_rest, a1, a2, h1, h2, a5⟩⟩
theorem spp_left {cells : List Int} {y : Int} (h1 : 0 < y → cells ≠ []) : StoPut cells "left" (.int y) := ⟨y, rfl, fun k x r l t s a1 a2 a3 a4 _ => ⟨x, r, y, t, s, sp_left, a1, a2, a3, a4, h1⟩⟩
theorem spp_at {cells : List Int} {y : Int} (h1 : 0 ≤ y) (h2 : y ≤ cells.length) : StoPut cells "at" (.int y) := ⟨y, rfl, fun k x r l t s _ _ a3 a4 a5 => ⟨y, r, l, t, s, sp_at, h1, h2, a3, a4, a5⟩⟩
theorem spp_turn {cells : List Int} {y : Int} : StoPut cells "turn" (.int y) := ⟨y, rfl, fun k x r l t s a1 a2 a3 a4 a5 => ⟨x, r, l, y, s, sp_turn, a1, a2, a3, a4, a5⟩⟩
theorem ints_inj : ∀ {xs ys : List Int}, xs.map V.int = ys.map V.int → xs = ys
  | [], [], _ => rfl
  | [], _ :: _, h => by simp at h
  | _ :: _, [], h => by simp at h
  | x :: xs, y :: ys, h => by
    simp only [List.map_cons, List.cons.injEq, V.int.injEq] at h
    rw [h.1, ints_inj h.2]
theorem zs_stoPut {value : Expr} {key : Str} {j : Nat} {p2 pos' : Pos} (h : JE S Γ value δ fun d => JE S Γ o δ fun d' => ∃ cells, d' = .sto cells ∧ StoPut cells key d ∧ N δ)
    (hs : ∀ env, swapsWith value (some (.Subscript o (.Constant (.str key) j p2) pos')) pos.line env = pure false := by intro _; rfl) :
    JS S Γ (.Assign [.Subscript o (.Constant (.str key) j p2) pos'] value pos) δ ⟨N, R, B, C⟩ := by
  refine ⟨fun X hX σ G H De s ev en => ?_⟩
  refine PSw (ps_dput (unH1 hX.roomH) wE_pe pe_str wE_pe (hs _)) ?_
  refine h.run X hX σ G H s ev _ fun v G1 H1 d s1 r1 h1 => ?_
  refine h1.run X hX σ G1 H1 (s.trans s1) (ev.mono s1) _ fun v2 G2 H2 d2 s2 r2 h2 => ?_
  obtain ⟨cells, rfl, ⟨y, rfl, put⟩, hn⟩ := h2
  unfold Rep at r1 r2
  subst r1
  obtain ⟨p, rfl, gp, kvs, hp, sa⟩ := r2
  obtain ⟨c, x, r, l, t, sd, rfl, q1, q2, q3, q4, q5, q6, q7⟩ := sa.ex
  obtain ⟨x', r', l', t', s', e, w1, w2, w3, w4, w5⟩ := put c x r l t sd q3 q4 q5 q6 q7
  refine ⟨p, _, rfl, DPut.k (k := kS key) hp (by show 6 < sizeLine; decide), ?_⟩
  rw [e]
  have okAt : ∀ cells', StoreOk Γ.K G2 H2 cells' p → StoreOk Γ.K G2 (upd H2 p (.dK (stoKvs c x' r' l' t' s'))) cells' p := by
    rintro cells' ⟨kv, z1, z2⟩
    rw [hp] at z1
    cases z1
    obtain ⟨c2, x2, r2, l2, t2, s2, e2, y1, y2, y3⟩ := z2.ex
    have ec : c2 = c := by
      have := congrArg (fun l => valV l (kS "cells")) e2
      simp only [sv_cells] at this
      cases this
      rfl
    subst ec
    rw [q1] at y1
    have := ints_inj (HO.lst.inj (Option.some.inj y1))
    subst this
    exact ⟨_, upd_same, ⟨c2, x', r', l', t', s', rfl, q1, q2, w1, w2, w3, w4, w5⟩⟩
  have s3 : Stp Γ.K G2 H2 G2 (upd H2 p (.dK (stoKvs c x' r' l' t' s'))) := by
    refine ⟨Same.refl _, fun b u z => ?_, fun b u z n => ⟨n, ?_⟩, fun t => TOk.upd_o hp True.intro (fun _ z => by cases z) t⟩
    · rw [upd_ne (ne_of_none z gp)]
      exact ((s.trans s1).trans s2).sub b u z
    · by_cases zb : b = p
      · subst zb
        rw [hp] at z
        cases z
        exact .inr ⟨rfl, _, upd_same, ⟨rfl, rfl⟩, okAt⟩
      · exact .inl (by rw [upd_ne zb]; exact z)
  exact en.nx σ G2 _ δ (((s.trans s1).trans s2).trans s3) ((s1.trans s2).trans s3).mo ((ev.mono s1).mono (s2.trans s3)) hn
theorem ks_new {c : Addr} {s : Int} : mergeK [] (stoKvs c 0 0 0 0 s) = stoKvs c 0 0 0 0 s := by
  have e : ∀ (kvs : List (Key × V)) (k : Key) (v : V), valV kvs k = none → putK kvs k v = kvs ++ [(k, v)] := fun kvs k v h => putK_new v h
  show putK (putK (putK (putK (putK (putK [] (kS "cells") (.ref c)) (kS "at") (.int 0)) (kS "rest") (.int 0)) (kS "left") (.int 0)) (kS "turn") (.int 0)) (kS "seed") (.int s) = _
  rw [e [] _ _ valV_nil, e _ (kS "at") _ (by rw [List.nil_append, valV_neg ks12, valV_nil])]
  rw [e _ (kS "rest") _ (by simp only [List.nil_append, List.cons_append]; rw [valV_neg ks13, valV_neg ks23, valV_nil])]
  rw [e _ (kS "left") _ (by simp only [List.nil_append, List.cons_append]; rw [valV_neg ks14, valV_neg ks24, valV_neg ks34, valV_nil])]
  rw [e _ (kS "turn") _ (by simp only [List.nil_append, List.cons_append]; rw [valV_neg ks15, valV_neg ks25, valV_neg ks35, valV_neg ks45, valV_nil])]
  rw [e _ (kS "seed") _ (by simp only [List.nil_append, List.cons_append]; rw [valV_neg ks16, valV_neg ks26, valV_neg ks36, valV_neg ks46, valV_neg ks56, valV_nil])]
  rfl
/-- {'cells': .., 'at': 0, 'rest': 0, 'left': 0, 'turn': 0, 'seed': ..} -/
theorem je_stoNew {v1 v6 : Expr} {j1 j2 j3 j4 j5 j6 i2 i3 i4 i5 : Nat} {p1 p2 p3 p4 p5 p6 q2 q3 q4 q5 : Pos}
    (h : JE S Γ v1 δ fun d1 => ∃ cells : List Int, d1 = .lst (cells.map D.int) ∧ cells.length ≤ 63 ∧ JE S Γ v6 δ fun d6 => ∃ s : Int, d6 = .int s ∧ P (.sto cells)) :
    JE S Γ (.Dict [some (.Constant (.str "cells") j1 p1), some (.Constant (.str "at") j2 p2), some (.Constant (.str "rest") j3 p3), some (.Constant (.str "left") j4 p4), some (.Constant (.str "turn") j5 p5), some (.Constant (.str "seed") j6 p6)]
      [v1, .Constant (.int 0) i2 q2, .Constant (.int 0) i3 q3, .Constant (.int 0) i4 q4, .Constant (.int 0) i5 q5, v6] pos) δ P := by
  refine ⟨fun X hX σ G H st ev Q k => ?_⟩
  refine PEw (pe_disp (pps_cons pe_str wE_pe (pps_cons pe_str pe_int (pps_cons pe_str pe_int (pps_cons pe_str pe_int (pps_cons pe_str pe_int (pps_cons pe_str wE_pe pps_nil)))))) rfl rfl (by intro z; cases z) (by show 6 ≤ 15; decide)) ?_
  intro p hp
  have s0 : Stp Γ.K G H G (upd H p (.dK [])) := .newM st.sub hp
  have gp := st.sub.free hp
  refine h.run X hX σ G _ (st.trans s0) (ev.mono s0) _ fun u1 G1 H1 d1 s1 r1 h1 => ?_
  obtain ⟨cells, rfl, hl, h1⟩ := h1
  have o1 := s1.own p _ upd_same gp
  have hp1 : H1 p = some (.dK []) := o1.2.elim id fun z => by cases z.1
  refine h1.run X hX σ G1 H1 ((st.trans s0).trans s1) ((ev.mono s0).mono s1) _ fun u6 G2 H2 d6 s2 r6 h2 => ?_
  obtain ⟨s, rfl, h2⟩ := h2
  have o2 := s2.own p _ hp1 o1.1
  have hp2 : H2 p = some (.dK []) := o2.2.elim id fun z => by cases z.1
  have r1' := r1.mono s2
  unfold Rep at r1' r6
  obtain ⟨c, vs, rfl, hc, rl⟩ := r1'
  have := rl.ints
  subst this
  subst r6
  refine ⟨hp2, stoKvs c 0 0 0 0 s, rfl, by show 6 ≤ 15; decide, ?_⟩
  rw [ks_new]
  have s3 : Stp Γ.K G H G2 (upd H2 p (.dK (stoKvs c 0 0 0 0 s))) := ((s0.trans s1).trans s2).write (o := .dK []) o2.1 hp
  refine k _ G2 _ (.sto cells) s3 ?_ h2
  unfold Rep
  exact ⟨p, rfl, o2.1, _, upd_same, ⟨c, 0, 0, 0, 0, s, rfl, hc, hl, by decide, by omega, by decide, pos2560, fun z => absurd z (by decide)⟩⟩

/-! ### the script -/
theorem cd_lenScr {ns : List Int} (h : P (.int ns.length)) : CallD S Γ (.builtin "len") [.scr ns] P := by
  refine ⟨fun X hX vs G H st r Q k => ?_⟩
  obtain ⟨v, rfl, r1⟩ := repL1 r
  unfold Rep at r1
  obtain ⟨p, rfl, h1⟩ := r1
  refine CallRw call_len_seq ⟨p, ns.map V.int, rfl, .inl (by rw [hX.K]; exact Same.seq st.sub h1), ?_⟩
  rw [List.length_map]
  exact k _ G H _ (.refl st.sub) rep_int h
theorem cf_listScr {ns : List Int} (h : PL (ns.map D.int)) : CallF S Γ (.type "list") [.scr ns] PL := by
  refine ⟨fun X hX vs G H st r Q k => ?_⟩
  obtain ⟨v, rfl, r1⟩ := repL1 r
  unfold Rep at r1
  obtain ⟨p, rfl, h1⟩ := r1
  refine CallRw call_list_of ⟨p, ns.map V.int, rfl, .inl (by rw [hX.K]; exact Same.seq st.sub h1), fun l hl => ?_⟩
  have s2 : Stp Γ.K G H G (upd H l (.lst (ns.map V.int))) := .newM st.sub hl
  exact k l _ G _ _ s2 hl (st.sub.free hl) upd_same .ofInts h
end
end Z
set_option Elab.async false
set_option linter.all false
set_option maxRecDepth 100000
set_option maxHeartbeats 4000000
/-! Z6: built-ins by name; sizes; loops in the walk's form. -/
namespace Z
open PySem L2
variable [tabsI : TabsT]
structure Blt (U : Env1) (bs : List Str) : Prop where
  h : ∀ x, HasG bs x → U.mg x = none
section
variable {S : Scp} {Γ : Cg} {δ : List Sl} {P : D → Prop} {PB : Bool → Prop} {PL : List D → Prop} {N B C : List Sl → Prop} {R : D → Prop} {a b c e o : Expr} {es rest : List Expr} {pos p : Pos} {st : Stmt} {sts : List Stmt}
theorem cb_len : bootBuiltins "len" = some (.builtin "len") := by decide +kernel
theorem cb_isinstance : bootBuiltins "isinstance" = some (.builtin "isinstance") := by decide +kernel
theorem cb_max : bootBuiltins "max" = some (.builtin "max") := by decide +kernel
theorem cb_sum : bootBuiltins "sum" = some (.builtin "sum") := by decide +kernel
theorem cb_int : bootBuiltins "int" = some (.type "int") := by decide +kernel
theorem cb_bool : bootBuiltins "bool" = some (.type "bool") := by decide +kernel
theorem cb_str : bootBuiltins "str" = some (.type "str") := by decide +kernel
theorem cb_tuple : bootBuiltins "tuple" = some (.type "tuple") := by decide +kernel
theorem cb_list : bootBuiltins "list" = some (.type "list") := by decide +kernel
theorem cb_dict : bootBuiltins "dict" = some (.type "dict") := by decide +kernel
theorem zb_len (hg : HasG S.gl "len") (hm : Γ.mg "len" = none) (h : JA S Γ (e :: es) δ fun ds => CallD S Γ (.builtin "len") ds P) (he : ∀ env, starEach (e :: es) env = (false, eval e env) :: starEach es env := by intro _; rfl) (hpl : ∀ env, (backTo pos (starEach es env)).any (·.1) = false := by intro _; rfl) :
    JE S Γ (.Call (.Name "len" p) (e :: es) [] pos) δ P := je_callB hg.mem hm cb_len h (by decide) (by decide) he hpl
theorem zb_max (hg : HasG S.gl "max") (hm : Γ.mg "max" = none) (h : JA S Γ (e :: es) δ fun ds => CallD S Γ (.builtin "max") ds P) (he : ∀ env, starEach (e :: es) env = (false, eval e env) :: starEach es env := by intro _; rfl) (hpl : ∀ env, (backTo pos (starEach es env)).any (·.1) = false := by intro _; rfl) :
    JE S Γ (.Call (.Name "max" p) (e :: es) [] pos) δ P := je_callB hg.mem hm cb_max h (by decide) (by decide) he hpl
theorem zb_isi (hg : HasG S.gl "isinstance") (hm : Γ.mg "isinstance" = none) (h : JA S Γ (e :: es) δ fun ds => CallD S Γ (.builtin "isinstance") ds P) (he : ∀ env, starEach (e :: es) env = (false, eval e env) :: starEach es env := by intro _; rfl) (hpl : ∀ env, (backTo pos (starEach es env)).any (·.1) = false := by intro _; rfl) :
    JE S Γ (.Call (.Name "isinstance" p) (e :: es) [] pos) δ P := je_callB hg.mem hm cb_isinstance h (by decide) (by decide) he hpl
theorem zb_int (hg : HasG S.gl "int") (hm : Γ.mg "int" = none) (h : JA S Γ (e :: es) δ fun ds => CallD S Γ (.type "int") ds P) (he : ∀ env, starEach (e :: es) env = (false, eval e env) :: starEach es env := by intro _; rfl) (hpl : ∀ env, (backTo pos (starEach es env)).any (·.1) = false := by intro _; rfl) :
    JE S Γ (.Call (.Name "int" p) (e :: es) [] pos) δ P := je_callTy hg.mem hm cb_int h (by decide) (by decide) he hpl
theorem zf_list (hg : HasG S.gl "list") (hm : Γ.mg "list" = none) (h : JA S Γ (e :: es) δ fun ds => CallF S Γ (.type "list") ds PL) (he : ∀ env, starEach (e :: es) env = (false, eval e env) :: starEach es env := by intro _; rfl) (hpl : ∀ env, (backTo pos (starEach es env)).any (·.1) = false := by intro _; rfl) :
    JF S Γ (.Call (.Name "list" p) (e :: es) [] pos) δ PL := jf_callTy hg.mem hm cb_list h (by decide) (by decide) he hpl
theorem zb_list (hg : HasG S.gl "list") (hm : Γ.mg "list" = none) (h : JA S Γ (e :: es) δ fun ds => CallF S Γ (.type "list") ds fun ds => P (.lst ds)) (he : ∀ env, starEach (e :: es) env = (false, eval e env) :: starEach es env := by intro _; rfl) (hpl : ∀ env, (backTo pos (starEach es env)).any (·.1) = false := by intro _; rfl) :
    JE S Γ (.Call (.Name "list" p) (e :: es) [] pos) δ P := jf_je (zf_list hg hm h he hpl)
theorem zt_int (hg : HasG S.gl "int") (hm : Γ.mg "int" = none) (h : P (.ty "int")) : JE S Γ (.Name "int" pos) δ P := je_globT hg.mem hm cb_int h (by decide) (by decide)
theorem zt_bool (hg : HasG S.gl "bool") (hm : Γ.mg "bool" = none) (h : P (.ty "bool")) : JE S Γ (.Name "bool" pos) δ P := je_globT hg.mem hm cb_bool h (by decide) (by decide)
theorem zt_str (hg : HasG S.gl "str") (hm : Γ.mg "str" = none) (h : P (.ty "str")) : JE S Γ (.Name "str" pos) δ P := je_globT hg.mem hm cb_str h (by decide) (by decide)
theorem zt_tuple (hg : HasG S.gl "tuple") (hm : Γ.mg "tuple" = none) (h : P (.ty "tuple")) : JE S Γ (.Name "tuple" pos) δ P := je_globT hg.mem hm cb_tuple h (by decide) (by decide)
theorem zt_list (hg : HasG S.gl "list") (hm : Γ.mg "list" = none) (h : P (.ty "list")) : JE S Γ (.Name "list" pos) δ P := je_globT hg.mem hm cb_list h (by decide) (by decide)
theorem zt_dict (hg : HasG S.gl "dict") (hm : Γ.mg "dict" = none) (h : P (.ty "dict")) : JE S Γ (.Name "dict" pos) δ P := je_globT hg.mem hm cb_dict h (by decide) (by decide)
def isBool : D → Bool | .bl _ => true | _ => false
def isInt : D → Bool | .bl _ => true | .int _ => true | _ => false
def isStr : D → Bool | .str _ => true | _ => false
def isTup : D → Bool | .tup _ => true | _ => false
def isLst : D → Bool | .lst _ => true | _ => false
def isDict : D → Bool | .sto _ => true | _ => false
theorem ci_bool {d : D} (hp : plainD d = true) (h : P (.bl (isBool d))) : CallD S Γ (.builtin "isinstance") [d, .ty "bool"] P := by
  refine cd_isi hp (by simp) ?_
  have e : isTy d "bool" = isBool d := by cases d <;> first | rfl | cases hp | decide +kernel
  rw [e]; exact h
theorem ci_int {d : D} (hp : plainD d = true) (h : P (.bl (isInt d))) : CallD S Γ (.builtin "isinstance") [d, .ty "int"] P := by
  refine cd_isi hp (by simp) ?_
  have e : isTy d "int" = isInt d := by cases d <;> first | rfl | cases hp | decide +kernel
  rw [e]; exact h
theorem ci_str {d : D} (hp : plainD d = true) (h : P (.bl (isStr d))) : CallD S Γ (.builtin "isinstance") [d, .ty "str"] P := by
  refine cd_isi hp (by simp) ?_
  have e : isTy d "str" = isStr d := by cases d <;> first | rfl | cases hp | decide +kernel
  rw [e]; exact h
theorem ci_tup {d : D} (hp : plainD d = true) (h : P (.bl (isTup d))) : CallD S Γ (.builtin "isinstance") [d, .ty "tuple"] P := by
  refine cd_isi hp (by simp) ?_
  have e : isTy d "tuple" = isTup d := by cases d <;> first | rfl | cases hp | decide +kernel
  rw [e]; exact h
theorem ci_lst {d : D} (hp : plainD d = true) (h : P (.bl (isLst d))) : CallD S Γ (.builtin "isinstance") [d, .ty "list"] P := by
  refine cd_isi hp (by simp) ?_
  have e : isTy d "list" = isLst d := by cases d <;> first | rfl | cases hp | decide +kernel
  rw [e]; exact h
theorem ci_dict {d : D} (hp : plainD d = true) (h : P (.bl (isDict d))) : CallD S Γ (.builtin "isinstance") [d, .ty "dict"] P := by
  refine cd_isi hp (by simp) ?_
  have e : isTy d "dict" = isDict d := by cases d <;> first | rfl | cases hp | decide +kernel
  rw [e]; exact h

/-! ### loops in the walk's form -/
theorem zs_for [Calm Γ] {tg : Expr} {body : List Stmt} (hb : Γ.blk = false) (h : JI S Γ tg e δ fun n f => ∃ I : Nat → List Sl → Prop, I 0 δ ∧ (∀ i, i < n → Turns S Γ tg body ⟨N, R, B, C⟩ I i (f i)) ∧ ∀ δ', I n δ' → N δ')
    (hs : ∀ env x, foldedSetIterable e env x = pure x := by intros; rfl) : JS S Γ (.For tg e body [] pos) δ ⟨N, R, B, C⟩ := js_for hb h hs
/-- one turn -/
theorem turns_of {tg : Expr} {body : List Stmt} {I : Nat → List Sl → Prop} {i : Nat} {x : D} (h : ∀ δ', I i δ' → JG S Γ tg x δ' fun δ2 => JSs S Γ body δ2 ⟨I (i + 1), R, N, I (i + 1)⟩) : Turns S Γ tg body ⟨N, R, B, C⟩ I i x := h
theorem zi_rng1 {tg : Expr} {PI' : Nat → (Nat → D) → Prop} {p1 p2 : Pos} (hg : HasG S.gl "range") (hm : Γ.mg "range" = none) (hs : ∀ env, starEach [a] env = [(false, eval a env)])
    (h : JE S Γ a δ fun d => ∃ n, d = .int n ∧ -(2 ^ 62) ≤ n ∧ n < 2 ^ 62 ∧ PI' n.toNat (fun i => .int (0 + i))) : JI S Γ tg (.Call (.Name "range" p1) [a] [] p2) δ PI' := ji_rng1 hg.mem hm hs h
theorem zi_rng2 [Calm Γ] {tg : Expr} {PI' : Nat → (Nat → D) → Prop} {p1 p2 : Pos} (hg : HasG S.gl "range") (hm : Γ.mg "range" = none) (hs : ∀ env, starEach [a, b] env = [(false, eval a env), (false, eval b env)]) (hs2 : ∀ env, starEach [b] env = [(false, eval b env)])
    (h : JE S Γ a δ fun d => JE S Γ b δ fun d' => ∃ m n, d = .int m ∧ d' = .int n ∧ (-(2 ^ 62) ≤ m ∧ m < 2 ^ 62 ∧ -(2 ^ 62) ≤ n ∧ n < 2 ^ 62) ∧ PI' (n - m).toNat (fun i => .int (m + i))) : JI S Γ tg (.Call (.Name "range" p1) [a, b] [] p2) δ PI' := ji_rng2 hg.mem hm hs hs2 h
/-- a list that is read while it is one's own: the value of e has no list in it -/
def noL : D → Bool
  | .lst _ => false | .obj _ _ _ => false | .tup _ => false | .scr _ => true | _ => true
/-! ### sizes of ints -/
def Bd (n : Nat) (i : Int) : Prop := i.natAbs < 2 ^ n
theorem Bd.mono {n m : Nat} {i : Int} (h : Bd n i) (e : n ≤ m) : Bd m i := Nat.lt_of_lt_of_le h (Nat.pow_le_pow_right (by decide) e)
theorem Bd.ok {n m : Nat} {i j : Int} (h : Bd n i) (h' : Bd m j) (e : n + m ≤ 1000000) : IntMulOk i j := by
  have h1 := h.mono (Nat.le_succ n)
  have h2 := h'.mono (Nat.le_succ m)
  by_cases z : n + 1 + (m + 1) ≤ 1000000
  · exact (wide_mul h1 h2 (by omega) (by omega) z).ok
  · have x : ∀ {k : Nat} {i : Int}, Bd k i → 0 < k → i.natAbs.log2 < k := fun hh h0 => PySem.Flt.log2_lt_of h0 hh
    by_cases n0 : n = 0
    · subst n0
      have : i = 0 := by unfold Bd at h; simp at h; exact h
      subst this
      exact CMul.ok (.inl (by decide))
    · by_cases m0 : m = 0
      · subst m0
        have : j = 0 := by unfold Bd at h'; simp at h'; exact h'
        subst this
        exact CMul.ok (.inr (by decide))
      · exact (wide_mul h h' (by omega) (by omega) e).ok
theorem mulok_l {i j : Int} (h : -(2 ^ 64) < i ∧ i < 2 ^ 64) : IntMulOk i j := CMul.ok (.inl h)
theorem mulok_r {i j : Int} (h : -(2 ^ 64) < j ∧ j < 2 ^ 64) : IntMulOk i j := CMul.ok (.inr h)
/-- no division by Python's own slow road -/
theorem nopy_i {i j : Int} {n : Nat} (h : Bd n i) (e : n ≤ 13500) : Builtin.divisionGoesByPylong i j = false := by
  have h1 : i.natAbs.log2 < 13500 := PySem.Flt.log2_lt_of (by decide) (h.mono e)
  by_cases hj : (if j == 0 then 0 else j.natAbs.log2 / 30 + 1) ≤ 300
  · show (decide ((if j == 0 then 0 else j.natAbs.log2 / 30 + 1) > 300) && _) = false
    rw [decide_eq_false (Nat.not_lt.mpr hj)]
    rfl
  · show (decide ((if j == 0 then 0 else j.natAbs.log2 / 30 + 1) > 300) && decide ((if i == 0 then 0 else i.natAbs.log2 / 30 + 1) > (if j == 0 then 0 else j.natAbs.log2 / 30 + 1) + 150)) = false
    rw [Bool.and_eq_false_iff]
    right
    apply decide_eq_false
    have : (if i == 0 then 0 else i.natAbs.log2 / 30 + 1) ≤ 450 := by
      split <;> omega
    omega
theorem od_p10_18 (h : P (.int 1000000000000000000)) : OpD S Γ (binaryOp .Pow) (.int 10) (.int 18) P := od_pow (by unfold CPow; decide) (by rw [show ((10 : Int) ^ (18 : Int).toNat) = 1000000000000000000 by decide +kernel]; exact h)
theorem od_p10_40 (h : P (.int 10000000000000000000000000000000000000000)) : OpD S Γ (binaryOp .Pow) (.int 10) (.int 40) P := od_pow (by unfold CPow; decide) (by rw [show ((10 : Int) ^ (40 : Int).toNat) = 10000000000000000000000000000000000000000 by decide +kernel]; exact h)
theorem od_p10_64 (h : P (.int 10000000000000000000000000000000000000000000000000000000000000000)) : OpD S Γ (binaryOp .Pow) (.int 10) (.int 64) P := od_pow (by unfold CPow; decide) (by rw [show ((10 : Int) ^ (64 : Int).toNat) = 10000000000000000000000000000000000000000000000000000000000000000 by decide +kernel]; exact h)
end
theorem bd_lt {n : Nat} {i : Int} (h0 : 0 ≤ i) (h : i < 2 ^ n) : Bd n i := by
  unfold Bd
  have e : ((i.natAbs : Nat) : Int) < ((2 ^ n : Nat) : Int) := by
    rw [Int.natAbs_of_nonneg h0, Int.natCast_pow]
    exact h
  exact Int.ofNat_lt.mp e
theorem lt_bd {n : Nat} {i : Int} (h : Bd n i) : i < 2 ^ n := by
  unfold Bd at h
  have e : ((i.natAbs : Nat) : Int) < ((2 ^ n : Nat) : Int) := Int.ofNat_lt.mpr h
  rw [Int.natCast_pow] at e
  exact Int.lt_of_le_of_lt Int.le_natAbs e
theorem sg_restB {cells : List Int} {P : D → Prop} (h : ∀ r : Int, 0 ≤ r → Bd 2560 r → P (.int r)) : StoGet cells "rest" P := sg_rest fun r h1 h2 => h r h1 (bd_lt h1 h2)
theorem spp_restB {cells : List Int} {y : Int} (h1 : 0 ≤ y) (h2 : Bd 2560 y) : StoPut cells "rest" (.int y) := spp_rest h1 (lt_bd h2)
theorem Bd.le {n : Nat} {i j : Int} (h : Bd n j) (e : i.natAbs ≤ j.natAbs) : Bd n i := Nat.lt_of_le_of_lt e h
theorem zs_cut {S : Scp} {Γ : Cg} {st st2 : Stmt} {sts : List Stmt} {δ : List Sl} {N : List Sl → Prop} {R : D → Prop} {B C : List Sl → Prop} (h : ∀ Q : List Sl → Prop, (∀ δ', JSs S Γ (st2 :: sts) δ' ⟨N, R, B, C⟩ → Q δ') → JS S Γ st δ ⟨Q, R, B, C⟩) : JSs S Γ (st :: st2 :: sts) δ ⟨N, R, B, C⟩ := jss_cons (h _ fun _ h => h)
end Z
set_option Elab.async false
set_option linter.all false
set_option maxRecDepth 100000
set_option maxHeartbeats 4000000
/-! Z7: a list of one's own passed for a while (je_own). -/
namespace Z
open PySem L2
variable [tabsI : TabsT]
def ers (G : Hp) (p : Addr) : Hp := fun b => if b = p then none else G b
theorem ers_ne {G : Hp} {p b : Addr} (h : b ≠ p) : ers G p b = G b := if_neg h
theorem ers_same {G : Hp} {p : Addr} : ers G p p = none := if_pos rfl
section
variable {K : PySem.W.Frag} {G H G' H' : Hp} {p : Addr} {vs : List V}
theorem Stp.thaw (h : H p = some (.lst vs)) (g : G p = none) (s : Stp K (upd G p (.lst vs)) H G' H') : Stp K G H (ers G' p) H' := by
  have hp' : G' p = some (.lst vs) := s.exG _ _ upd_same
  have tk : TOk G H → TOk (ers G' p) H' := fun t => by
    have t1 : TOk (upd G p (.lst vs)) H := ⟨t.tb, fun x hx => by rw [upd_ne (t.ne hx fun ps w => by rw [h] at w; cases w)]; exact t.gn x hx, fun a us q => by
      have z : a ≠ p := fun z => by subst z; rw [h] at q; cases q
      rw [upd_ne z]
      exact t.tg a us q⟩
    refine ⟨(s.tab t1).tb, fun x hx => ?_, fun a us q => ?_⟩
    · unfold ers
      split
      · rfl
      · exact (s.tab t1).gn x hx
    · have q2 := (s.tab t1).tg a us q
      have z : a ≠ p := fun z => by subst z; rw [hp'] at q2; cases q2
      rw [ers_ne z]
      exact q2
  refine ⟨fun b u q => ?_, fun b u q => ?_, fun a o hH gG => ?_, tk⟩
  · have z : b ≠ p := ne_of_none q g
    rw [ers_ne z]
    exact s.exG _ _ (by rw [upd_ne z]; exact q)
  · by_cases z : b = p
    · subst z; rw [ers_same] at q; cases q
    · rw [ers_ne z] at q; exact s.sub _ _ q
  · by_cases z : a = p
    · subst z
      rw [h] at hH
      cases hH
      exact ⟨ers_same, .inl (s.sub _ _ hp')⟩
    · obtain ⟨n', q⟩ := s.own a o hH (by rw [upd_ne z]; exact gG)
      refine ⟨by rw [ers_ne z]; exact n', ?_⟩
      rcases q with q | ⟨q1, o', q2, q3, q4⟩
      · exact .inl q
      · refine .inr ⟨q1, o', q2, q3, fun cells w => ?_⟩
        have e1 : Same G (upd G p (.lst vs)) := fun b u q => by rw [upd_ne (ne_of_none q g)]; exact q
        obtain ⟨kvs', w1, w2⟩ := q4 cells (w.at_ e1 hH hH)
        obtain ⟨kvs, v1, v2⟩ := w
        rw [hH] at v1
        cases v1
        rw [q2] at w1
        cases w1
        obtain ⟨c, a1, r1, l1, t1, s1, e, u1, u2⟩ := v2.ex
        obtain ⟨c', a2, r2, l2, t2, s2, e', u1', u2'⟩ := w2.ex
        have ec : c' = c := by
          have := q3.2
          rw [e, e'] at this
          simp [stoC, stoKvs] at this
          exact this
        subst ec
        refine ⟨_, q2, ⟨c', a2, r2, l2, t2, s2, e', ?_, u2'⟩⟩
        rw [ers_ne (ne_of_none u1 g)]
        exact u1'
end
mutual
def flatD : D → Prop
  | .tup ds => flatL ds
  | .obj _ _ ds => flatL ds
  | .lst _ => False
  | .sto _ => False
  | .scr _ => False
  | .exc _ _ _ _ => False
  | .dic _ _ => False
  | _ => True
def flatL : List D → Prop
  | [] => True
  | d :: ds => flatD d ∧ flatL ds
end
section
variable {K : PySem.W.Frag} {G H : Hp} {p : Addr} {vs : List V}
mutual
theorem Rep.ers (g : G p = some (.lst vs)) : ∀ {d : D} {v : V}, flatD d → Rep K G H d v → Rep K (ers G p) H d v
  | .non, v, _, h => by unfold Rep at h ⊢; exact h
  | .bl b, v, _, h => by unfold Rep at h ⊢; exact h
  | .int i, v, _, h => by unfold Rep at h ⊢; exact h
  | .str x, v, _, h => by unfold Rep at h ⊢; exact h
  | .tup ds, v, f, h => by
    unfold Rep at h ⊢
    unfold flatD at f
    obtain ⟨a, vs, e, h1, h2⟩ := h
    refine ⟨a, vs, e, ?_, RepL.ers g f h2⟩
    rw [ers_ne (fun z => by subst z; rw [g] at h1; cases h1)]
    exact h1
  | .lst ds, v, f, h => by unfold flatD at f; exact f.elim
  | .obj C ns ds, v, f, h => by
    unfold Rep at h ⊢
    unfold flatD at f
    obtain ⟨a, dx, fs, e, h1, h2, h3⟩ := h
    refine ⟨a, dx, fs, e, ?_, h2, RepL.ers g f h3⟩
    rw [ers_ne (fun z => by subst z; rw [g] at h1; cases h1)]
    exact h1
  | .cls a, v, _, h => by unfold Rep at h ⊢; exact h
  | .ty n, v, _, h => by unfold Rep at h ⊢; exact h
  | .sto cells, v, f, h => by unfold flatD at f; exact f.elim
  | .scr ns, v, f, h => by unfold flatD at f; exact f.elim
  | .exc a d ns ds, v, f, h => by unfold flatD at f; exact f.elim
  | .dic ks ds, v, f, h => by unfold flatD at f; exact f.elim
theorem RepL.ers (g : G p = some (.lst vs)) : ∀ {ds : List D} {vs : List V}, flatL ds → RepL K G H ds vs → RepL K (ers G p) H ds vs
  | [], vs, _, h => by unfold RepL at h ⊢; exact h
  | d :: ds, vs, f, h => by
    unfold RepL at h ⊢
    unfold flatL at f
    obtain ⟨v, r, e, h1, h2⟩ := h
    exact ⟨v, r, e, Rep.ers g f.1 h1, RepL.ers g f.2 h2⟩
end
end
theorem je_own {S : Scp} {Γ : Cg} {δ : List Sl} {P : D → Prop} {e : Expr} (i : Nat) {ds : List D} (hδ : δ[i]? = some (.ow ds)) (h : JE S Γ e (δ.set i (.fz (.lst ds))) fun d => flatD d ∧ P d) : JE S Γ e δ P := by
  refine ⟨fun X hX σ G H st ev Q k => ?_⟩
  obtain ⟨p, vs, h1, g, h0, ev'⟩ := ev.freeze hδ
  exact h.run X hX σ _ H (st.freeze h0 h1 g) ev' Q fun v G' H' d s r q => k v (ers G' p) H' d (Stp.thaw h1 g s) (Rep.ers (s.exG _ _ upd_same) q.1 r) q.2
instance {sc : Scope} {x : Str} : Decidable (Vis sc x) := inferInstanceAs (Decidable (_ ∨ _ ∨ _))
instance {sc : Scope} {x : Str} : Decidable (Loc sc x) := inferInstanceAs (Decidable (_ ∨ _))
def okS (S : Scp) : Bool := decide S.N.Nodup && decide (∀ p ∈ S.vs, S.N[p.2]? = some p.1 ∧ Vis S.sc p.1) && decide (∀ p ∈ S.ss, S.N[p.2]? = some p.1 ∧ Loc S.sc p.1) && decide (∀ x ∈ S.gl, S.sc.names.lookup x = some .globalImplicit)
theorem ok_S {S : Scp} (h : okS S = true) : S.Ok := by
  unfold okS at h
  simp only [Bool.and_eq_true, decide_eq_true_eq] at h
  exact ⟨h.1.1.1, h.1.1.2, h.1.2, h.2⟩
def okF (N P : List Str) (sc : Scope) : Bool := sc.kind == .function && sc.isCoroutine == false && sc.isGenerator == false && decide N.Nodup && decide (N.take P.length = P) && decide (∀ x ∈ P, sc.names.lookup x = some .local ∨ sc.names.lookup x = some .cell) && decide (∀ y ∈ sc.names, y.2 ≠ .free)
theorem ok_F {N P : List Str} {sc : Scope} (h : okF N P sc = true) : FnScope N P sc := by
  unfold okF at h
  simp only [Bool.and_eq_true, decide_eq_true_eq, beq_iff_eq] at h
  obtain ⟨⟨⟨⟨⟨⟨a, b⟩, c⟩, d⟩, e⟩, f⟩, g⟩ := h
  exact ⟨a, b, c, d, e, f, g⟩
def okB (N : List Str) (sc scope : Scope) (own : List (Str × Nat)) : Bool := scope.kind == .function && decide (∀ y ∈ scope.names, scope.names.lookup y.1 = some y.2) && decide (∀ p ∈ own, N[p.2]? = some p.1) && decide (∀ y ∈ scope.names, y.2 = .free → sc.names.lookup y.1 = some .cell ∨ sc.names.lookup y.1 = some .free) && decide (∀ y ∈ scope.names, y.2 = .local ∨ y.2 = .cell → y.1 ∈ own.map (·.1) ∨ y.1 ∉ N)
theorem ok_B {S S' : Scp} {scope : Scope} {own : List (Str × Nat)} (h : okB S.N S.sc scope own = true) (h1 : okS S' = true) (N : S'.N = S.N) (sc : S'.sc = relS scope S.sc) (lv : S'.lv = S.lv) (st : decide (∀ x ∈ S'.ss, S'.sc.names.lookup x.1 = some .local ∨ scope.names.lookup x.1 = some .cell) = true) : BlkS S S' scope own := by
  unfold okB at h
  simp only [Bool.and_eq_true, decide_eq_true_eq, beq_iff_eq] at h st
  obtain ⟨⟨⟨⟨a, b⟩, c⟩, d⟩, e⟩ := h
  exact ⟨⟨a, b, c, d, e⟩, ok_S h1, N, sc, lv, st⟩
theorem ze_own {S : Scp} {Γ : Cg} {δ : List Sl} {P : D → Prop} {f : Expr} {x : Str} {p q : Pos} {as : List Expr} {ks : List Keyword} {i : Nat} {ds : List D} (hv : Has S.vs x i) (hδ : δ[i]? = some (.ow ds)) (h : JE S Γ (.Call f (.Name x p :: as) ks q) (δ.set i (.fz (.lst ds))) fun d => flatD d ∧ P d) : JE S Γ (.Call f (.Name x p :: as) ks q) δ P := je_own i hδ h
theorem zs_setFL {S : Scp} {Γ : Cg} {δ : List Sl} {N B C : List Sl → Prop} {R : D → Prop} {x : Str} {i : Nat} {p : Pos} {e : Expr} {pos : Pos} (hv : Has S.ss x i) (h : JF S Γ e δ fun ds => N (δ.set i (.ow ds))) (hs : ∀ env, swapsWith e (some (.Name x p)) pos.line env = pure false := by intro _; rfl) : JS S Γ (.Assign [.Name x p] e pos) δ ⟨N, R, B, C⟩ := zs_setF hv h hs
end Z
set_option Elab.async false
set_option linter.all false
set_option maxRecDepth 100000
set_option maxHeartbeats 4000000
/-! Z8: the ends: what the top's facts give, the law's own call. -/
namespace Z
open PySem L2
variable [tabsI : TabsT]
theorem funAt {U : Env1} {h : Heap} {x : Str} {st : Stmt} {f : Addr} {oc kV dc pm cd ct : Value} {od an : Option Addr} {sl : Array (Option Value)} (X : U.K.In h) (G : h.Ns mainGlobals U.mg) (a : PySem.W.nsIn U.K mainGlobals x = some (some (.ref f)))
    (l : U.K.lookup f = some ⟨oc, od, .func (PySem.W.fnOf x x (defArgs st) (defBody st) (defScope st) .none kV dc pm an cd ct), sl⟩) (c : PySem.W.codeIn U.K cd x = true) (k : PySem.W.keepIn U.K (.ref f) = true) : FunAt U x st [] :=
  ⟨f, _, ⟨⟨oc, od, .none, kV, dc, pm, an, cd, ct, sl, rfl, l, c, .inl ⟨rfl, rfl⟩, .inl rfl⟩, k⟩, PySem.W.mg_of X G a⟩
theorem blt_nil {U : Env1} : Blt U [] := ⟨fun x h => by cases h⟩
theorem blt_cons {U : Env1} {x : Str} {bs : List Str} (h : U.mg x = none) (t : Blt U bs) : Blt U (x :: bs) := ⟨fun y hy => by
  cases hy with
  | head => exact h
  | tail q => exact t.h y q⟩
theorem fn_okC {U : Env1} {x : Str} {st : Stmt} {S : Scp} {ps : List Str} {c : Ct} {n : Nat} {dvs : List V} {f : Addr} {fd : FuncData} (Fu : FunD U.K x x (defArgs st) (defBody st) (defScope st) dvs [] f fd) (so : S.Ok) (sc : S.sc = defScope st) (fs : FnScope S.N ps (defScope st)) (hn : ps.length = n) (hN : n ≤ S.N.length)
    (len : ∀ ds P E, c ds P E → ds.length = n)
    (body : ∀ (G H : Hp) ds P E, c ds P E → JSs S (U.cg G H fun _ => E) (defBody st) (startD S.N ds) { nx := fun _ => P .non, rt := P }) : FnOk U.P U.w U.K U.mg U.base (L2N.CX U.P U.w) (S.lv + 1) f fd ps (spC U.K c) := by
  refine Fu.ok fs (fun vs H Q E h => ?_) (fun cdv A outer s H vs Q E hr h => ?_)
  · obtain ⟨G, ds, _, _, r, h⟩ := h
    rw [r.length, len _ _ _ h, hn]
  · obtain ⟨G, ds, e, tb, r, h⟩ := h
    have hl := len _ _ _ h
    refine ⟨_, wSs_pss, ?_⟩
    refine (body G H ds _ _ h).run _ ⟨so, rfl, rfl, rfl, rfl, rfl, rfl, sc.symm, fun _ => rfl, fun _ => hr, L2H.roomH_of hr, (fun _ z => by cases z), fun _ _ => .inl rfl, fun _ => ⟨rfl, rfl, rfl, passes_of rfl⟩, ?_, tb, (fun _ _ _ z => by cases z)⟩ _ G H _ (.refl e) (EnvOk.start r _ (by omega)) ⟨?_, ?_, ?_, ?_, fun _ _ _ _ _ _ _ _ _ q => q.elim⟩
    · refine L2N.Takes.imp (L2N.takes_of rfl rfl rfl rfl) ?_
      rintro cls d σ' H' ⟨G', δ', ns, es, s', ev', x', q⟩
      exact q d G' H' s' x'
    · exact fun σ' G' H' δ' s' _ _ q => q .non G' H' s' rep_non
    · exact fun _ _ _ _ _ _ _ q => q.elim
    · exact fun _ _ _ _ _ _ _ q => q.elim
    · exact fun v G' H' d s' r' q => q v G' H' s' r'
/-- the law's contract -/
inductive cLaw : List D → (D → Prop) → (Value → List Str → List D → Prop) → Prop
  | mk {P : D → Prop} {E : Value → List Str → List D → Prop} (ns : List Int) (hl : ns.length ≤ 63) (hbits : ∀ z ∈ ns, Builtin.Int.intBits z ≤ 1048576) (k : P (.bl true)) : cLaw [.scr ns] P E
theorem law_walk {l : PySem.W.OpenLaw} {k : Nat} {q : Program} {loose : List Str} {XP : (Str → Option Value) → Heap → Prop} {YP : World → Heap → Prop} {d : DefRec} {K : Params → PySem.W.Frag} {x : Str}
    (h0 : tabsI.T = []) (hn : l.most = some 63) (hdf : d.params.defaults = []) (hr : Room k callerA) (hY : ∀ (w : World) (h : Heap), YP w h → (K w.params).In h)
    (F : ∀ (w : World) (mg : Str → Option Value) (fa : Addr) (h : Heap), (K w.params).In h → h.Ns mainGlobals mg → mg d.name = some (.ref fa) →
      ∃ fd : FuncData, (∀ (s : Shared) (u : Value), BindsTo s fd ⟨[u], []⟩ [(x, u)]) ∧
        ∀ base : Heap, (K w.params).In base → base.Ns mainGlobals mg → FnOk l.prog w (K w.params) mg base (L2N.CX l.prog w) k fa fd [x] (spC (K w.params) cLaw)) :
    PySem.W.WalkO q loose XP YP l.row.toRowW d [] (fun f vs => PySem.call f vs) :=
  L2.walk_ofB (n := 63) (k := k) (x := x) (CX := fun w => L2N.CX l.prog w) (sp := fun w => spC (K w.params) cLaw) hn (by decide) hdf hr hY F
    (fun w H a ns hl hb _ hS => ⟨H, [.scr ns], Same.refl H, ⟨(fun q hq => by rw [h0] at hq; cases hq), (fun q hq => by rw [h0] at hq; cases hq), fun _ _ q => q⟩, .cons (by unfold Rep; exact ⟨a, rfl, hS⟩) .nil, .mk ns hl hb fun v G' H' s r => by unfold Rep at r; exact r⟩)
    (fun w H s e s' h => by
      obtain ⟨_, _, _, _, _, _, _, _, _, _, _, _, z⟩ := h
      exact z)
end Z
set_option Elab.async false
set_option linter.all false
set_option maxRecDepth 100000
set_option maxHeartbeats 4000000
/-! Z9: lists and tuples: in, min, max, sum, sorted, slices, items stored, pop, deep ==, list(range(..)), tuple(..), all, any, *. -/
namespace Z
open PySem L2
variable [tabsI : TabsT]
section
variable {S : Scp} {Γ : Cg} {δ : List Sl} {P : D → Prop} {PB : Bool → Prop} {PL : List D → Prop} {K : Kp} {N B C : List Sl → Prop} {R : D → Prop} {a b c e o : Expr} {es rest : List Expr} {pos : Pos}
/-! in -/
theorem inV_int {i : Int} : ∀ {is : List Int}, L2.inV (.int i) (is.map V.int) = decide (i ∈ is)
  | [] => by simp [L2.inV]
  | j :: is => by
    have ih := inV_int (i := i) (is := is)
    unfold L2.inV at ih ⊢
    rw [List.map_cons, List.any_cons, ih]
    show (decide _ || _) = _
    by_cases h : i = j
    · subst h; simp
    · simp [h, Ne.symm h]
theorem flat_ints {is : List Int} : (is.map V.int).all L2.flatV = true := by
  rw [List.all_eq_true]
  intro x hx
  obtain ⟨i, _, rfl⟩ := List.mem_map.mp hx
  rfl
theorem od_ninL {i : Int} {is : List Int} (h : P (.bl (!decide (i ∈ is)))) : OpD S Γ (compareOp .NotIn) (.int i) (.lst (is.map D.int)) P := by
  refine ⟨fun X hX v u G H st r1 r2 Q k => ?_⟩
  unfold Rep at r1 r2
  subst r1
  obtain ⟨p, vs, rfl, h1, h2⟩ := r2
  obtain rfl := h2.ints
  refine OpRw op_notIn_seq ⟨p, _, rfl, .inl (.inl (.inl (st.sub _ _ h1))), rfl, flat_ints, ?_⟩
  rw [if_pos rfl, inV_int]
  exact k _ G H _ (.refl st.sub) rep_bl h
theorem od_ninT {i : Int} {is : List Int} (h : P (.bl (!decide (i ∈ is)))) : OpD S Γ (compareOp .NotIn) (.int i) (.tup (is.map D.int)) P := by
  refine ⟨fun X hX v u G H st r1 r2 Q k => ?_⟩
  unfold Rep at r1 r2
  subst r1
  obtain ⟨p, vs, rfl, h1, h2⟩ := r2
  obtain rfl := h2.ints
  refine OpRw op_notIn_seq ⟨p, _, rfl, .inr (by rw [hX.K]; exact Same.tup st.sub h1), rfl, flat_ints, ?_⟩
  rw [if_pos rfl, inV_int]
  exact k _ G H _ (.refl st.sub) rep_bl h
theorem cd_sumL [Calm Γ] {is : List Int} (h : P (.int is.sum)) : CallD S Γ (.builtin "sum") [.lst (is.map D.int)] P := by
  refine ⟨fun X hX vs G H st r Q k => ?_⟩
  obtain ⟨v, rfl, r1⟩ := repL1 r
  unfold Rep at r1
  obtain ⟨p, ys, rfl, h1, h2⟩ := r1
  obtain rfl := h2.ints
  exact CallRw (cr_sum (hX.calm Calm.hx)) ⟨p, is, rfl, .inl (.inl (st.sub _ _ h1)), k _ G H _ (.refl st.sub) rep_int h⟩
end
end Z
set_option Elab.async false
set_option linter.all false
set_option maxRecDepth 100000
set_option maxHeartbeats 4000000
/-! Z10: instances of own classes: read, made (the object that __init__ fills is a slot of its own), methods, properties. Nothing is raised here. -/
namespace Z
open PySem L2
variable [tabsI : TabsT]
theorem passN {X : Cx} : Passes (L2N.CX X.prog X.w) X E0 := fun _ _ _ _ _ _ _ h => by
  obtain ⟨_, _, _, _, _, _, _, _, _, _, _, _, z⟩ := h
  exact z.elim
/-- what is known of a class of the program -/
structure ClsAt (K : PySem.W.Frag) (mg : Str → Option Value) (x : Str) (C : Addr) : Prop where
  mg : mg x = some (.ref C)
  cl : Cls K C
section
variable {K : PySem.W.Frag} {G H G' H' H0 G0 : Hp} {p : Addr} {C dx : Addr} {fs : List (Str × V)} {o u : HO}
theorem Mo.writeI {u : HO} (hp : H p = some (.ins C dx fs)) : Mo K G H G (upd H p u) := by
  refine ⟨Same.refl G, fun a cells n q => ⟨n, ?_⟩⟩
  obtain ⟨kvs, q1, q2⟩ := q
  have z : a ≠ p := by
    intro z
    subst z
    rw [hp] at q1
    cases q1
  exact ⟨kvs, by rw [upd_ne z]; exact q1, q2⟩
theorem Mo.freezeI (h : H p = some (.ins C dx fs)) (g : G p = none) : Mo K G H (upd G p (.ins C dx fs)) H := by
  have e : Same G (upd G p (.ins C dx fs)) := fun b u q => by rw [upd_ne (ne_of_none q g)]; exact q
  refine ⟨e, fun a cells n q => ?_⟩
  obtain ⟨kvs, h1, h2⟩ := q
  have z : a ≠ p := by
    intro z
    subst z
    rw [h] at h1
    cases h1
  exact ⟨by rw [upd_ne z]; exact n, kvs, h1, h2.mono e⟩
theorem Stp.freezeI (s : Stp K G H G' H') (hp : H p = none) (h : H' p = some o) (g : G' p = none) (nt : ∀ ps, o ≠ .tbl ps := by intro _ z; cases z) : Stp K G H (upd G' p o) H' := by
  have e : Same G' (upd G' p o) := fun b u q => by rw [upd_ne (ne_of_none q g)]; exact q
  refine ⟨s.exG.trans e, fun b u q => ?_, fun b u q n => ?_, fun t => ⟨(s.tab t).tb, fun x hx => by rw [upd_ne ((s.tab t).ne hx fun ps z => by rw [h] at z; exact nt ps (Option.some.inj z))]; exact (s.tab t).gn x hx, fun a us q => by
    by_cases z : a = p
    · subst z; rw [upd_same]; exact h.symm.trans q
    · rw [upd_ne z]; exact (s.tab t).tg a us q⟩⟩
  · by_cases z : b = p
    · subst z; rw [upd_same] at q; cases q; exact h
    · rw [upd_ne z] at q; exact s.sub b u q
  · have z : b ≠ p := ne_of_none q hp
    obtain ⟨n', q'⟩ := s.own b u q n
    refine ⟨by rw [upd_ne z]; exact n', ?_⟩
    rcases q' with q' | ⟨q1, o', q2, q3, q4⟩
    · exact .inl q'
    · exact .inr ⟨q1, o', q2, q3, fun cells w => by
        obtain ⟨kvs, w1, w2⟩ := q4 cells w
        exact ⟨kvs, w1, w2.mono e⟩⟩
theorem lookup_rep : ∀ {ns : List Str} {ds : List D} {fs : List (Str × V)} {f : Str} {d : D}, fs.map (·.1) = ns → RepL K G H ds (fs.map (·.2)) → (ns.zip ds).lookup f = some d → ∃ v, fs.lookup f = some v ∧ Rep K G H d v
  | _, _, [], f, d, hn, r, e => by
    subst hn
    simp at e
  | _, [], (g, x) :: fs, f, d, hn, r, e => by
    subst hn
    simp at e
  | _, d0 :: ds, (g, x) :: fs, f, d, hn, r, e => by
    subst hn
    rw [List.map_cons] at r
    unfold RepL at r
    obtain ⟨v, rr, e1, r1, r2⟩ := r
    cases e1
    rw [List.map_cons, List.zip_cons_cons] at e
    rw [List.lookup_cons] at e ⊢
    by_cases h : f == g
    · rw [h] at e ⊢
      cases e
      exact ⟨_, rfl, r1⟩
    · have h : (f == g) = false := by simpa using h
      rw [h] at e ⊢
      exact lookup_rep rfl r2 e
theorem putF_new {f : Str} {v : V} : ∀ {fs : List (Str × V)}, f ∉ fs.map (·.1) → putF f v fs = fs ++ [(f, v)]
  | [], _ => rfl
  | (g, x) :: fs, h => by
    rw [List.map_cons, List.mem_cons, not_or] at h
    unfold putF
    rw [if_neg (fun z => h.1 z.symm), putF_new h.2]
    rfl
end
section
variable {S : Scp} {Γ : Cg} {δ : List Sl} {P : D → Prop} {PB : Bool → Prop} {PL : List D → Prop} {N B C' : List Sl → Prop} {R : D → Prop} {a b c e o : Expr} {es rest : List Expr} {pos : Pos}
/-- e.f -/
theorem je_fld {C : Addr} {f : Str} (cl : Cls Γ.K C) (hn : NoAttr Γ.K C f) (h : JE S Γ e δ fun d => ∃ ns ds v, d = .obj C ns ds ∧ (ns.zip ds).lookup f = some v ∧ P v) (hb : ∀ env, attributeBase e f env (eval e env) = eval e env := by intro _; rfl) : JE S Γ (.Attribute e f pos) δ P := by
  refine ⟨fun X hX σ G H st ev Q k => ?_⟩
  refine PEw (pe_fld wE_pe (hb _)) ?_
  refine h.run X hX σ G H st ev _ fun v G1 H1 d s1 r1 h1 => ?_
  obtain ⟨ns, ds, u, rfl, e1, p1⟩ := h1
  unfold Rep at r1
  obtain ⟨a, dx, fs, rfl, g1, g2, g3⟩ := r1
  obtain ⟨w, e2, r2⟩ := lookup_rep g2 g3 e1
  exact ⟨a, C, dx, fs, w, rfl, s1.sub _ _ g1, by rw [hX.K]; exact cl, by rw [hX.K]; exact hn, e2, k w G1 H1 u s1 r2 p1⟩
def isOb : Sl → Bool
  | .ob _ _ _ _ => true
  | _ => false
/-- one object alone is made in a frame -/
def OneOb (δ : List Sl) (i : Nat) : Prop := ∀ j C p ns ds, δ[j]? = some (.ob C p ns ds) → j = i
theorem oneOb {s : Sl} {δ : List Sl} (h : δ.all (fun s => !isOb s) = true) : OneOb (s :: δ) 0 := by
  intro j C p ns ds e
  cases j with
  | zero => rfl
  | succ j =>
    rw [List.getElem?_cons_succ] at e
    have := List.all_eq_true.mp h _ (List.mem_of_getElem? e)
    cases this
theorem EnvOk.writeOb {KK : PySem.W.Frag} {G H H0 : Hp} {σ : St} {δ : List Sl} (h : EnvOk KK G H H0 σ δ) {i : Nat} {C dx dx' : Addr} {ns ns' : List Str} {ds ds' : List D} {p : Addr} {fs fs' : List (Str × V)} (o1 : OneOb δ i) (e : δ[i]? = some (.ob C p ns ds)) (ep : σ[i]? = some (some (.ref p)))
    (hp : H p = some (.ins C dx fs)) (g : G p = none) (h0 : H0 p = none) (hn : fs'.map (·.1) = ns') (r : RepL KK G H ds' (fs'.map (·.2))) : EnvOk KK G (upd H p (.ins C dx' fs')) H0 σ (δ.set i (.ob C p ns' ds')) := by
  have mo : Mo KK G H G (upd H p (.ins C dx' fs')) := .writeI hp
  obtain ⟨F, f, dj⟩ := h.fp
  obtain ⟨_, _, ea, _⟩ := EnvOk.at0 f e
  refine EnvOk.anew (as' := [p]) h.len f dj mo (fun j n a ha => ⟨?_, ((f j).own a ha).1⟩) rfl (fun _ _ => rfl) (fun _ => ⟨dx', fs', rfl, ep, upd_same, g, h0, hn, r.mo mo⟩) (fun j n a ha => ?_)
  · rw [upd_ne]
    intro w
    subst w
    exact dj j i n a ha (by rw [ea]; exact .head _)
  · rw [List.mem_singleton.mp ha]
    exact dj i j (fun w => n w.symm) p (by rw [ea]; exact .head _)
/-- x.f = e, a new field of the object that is made -/
theorem zs_fld {C p : Addr} {f x : Str} {i : Nat} {ns : List Str} {ds : List D} {p1 p2 p3 : Pos} (hv : Has S.vs x i) (hδ : δ[i]? = some (.ob C p ns ds)) (o1 : OneOb δ i) (cl : Cls Γ.K C) (hn : NoAttr Γ.K C f) (hf : f ∉ ns) (hl : ns.length < 900)
    (h : JE S Γ e δ fun d => N (δ.set i (.ob C p (ns ++ [f]) (ds ++ [d])))) (hd : (x == ("__debug__" : Str)) = false := by decide) (hcd : (x == ("__classdict__" : Str)) = false := by decide)
    (hs : ∀ env, swapsWith e (some (.Attribute (.Name x p1) f p2)) p3.line env = pure false := by intro _; rfl) : JS S Γ (.Assign [.Attribute (.Name x p1) f p2] e p3) δ ⟨N, R, B, C'⟩ := by
  refine ⟨fun X hX σ G H De s ev en => ?_⟩
  obtain ⟨h1, h2⟩ := hX.so.vs _ hv.mem
  refine PSw (ps_fld (pe_var (by rw [hX.N]; exact h1) (by rw [hX.sc]; exact h2) hd hcd) wE_pe (hs _)) ?_
  refine h.run X hX σ G H s ev _ fun v G1 H1 d s1 r1 q => ?_
  have ev1 := ev.mono s1
  obtain ⟨dx, fs, ep, hp, g, h0, en2, r'⟩ := ev1.at_ i _ hδ
  refine ⟨.ref p, ep, p, C, dx, fs, rfl, hp, by rw [hX.K]; exact cl, by rw [hX.K]; exact hn, ?_, ?_⟩
  · have := congrArg List.length en2
    rw [List.length_map] at this
    omega
  · rw [putF_new (by rw [en2]; exact hf)]
    refine en.nx σ G1 _ _ ((s.trans s1).write (o := .ins C dx fs) g h0) (s1.mo.trans (.writeI hp)) (ev1.writeOb o1 hδ ep hp g h0 (by rw [List.map_append, en2]; rfl) ?_) q
    rw [List.map_append]
    exact r'.append (.one r1)
/-! a class called -/
abbrev CtI := List D → (List Str → List D → Prop) → (Value → List Str → List D → Prop) → Prop
def spI (K : PySem.W.Frag) (C : Addr) (c : CtI) : Sp := fun vs H Q E => ∃ G H0 ds x dx us, vs = .ref x :: us ∧ H = upd H0 x (.ins C dx []) ∧ H0 x = none ∧ Same G H0 ∧ TOk G H0 ∧ RepL K G H0 ds us ∧
  c ds (fun ns es => ∀ G' H' dx' fs, Stp K G H0 G' H' → G' x = none → H' x = some (.ins C dx' fs) → fs.map (·.1) = ns → RepL K G' H' es (fs.map (·.2)) → Q .non H') fun cls ns es => ∀ d G' H', Stp K G H0 G' H' → XdOk K G' H' d ns es → E cls d H'
section
variable {X : Cx} {CX : CXT} {k : Nat} {f C : Addr} {fd : FuncData} {ps : List Str} {sp : Sp} {E : St → XK} {x : Str} {p pos : Pos} {e : Expr} {es : List Expr} {t : TA}
def tMakeSD (C : Addr) (sp : Sp) (E : St → XK) (t : TA) : TE := fun σ H Q => t σ H fun vs H1 => ∀ x dx, H1 x = none → H1 dx = none → dx ≠ x → sp (.ref x :: vs) (upd (upd H1 dx (.own x)) x (.ins C dx [])) (fun v H2 => v = .non ∧ Q (.ref x) H2) (E σ)
/-- a class called; what __init__ raises is wished for at the caller's slots -/
theorem run_makeSD {pins : List (Addr × Obj)} {σ : St} {H : Hp} {s : Shared} {Q : VK} {us : List Value} {vs : List V} (M : Mk X.K C f) (F : FnOk X.prog X.w X.K X.mg X.base CX k f fd ps sp) (hr : Room (k + 1) X.A) (hb : Binds X.K fd ps [])
    (hx : PassesAt CX X σ (E σ)) (I : Inv X pins σ H s) (r : Vals vs us)
    (h : ∀ x dx, H x = none → H dx = none → dx ≠ x → sp (.ref x :: vs) (upd (upd H dx (.own x)) x (.ins C dx [])) (fun v H2 => v = .non ∧ Q (.ref x) H2) (E σ)) : wpAny (model X.prog X.w) X.A (call (.ref C) us) (EP X pins σ Q) X.xe s := by
  have hs := I.hok.fresh (Nat.le_succ s.heap.objs.size)
  have hs0 := I.hok.fresh (Nat.le_refl s.heap.objs.size)
  have q0 := h _ _ hs hs0 (Nat.ne_of_lt (Nat.lt_succ_self _))
  have J := Inv.made (C := C) I
  have rr : Vals (V.ref (s.heap.objs.size + 1) :: vs) (Value.ref (s.heap.objs.size + 1) :: us) := .cons rfl r
  have ln := rr.length
  rw [F.len _ _ _ _ q0] at ln
  have hbb := hb _ (Value.ref (s.heap.objs.size + 1) :: us) J.kIn (by rw [List.append_nil]; exact ln.symm)
  rw [List.append_nil] at hbb
  refine wpAny_call (make_map (f := f) I.kIn M.makes M.init (beq_iff_eq.mp M.fn) (codeAny_mono (F.run _ X.stack _ _ ⟨_, []⟩ _ _ _ (E σ) (hr.make C us []) (J.env0.make C us []) hbb rr q0) fun z s' hz => ?_))
  match z, hz with
  | .error e, hz => exact hx pins _ _ e s' J hz
  | .ok (.ret u), hz =>
    obtain ⟨v, H', J3, rv, ev, q3⟩ := J.after hz
    cases ev
    exact ⟨rv, ⟨V.ref (s.heap.objs.size + 1), H', J3, rfl, q3⟩⟩
  | .ok .next, hz => exact hz.elim
  | .ok .brk, hz => exact hz.elim
  | .ok .cont, hz => exact hz.elim
theorem pe_makeSD (M : Mk X.K C f) (F : FnOk X.prog X.w X.K X.mg X.base CX k f fd ps sp) (hr : Room (k + 1) X.A) (hg : Gl X x) (hm : X.mg x = some (.ref C)) (hb : Binds X.K fd ps []) (hx : ∀ σ, PassesAt CX X σ (E σ))
    (ha : PA X (e :: es) t) (hdb : (x == ("__debug__" : Str)) = false := by decide) (he : starEach (e :: es) X.env = (false, eval e X.env) :: starEach es X.env := by rfl) (hpl : (backTo pos (starEach es X.env)).any (·.1) = false := by rfl) :
    PE X (.Call (.Name x p) (e :: es) [] pos) (tMakeSD C sp E t) :=
  ⟨fun pins s σ H Q I h => wpAny_Call_Name_kw (ld_glob I hg hm (PySem.W.callWith_K (h₀ := X.base) I.ok.mod.kin M.kp (thn (ha.run pos pins s σ H _ I h) fun us s1 ⟨vs, H1, I1, r, q⟩ => ⟨I1.kIn, run_makeSD M F hr hb (hx σ) I1 r q⟩) he hpl) hdb)⟩
end
/-- a class of the module whose instances are made by its __init__ -/
structure MakeOk (P : Program) (w : World) (K : PySem.W.Frag) (mg : Str → Option Value) (base : Heap) (x : Str) (C : Addr) (lv : Nat) (c : CtI) : Prop where
  mono : ∀ ds (P P' : List Str → List D → Prop) (E E' : Value → List Str → List D → Prop), (∀ ns es, P ns es → P' ns es) → (∀ v ns es, E v ns es → E' v ns es) → c ds P E → c ds P' E'
  ex : ∃ f fd ps, FnOk P w K mg base (L2N.CX P w) lv f fd ps (spI K C c) ∧ Mk K C f ∧ mg x = some (.ref C) ∧ Binds K fd ps []
theorem je_make [Calm Γ] {x : Str} {C : Addr} {lv : Nat} {ct : CtI} {p : Pos} (F : MakeOk Γ.P Γ.w Γ.K Γ.mg Γ.base x C lv ct) (hl : lv + 1 ≤ S.lv) (hg : HasG S.gl x)
    (h : JA S Γ (e :: es) δ fun ds => ct ds (fun ns fs => P (.obj C ns fs)) (Γ.ex δ))
    (hdb : (x == ("__debug__" : Str)) = false := by decide) (he : ∀ env, starEach (e :: es) env = (false, eval e env) :: starEach es env := by intro _; rfl) (hpl : ∀ env, (backTo pos (starEach es env)).any (·.1) = false := by intro _; rfl) :
    JE S Γ (.Call (.Name x p) (e :: es) [] pos) δ P := by
  refine ⟨fun X hX σ G H st ev Q k => ?_⟩
  have hk : Gl X x := by show X.env.scope.names.lookup x = _; rw [hX.sc]; exact hX.so.gl x hg.mem
  obtain ⟨f, fd, ps, F1, F2, F3, F4⟩ := F.ex
  have F1' : FnOk X.prog X.w X.K X.mg X.base (L2N.CX X.prog X.w) lv f fd ps (spI Γ.K C ct) := by rw [hX.prog, hX.w, hX.K, hX.mg, hX.base]; exact F1
  refine PEw (pe_makeSD (E := WE (wx Γ)) (by rw [hX.K]; exact F2) F1' ((hX.room Calm.hx).mono hl) hk (by rw [hX.mg]; exact F3) (by rw [hX.K]; exact F4) (fun σ => L2N.passAt hX.tk σ) wA_pa hdb (he _) (hpl _)) ?_
  refine h.run X hX σ G H st ev _ fun vs G1 H1 ds s1 r1 h1 => ?_
  intro y dx hy hdx hne
  have gy : G1 y = none := s1.sub.free hy
  have s2 : Stp Γ.K G1 H1 G1 (upd H1 dx (.own y)) := .newM s1.sub hdx
  have hy0 : (upd H1 dx (.own y)) y = none := by rw [upd_ne hne.symm]; exact hy
  refine ⟨G1, upd H1 dx (.own y), ds, y, dx, vs, rfl, rfl, hy0, s2.sub, ((st.trans s1).trans s2).tab hX.tb, r1.mono s2, F.mono _ _ _ _ _ (fun ns es q G' H' dx' fs s' g' hp' hn r' => ?_) (fun cls ns es q d G' H' s x => ⟨G', δ, ns, es, ((st.trans s1).trans s2).trans s, ev.mono ((s1.trans s2).trans s), x, q⟩) h1⟩
  refine ⟨rfl, ?_⟩
  have s3 := (s2.trans s').freezeI hy hp' g'
  refine k _ _ _ _ (s1.trans s3) ?_ q
  unfold Rep
  exact ⟨y, dx', fs, rfl, upd_same, hn, r'.mo (.freezeI hp' g')⟩
/-! methods, properties -/
structure MethOk (P : Program) (w : World) (K : PySem.W.Frag) (mg : Str → Option Value) (base : Heap) (C : Addr) (m : Str) (lv : Nat) (c : Ct) : Prop where
  mono : ∀ ds (P P' : D → Prop) (E E' : Value → List Str → List D → Prop), (∀ d, P d → P' d) → (∀ v ns es, E v ns es → E' v ns es) → c ds P E → c ds P' E'
  ex : ∃ f fd ps, FnOk P w K mg base (L2N.CX P w) lv f fd ps (spC K c) ∧ Meth K C m f ∧ Binds K fd ps []
structure PropOk (P : Program) (w : World) (K : PySem.W.Frag) (mg : Str → Option Value) (base : Heap) (C : Addr) (m : Str) (lv : Nat) (c : Ct) : Prop where
  mono : ∀ ds (P P' : D → Prop) (E E' : Value → List Str → List D → Prop), (∀ d, P d → P' d) → (∀ v ns es, E v ns es → E' v ns es) → c ds P E → c ds P' E'
  ex : ∃ p f fd ps, FnOk P w K mg base (L2N.CX P w) lv f fd ps (spC K c) ∧ PropOf K C m p f ∧ Binds K fd ps []
theorem lookup_none {f : Str} : ∀ {fs : List (Str × V)}, f ∉ fs.map (·.1) → fs.lookup f = none
  | [], _ => rfl
  | (g, x) :: fs, h => by
    rw [List.map_cons, List.mem_cons, not_or] at h
    have hb : (f == g) = false := by simpa using h.1
    rw [List.lookup_cons, hb]
    exact lookup_none h.2
/-- what an object's call asks -/
def ObjC (C : Addr) (m : Str) (d : D) (P : Prop) : Prop := ∃ ns ds, d = .obj C ns ds ∧ m ∉ ns ∧ P
theorem je_meth0 [Calm Γ] {C : Addr} {m : Str} {lv : Nat} {ct : Ct} {apos : Pos} {pl : Env → Sem Bool} (cl : Cls Γ.K C) (F : MethOk Γ.P Γ.w Γ.K Γ.mg Γ.base C m lv ct) (hl : lv ≤ S.lv)
    (h : JE S Γ o δ fun d => ObjC C m d (ct [d] P fun _ _ _ => False))
    (ht : ∀ env, eval (.Call (.Attribute o m apos) [] [] pos) env = (do
      let ov ← eval o env
      standAt apos.atName
      let (f, first) ← holding [ov] (getMethod ov m (pl env))
      callWith pos f first (backTo pos (starEach [] env)) (backToKw pos (keywordEach [] env))) := by intro _; rfl) : JE S Γ (.Call (.Attribute o m apos) [] [] pos) δ P := by
  refine ⟨fun X hX σ G H st ev Q k => ?_⟩
  obtain ⟨f, fd, ps, F1, F2, F4⟩ := F.ex
  have F1' : FnOk X.prog X.w X.K X.mg X.base (L2N.CX X.prog X.w) lv f fd ps (spC Γ.K ct) := by rw [hX.prog, hX.w, hX.K, hX.mg, hX.base]; exact F1
  refine PEw (pe_meth0 (E := E0) wE_pe (by rw [hX.K]; exact cl) (by rw [hX.K]; exact F2) F1' ((hX.room Calm.hx).mono hl) (by rw [hX.K]; exact F4) .nil passN (ht _)) ?_
  refine h.run X hX σ G H st ev _ fun v G1 H1 d s1 r1 h1 => ?_
  obtain ⟨ns, ds, rfl, hm, hA⟩ := h1
  have r1' := r1
  unfold Rep at r1
  obtain ⟨a, dx, fs, rfl, g1, g2, g3⟩ := r1
  refine ⟨a, dx, fs, rfl, s1.sub _ _ g1, lookup_none (by rw [g2]; exact hm), ?_⟩
  exact ⟨G1, _, s1.sub, (st.trans s1).tab hX.tb, .cons r1' .nil, F.mono _ _ _ _ _ (fun d' p v' G' H' s' r' => k v' G' H' d' (s1.trans s') r' p) (fun cls ns es q d' G' H' s' x => q.elim) hA⟩
theorem je_prop [Calm Γ] {C : Addr} {m : Str} {lv : Nat} {ct : Ct} {apos : Pos} (cl : Cls Γ.K C) (F : PropOk Γ.P Γ.w Γ.K Γ.mg Γ.base C m lv ct) (hl : lv + 1 ≤ S.lv)
    (h : JE S Γ o δ fun d => (∃ ns ds, d = .obj C ns ds) ∧ ct [d] P fun _ _ _ => False)
    (hb : ∀ env, attributeBase o m env (eval o env) = eval o env := by intro _; rfl) : JE S Γ (.Attribute o m apos) δ P := by
  refine ⟨fun X hX σ G H st ev Q k => ?_⟩
  obtain ⟨p, f, fd, ps, F1, F2, F4⟩ := F.ex
  have F1' : FnOk X.prog X.w X.K X.mg X.base (L2N.CX X.prog X.w) lv f fd ps (spC Γ.K ct) := by rw [hX.prog, hX.w, hX.K, hX.mg, hX.base]; exact F1
  refine PEw (pe_prop (E := E0) wE_pe (by rw [hX.K]; exact cl) (by rw [hX.K]; exact F2) F1' ((hX.room Calm.hx).mono hl) (by rw [hX.K]; exact F4) .nil passN (hb _)) ?_
  refine h.run X hX σ G H st ev _ fun v G1 H1 d s1 r1 h1 => ?_
  obtain ⟨⟨ns, ds, rfl⟩, hA⟩ := h1
  have r1' := r1
  unfold Rep at r1
  obtain ⟨a, dx, fs, rfl, g1, g2, g3⟩ := r1
  refine ⟨a, dx, fs, rfl, s1.sub _ _ g1, ?_⟩
  exact ⟨G1, _, s1.sub, (st.trans s1).tab hX.tb, .cons r1' .nil, F.mono _ _ _ _ _ (fun d' p v' G' H' s' r' => k v' G' H' d' (s1.trans s') r' p) (fun cls ns es q d' G' H' s' x => q.elim) hA⟩
end
end Z
set_option Elab.async false
set_option linter.all false
set_option maxRecDepth 100000
set_option maxHeartbeats 4000000
/-! Z11: operators of own classes: ==, in, &, len. -/
namespace Z
open PySem L2 PyProof.Rows
variable [tabsI : TabsT]
/-- a def of the program called from an operator -/
theorem call_fn {X : Cx} {CX : CXT} {k : Nat} {f : Addr} {fd : FuncData} {ps : List Str} {sp : Sp} {E : XK} {pins : List (Addr × Obj)} {σ : L2.St} {H : Hp} {s : Shared} {Q : VK} {us : List Value} {vs : List V} {A : Around} (F : FnOk X.prog X.w X.K X.mg X.base CX k f fd ps sp) (hr : Room k A) (hA : A.frames = X.A.frames)
    (hb : Binds X.K fd ps []) (hx : ∀ e s', ¬ CX X.stack H s E e s') (I : Inv X pins σ H s) (r : Vals vs us) (h : sp vs H Q E) {E' : Value → Shared → Prop} : wpAny (model X.prog X.w) A (call (.ref f) us) (EP X pins σ Q) E' s := by
  have hl := F.len _ _ _ _ h
  have hl' : (us ++ []).length = ps.length := by rw [List.append_nil, ← r.length]; exact hl
  have e0 : Env0 X.prog X.w X.K X.mg X.base A X.stack s H := by
    have e := I.env0
    exact ⟨by rw [hA]; exact e.frames, e.mod, e.bs, e.bsz, e.funs, e.frf, e.hok, e.bare⟩
  refine wpAny_call (codeAny_mono (F.run A X.stack s H ⟨us, []⟩ us vs Q E hr e0 (by
    have := hb s us I.kIn hl'
    simpa using this) r h) fun r s' hq => ?_)
  cases r with
  | error e => exact absurd hq (hx e s')
  | ok fl =>
    cases fl with
    | ret w =>
      obtain ⟨z, H', I', rz, q⟩ := I.after hq
      exact ⟨z, H', I', rz, q⟩
    | next => exact False.elim hq
    | brk => exact False.elim hq
    | cont => exact False.elim hq
theorem noX {P : Program} {w : World} {l : List Env} {H : Hp} {s : Shared} {e : Value} {s' : Shared} : ¬ L2N.CX P w l H s E0 e s' := by
  rintro ⟨_, _, _, _, _, _, _, _, _, _, _, _, z⟩
  exact z.elim
/-- the contract's answer at values -/
theorem spC_of {K : PySem.W.Frag} {ct : Ct} {G H : Hp} {ds : List D} {vs : List V} {P : D → Prop} {Q : VK} (mono : ∀ ds (P P' : D → Prop) (E E' : Value → List Str → List D → Prop), (∀ d, P d → P' d) → (∀ v ns es, E v ns es → E' v ns es) → ct ds P E → ct ds P' E') (st : Same G H) (tb : TOk G H) (r : RepL K G H ds vs)
    (h : ct ds P fun _ _ _ => False) (k : ∀ d v G' H', Stp K G H G' H' → Rep K G' H' d v → P d → Q v H') : spC K ct vs H Q E0 :=
  ⟨G, ds, st, tb, r, mono _ _ _ _ _ (fun d p v G' H' s' r' => k d v G' H' s' r' p) (fun _ _ _ q _ _ _ _ _ => q.elim) h⟩
section
variable {S : Scp} {Γ : Cg} {P : D → Prop}
/-- the answer that a contract may give where a bool is wanted -/
def ansB (P : Bool → Prop) (d : D) : Prop := ∃ b, d = .bl b ∧ P b
theorem od_eqO [Calm Γ] {C : Addr} {ns ns' : List Str} {ds ds' : List D} {lv : Nat} {ct : Ct} (F : MethOk Γ.P Γ.w Γ.K Γ.mg Γ.base C "__eq__" lv ct) (hl : lv ≤ S.lv) (h : ct [.obj C ns ds, .obj C ns' ds'] (ansB fun b => P (.bl b)) fun _ _ _ => False) :
    OpD S Γ (compareOp .Eq) (.obj C ns ds) (.obj C ns' ds') P := by
  refine ⟨fun X hX v u G H st r1 r2 Q k => ?_⟩
  obtain ⟨f, fd, ps, F1, F2, F4⟩ := F.ex
  have F1' : FnOk X.prog X.w X.K X.mg X.base (L2N.CX X.prog X.w) lv f fd ps (spC Γ.K ct) := by rw [hX.prog, hX.w, hX.K, hX.mg, hX.base]; exact F1
  have r1' := r1
  have r2' := r2
  unfold Rep at r1 r2
  obtain ⟨a, dx, fs, rfl, g1, _⟩ := r1
  obtain ⟨b, dy, gs, rfl, g2, _⟩ := r2
  intro pins s σ v' u' I rv ru
  cases rv
  cases ru
  obtain ⟨mA, J, _⟩ := ins_get I.hok (st.sub _ _ g1)
  obtain ⟨mB, J', _⟩ := ins_get I.hok (st.sub _ _ g2)
  obtain ⟨od, J, _⟩ := J.look
  obtain ⟨od', J', _⟩ := J'.look
  obtain ⟨m, hF⟩ := I.fr
  have hr : Room lv X.A := (hX.room Calm.hx).mono hl
  refine PySem.W.cmp_K (op := .Eq) (tb := .ref C) hr.units0 hF I.ok.mod.kin J J'.type (by simp [PySem.W.notFirst]) (by rw [hX.K]; exact F2.at_) (by rw [hX.K]; exact F2.fn) ?_
  refine wpAny_mono (call_fn (E := E0) F1' hr rfl (by rw [hX.K]; exact F4) (fun _ _ => noX) I (show Vals [V.ref a, V.ref b] [Value.ref a, Value.ref b] from .cons rfl (.cons rfl .nil)) (spC_of (Q := fun v H' => ∃ b, v = .bl b ∧ Q (.bl b) H') F.mono st.sub (st.tab hX.tb) (.cons r1' (.cons r2' .nil)) h fun d w G' H' s' r' p => ?_)) (fun w s' hw => ?_) fun _ _ e => e
  · obtain ⟨bb, rfl, p⟩ := p
    unfold Rep at r'
    exact ⟨bb, r', k _ G' H' _ s' rep_bl p⟩
  · obtain ⟨z, H', I', rz, bb, rfl, q⟩ := hw
    cases rz
    exact ⟨.bl bb, H', I', rfl, q⟩
end
section
open PySem.W Builtin
variable {prog : Program} {w : World} {A : Around} {E : Value → Shared → Prop} {s : Shared} {K : Frag} {x C L f : Addr} {h₀ : Heap} {m : Str → Option Value} {ox : Obj} {od : Option Obj} {b tb : Value}
end
section
variable {S : Scp} {Γ : Cg} {P : D → Prop}
end
end Z
set_option Elab.async false
set_option linter.all false
set_option maxRecDepth 100000
set_option maxHeartbeats 4000000
/-! Z12: truth of lists, slices, a list of one's own read, stored into, popped; list(range(..)). -/
namespace Z
open PySem L2
variable [tabsI : TabsT]
section
variable {S : Scp} {Γ : Cg} {δ : List Sl} {P : D → Prop} {PB : Bool → Prop} {PL : List D → Prop} {K : Kp} {N B C : List Sl → Prop} {R : D → Prop} {a b c e o : Expr} {es rest : List Expr} {pos : Pos}
/-- what a test of a value asks -/
def tru (PB : Bool → Prop) (d : D) : Prop := match d with
  | .bl b => PB b | .non => PB false | .int i => PB (!decide (i = 0)) | .lst ds => PB (!ds.isEmpty) | .tup ds => PB (!ds.isEmpty) | _ => False
theorem isEmpty_rep {KK : PySem.W.Frag} {G H : Hp} {ds : List D} {vs : List V} (h : RepL KK G H ds vs) : vs.isEmpty = ds.isEmpty := by
  have := h.length
  cases vs <;> cases ds <;> simp_all
theorem jt_tru (h : JE S Γ e δ (tru PB)) (he : ∀ env whole, isTrue e env whole = (do let v ← whole; standAt e.pos; holding [v] (truthy v))) : JT S Γ e δ PB := by
  refine ⟨fun X hX σ G H st ev Q k => ?_⟩
  refine PTw (pt_truth wE_pe (he _)) ?_
  refine h.run X hX σ G H st ev _ fun v G1 H1 d s1 r1 h1 => ?_
  cases d with
  | bl b => unfold Rep at r1; subst r1; exact ⟨b, rfl, k b G1 H1 s1 h1⟩
  | non => unfold Rep at r1; subst r1; exact ⟨false, rfl, k false G1 H1 s1 h1⟩
  | int i => unfold Rep at r1; subst r1; exact ⟨_, rfl, k _ G1 H1 s1 h1⟩
  | lst ds =>
    unfold Rep at r1
    obtain ⟨p, vs, rfl, g1, g2⟩ := r1
    exact ⟨!ds.isEmpty, .inl ⟨vs, .inl (.inl (s1.sub _ _ g1)), by rw [isEmpty_rep g2]⟩, k _ G1 H1 s1 h1⟩
  | tup ds =>
    unfold Rep at r1
    obtain ⟨p, vs, rfl, g1, g2⟩ := r1
    exact ⟨!ds.isEmpty, .inr (.inl ⟨vs, by rw [hX.K]; exact Same.tup s1.sub g1, by rw [isEmpty_rep g2]⟩), k _ G1 H1 s1 h1⟩
  | _ => exact h1.elim
/-- not xs at a list of one's own -/
theorem jt_truOw {x : Str} {i : Nat} {ds : List D} {p : Pos} (hv : Has S.vs x i) (hδ : δ[i]? = some (.ow ds)) (h : PB (!ds.isEmpty)) (hd : (x == ("__debug__" : Str)) = false := by decide) (hcd : (x == ("__classdict__" : Str)) = false := by decide) (he : ∀ env whole, isTrue (.Name x p) env whole = (do let v ← whole; standAt (Expr.Name x p).pos; holding [v] (truthy v)) := by intro _ _; rfl) : JT S Γ (.Name x p) δ PB := by
  refine ⟨fun X hX σ G H st ev Q k => ?_⟩
  obtain ⟨h1, h2⟩ := hX.so.vs _ hv.mem
  refine PTw (pt_truth (pe_var (by rw [hX.N]; exact h1) (by rw [hX.sc]; exact h2) hd hcd) (he _)) ?_
  obtain ⟨q, vs, e1, hq, g, h0, r⟩ := ev.at_ i _ hδ
  exact ⟨.ref q, e1, !ds.isEmpty, .inl ⟨vs, .inl (.inl hq), by rw [isEmpty_rep r]⟩, k _ G H (.refl st.sub) h⟩
/-- xs[k] of a list of one's own -/
theorem je_ixOw {x : Str} {i : Nat} {ds : List D} {p : Pos} (hv : Has S.vs x i) (hδ : δ[i]? = some (.ow ds)) (h : JE S Γ b δ fun d => ∃ k u, d = .int k ∧ L2.atI ds k = some u ∧ P u) (hs : PlainIx b) (hd : (x == ("__debug__" : Str)) = false := by decide) (hcd : (x == ("__classdict__" : Str)) = false := by decide) : JE S Γ (.Subscript (.Name x p) b pos) δ P := by
  refine ⟨fun X hX σ G H st ev Q k => ?_⟩
  obtain ⟨h1, h2⟩ := hX.so.vs _ hv.mem
  refine PEw (pe_ix ix_list (pe_var (by rw [hX.N]; exact h1) (by rw [hX.sc]; exact h2) hd hcd) wE_pe hs) ?_
  obtain ⟨q, vs, e1, hq, g, h0, r⟩ := ev.at_ i _ hδ
  refine ⟨.ref q, e1, ?_⟩
  refine h.run X hX σ G H st ev _ fun v G1 H1 d s1 r1 hh => ?_
  obtain ⟨kk, u, rfl, e2, pu⟩ := hh
  unfold Rep at r1
  subst r1
  have ev1 := ev.mono s1
  obtain ⟨q', vs', e1', hq', g', h0', r'⟩ := ev1.at_ i _ hδ
  rw [e1] at e1'
  cases e1'
  obtain ⟨z, e3, rz⟩ := r'.atI e2
  exact ⟨q, vs', kk, z, rfl, rfl, .inl (.inl hq'), e3, k z G1 H1 u s1 rz pu⟩
/-! slices -/
def wPO (X : Cx) (e : Option Expr) : TO := fun σ H Q => ∀ pins s, Inv X pins σ H s → wpAny (model X.prog X.w) X.A (evalPart e X.env) (fun u s' => ∃ o H', Inv X pins σ H' s' ∧ IsPart u o ∧ Q o H') X.xe s
theorem wPO_po {X : Cx} {e : Option Expr} : PO X e (wPO X e) := ⟨fun pins s σ H Q I h => h pins s I⟩
structure JO (S : Scp) (Γ : Cg) (e : Option Expr) (δ : List Sl) (P : Option Int → Prop) : Prop where
  run : ∀ X, COk S Γ X → ∀ σ G H, Stp Γ.K Γ.G0 Γ.H0 G H → EnvOk Γ.K G H Γ.H0 σ δ → ∀ Q : Option Int → Hp → Prop, (∀ v G' H', Stp Γ.K G H G' H' → P v → Q v H') → wPO X e σ H Q
theorem jo_none {PO' : Option Int → Prop} (h : PO' none) : JO S Γ none δ PO' := ⟨fun X hX σ G H st ev Q k pins s I => po_none.run pins s σ H Q I (k none G H (.refl st.sub) h)⟩
theorem jo_some {PO' : Option Int → Prop} (h : JE S Γ e δ fun d => ∃ i, d = .int i ∧ PO' (some i)) : JO S Γ (some e) δ PO' := by
  refine ⟨fun X hX σ G H st ev Q k pins s I => (po_some wE_pe).run pins s σ H Q I ?_⟩
  refine h.run X hX σ G H st ev _ fun v G1 H1 d s1 r1 hh => ?_
  obtain ⟨i, rfl, p⟩ := hh
  unfold Rep at r1
  exact ⟨i, r1, k _ G1 H1 s1 p⟩
def cutD (xs : List D) (lo hi : Option Int) : List D := (xs.drop (HT.sIx xs.length 0 lo)).take (HT.sIx xs.length xs.length hi - HT.sIx xs.length 0 lo)
theorem RepL.cut {KK : PySem.W.Frag} {G H : Hp} {ds : List D} {vs : List V} {lo hi : Option Int} (h : RepL KK G H ds vs) : RepL KK G H (cutD ds lo hi) (cutV vs lo hi) := by
  unfold cutD cutV
  rw [h.length]
  exact (h.drop _).take _
/-- list(range(..)) -/
def rgD (a b : Int) : List Int := (List.range (b - a).toNat).map fun i => a + (i : Nat)
theorem rgV_D {a b : Int} : rgV a b = (rgD a b).map V.int := by
  unfold rgV rgD
  rw [List.map_map]
  rfl
theorem jf_rg1 [Calm Γ] {p p1 p2 : Pos} (hg : HasG S.gl "list") (hm : Γ.mg "list" = none) (hg2 : HasG S.gl "range") (hm2 : Γ.mg "range" = none) (h : JE S Γ a δ fun d => ∃ n, d = .int n ∧ RgOk 0 n ∧ PL ((rgD 0 n).map D.int))
    (n1 : ∀ env, starEach [a] env = (false, eval a env) :: starEach [] env := by intro _; rfl) (n2 : ∀ env, starEach [.Call (.Name "range" p1) [a] [] p2] env = (false, eval (.Call (.Name "range" p1) [a] [] p2) env) :: starEach [] env := by intro _; rfl) :
    JF S Γ (.Call (.Name "list" p) [.Call (.Name "range" p1) [a] [] p2] [] pos) δ PL := by
  refine ⟨fun X hX σ G H st ev Q k => ?_⟩
  have hk : ∀ x, HasG S.gl x → Gl X x := fun x hx => by show X.env.scope.names.lookup x = _; rw [hX.sc]; exact hX.so.gl x hx.mem
  refine PEw (pe_listRg (hX.calm Calm.hx) (hk _ hg) (by rw [hX.mg]; exact hm) (prg_1 (hk _ hg2) (by rw [hX.mg]; exact hm2) wE_pe (n1 _)) (n2 _)) ?_
  refine h.run X hX σ G H st ev _ fun v G1 H1 d s1 r1 h1 => ?_
  obtain ⟨n, rfl, ok, p⟩ := h1
  unfold Rep at r1
  refine ⟨n, r1, ok, fun y hy => ?_⟩
  rw [rgV_D]
  exact k y _ G1 _ _ (s1.trans (.newM s1.sub hy)) (s1.free hy) (s1.sub.free hy) upd_same .ofInts p
theorem jf_rg2 [Calm Γ] {p p1 p2 : Pos} (hg : HasG S.gl "list") (hm : Γ.mg "list" = none) (hg2 : HasG S.gl "range") (hm2 : Γ.mg "range" = none) (h : JE S Γ a δ fun d => JE S Γ b δ fun d' => ∃ m n, d = .int m ∧ d' = .int n ∧ RgOk m n ∧ PL ((rgD m n).map D.int))
    (n1 : ∀ env, starEach [a, b] env = (false, eval a env) :: starEach [b] env := by intro _; rfl) (n3 : ∀ env, starEach [b] env = (false, eval b env) :: starEach [] env := by intro _; rfl) (n4 : ∀ env, (backTo p2 (starEach [b] env)).any (·.1) = false := by intro _; rfl)
    (n2 : ∀ env, starEach [.Call (.Name "range" p1) [a, b] [] p2] env = (false, eval (.Call (.Name "range" p1) [a, b] [] p2) env) :: starEach [] env := by intro _; rfl) :
    JF S Γ (.Call (.Name "list" p) [.Call (.Name "range" p1) [a, b] [] p2] [] pos) δ PL := by
  refine ⟨fun X hX σ G H st ev Q k => ?_⟩
  have hk : ∀ x, HasG S.gl x → Gl X x := fun x hx => by show X.env.scope.names.lookup x = _; rw [hX.sc]; exact hX.so.gl x hx.mem
  refine PEw (pe_listRg (hX.calm Calm.hx) (hk _ hg) (by rw [hX.mg]; exact hm) (prg_2 (hk _ hg2) (by rw [hX.mg]; exact hm2) wE_pe wE_pe (n1 _) (n3 _) (n4 _)) (n2 _)) ?_
  refine h.run X hX σ G H st ev _ fun v G1 H1 d s1 r1 h1 => ?_
  refine h1.run X hX σ G1 H1 (st.trans s1) (ev.mono s1) _ fun u G2 H2 d' s2 r2 h2 => ?_
  obtain ⟨m, n, rfl, rfl, ok, p⟩ := h2
  unfold Rep at r1 r2
  refine ⟨m, n, r1, r2, ok, fun y hy => ?_⟩
  rw [rgV_D]
  have s12 := s1.trans s2
  exact k y _ G2 _ _ (s12.trans (.newM s2.sub hy)) (s12.free hy) (s2.sub.free hy) upd_same .ofInts p
end
end Z
set_option Elab.async false
set_option linter.all false
set_option maxRecDepth 100000
set_option maxHeartbeats 4000000
/-! Z13: items stored into a list of one's own, pop, deep ==, isinstance of own classes, tuple(list). -/
namespace Z
open PySem L2
variable [tabsI : TabsT]
section
variable {S : Scp} {Γ : Cg} {δ : List Sl} {P : D → Prop} {PB : Bool → Prop} {PL : List D → Prop} {K : Kp} {N B C' : List Sl → Prop} {R : D → Prop} {a b c e o : Expr} {es rest : List Expr} {pos : Pos}
/-! deep == -/
mutual
def plnD : D → Bool
  | .non => true | .bl _ => true | .int _ => true | .str _ => true
  | .tup ds => plnL ds | .lst ds => plnL ds
  | _ => false
def plnL : List D → Bool
  | [] => true
  | d :: ds => plnD d && plnL ds
end
mutual
def pyD : D → PyData
  | .non => .none | .bl b => .bool b | .int i => .int i | .str x => .str x
  | .tup ds => .tuple (pyL ds) | .lst ds => .list (pyL ds)
  | _ => .none
def pyL : List D → List PyData
  | [] => []
  | d :: ds => pyD d :: pyL ds
end
mutual
theorem dp_rep {KK : PySem.W.Frag} {G H : Hp} (e : Same G H) : ∀ {d : D} {v : V}, plnD d = true → Rep KK G H d v → L2.Dp KK H v (pyD d)
  | .non, v, _, h => by unfold Rep at h; subst h; exact .non
  | .bl b, v, _, h => by unfold Rep at h; subst h; exact .bl b
  | .int b, v, _, h => by unfold Rep at h; subst h; exact .int b
  | .str b, v, _, h => by unfold Rep at h; subst h; exact .str b
  | .tup ds, v, f, h => by
    unfold Rep at h
    unfold plnD at f
    obtain ⟨p, vs, rfl, h1, h2⟩ := h
    exact .tup (Same.tup e h1) (dp_repL e f h2)
  | .lst ds, v, f, h => by
    unfold Rep at h
    unfold plnD at f
    obtain ⟨p, vs, rfl, h1, h2⟩ := h
    exact .lst (.inl (.inl (e _ _ h1))) (dp_repL e f h2)
  | .obj _ _ _, _, f, _ => by cases f
  | .cls _, _, f, _ => by cases f
  | .ty _, _, f, _ => by cases f
  | .sto _, _, f, _ => by cases f
  | .scr _, _, f, _ => by cases f
theorem dp_repL {KK : PySem.W.Frag} {G H : Hp} (e : Same G H) : ∀ {ds : List D} {vs : List V}, plnL ds = true → RepL KK G H ds vs → L2.DpAll KK H vs (pyL ds)
  | [], vs, _, h => by unfold RepL at h; subst h; exact .nil
  | d :: ds, vs, f, h => by
    unfold RepL at h
    unfold plnL at f
    rw [Bool.and_eq_true] at f
    obtain ⟨v, r, rfl, h1, h2⟩ := h
    exact .cons (dp_rep e f.1 h1) (dp_repL e f.2 h2)
end
theorem od_eqD {x y : D} (h1 : plnD x = true) (h2 : plnD y = true) (s1 : SeqAt.shaped (pyD x) = true) (s2 : SeqAt.shaped (pyD y) = true) (h : P (.bl (PyData.eqv (pyD x) (pyD y)))) : OpD S Γ (compareOp .Eq) x y P := by
  refine ⟨fun X hX v u G H st r1 r2 Q k => ?_⟩
  exact OpRw (op_eqD (unH hX.roomH)) ⟨_, _, by rw [hX.K]; exact dp_rep st.sub h1 r1, by rw [hX.K]; exact dp_rep st.sub h2 r2, s1, s2, k _ G H _ (.refl st.sub) rep_bl h⟩
theorem od_neD {x y : D} (h1 : plnD x = true) (h2 : plnD y = true) (s1 : SeqAt.shaped (pyD x) = true) (s2 : SeqAt.shaped (pyD y) = true) (h : P (.bl (!PyData.eqv (pyD x) (pyD y)))) : OpD S Γ (compareOp .NotEq) x y P := by
  refine ⟨fun X hX v u G H st r1 r2 Q k => ?_⟩
  exact OpRw (op_neD (unH hX.roomH)) ⟨_, _, by rw [hX.K]; exact dp_rep st.sub h1 r1, by rw [hX.K]; exact dp_rep st.sub h2 r2, s1, s2, k _ G H _ (.refl st.sub) rep_bl h⟩
/-! tuple(xs) -/
theorem cd_tupL {ds : List D} (h : P (.tup ds)) : CallD S Γ (.type "tuple") [.lst ds] P := by
  refine ⟨fun X hX vs G H st r Q k => ?_⟩
  obtain ⟨v, rfl, r1⟩ := repL1 r
  unfold Rep at r1
  obtain ⟨p, ys, rfl, h1, h2⟩ := r1
  refine CallRw call_tuple_of ⟨p, ys, rfl, .inl ⟨.inl (.inl (st.sub _ _ h1)), fun l hl => ?_⟩⟩
  have s2 : Stp Γ.K G H (upd G l (.tup ys)) (upd H l (.tup ys)) := .new st.sub hl
  refine k _ _ _ (.tup ds) s2 ?_ h
  unfold Rep
  exact ⟨l, ys, rfl, upd_same, h2.mono s2⟩
/-- isinstance(x, C), an instance of C -/
theorem cd_isO {C : Addr} {ns : List Str} {ds : List D} (hi : C8.InsC Γ.K C) (h : P (.bl true)) : CallD S Γ (.builtin "isinstance") [.obj C ns ds, .cls C] P := by
  refine ⟨fun X hX vs G H st r Q k => ?_⟩
  obtain ⟨v, u, rfl, r1, r2⟩ := repL2 r
  unfold Rep at r1 r2
  subst r2
  obtain ⟨p, dx, fs, rfl, h1, _⟩ := r1
  exact CallRw (C8.call_isC (by rw [hX.K]; exact hi)) ⟨p, dx, fs, rfl, st.sub _ _ h1, k _ G H _ (.refl st.sub) rep_bl h⟩
end
end Z
set_option Elab.async false
set_option linter.all false
set_option maxRecDepth 100000
set_option maxHeartbeats 4000000
/-! Z14: a list of one's own appended to another, returned, popped; zip, enumerate. -/
namespace Z
open PySem L2
variable [tabsI : TabsT]
section
variable {S : Scp} {Γ : Cg} {δ : List Sl} {P : D → Prop} {PB : Bool → Prop} {PL : List D → Prop} {K : Kp} {N B C' : List Sl → Prop} {R : D → Prop} {a b c e o : Expr} {es rest : List Expr} {pos : Pos} {PI' : Nat → (Nat → D) → Prop}
/-- x.append(y), y a list of one's own that will never change from here on -/
theorem zs_appendF {x y : Str} {i j : Nat} {ds us : List D} {p1 p2 p3 p4 : Pos} (hv : Has S.vs x i) (hw : Has S.vs y j) (hij : j ≠ i) (hδ : δ[i]? = some (.ow ds)) (hε : δ[j]? = some (.ow us)) (h : ds.length < sizeLine ∧ N ((δ.set j (.fz (.lst us))).set i (.ow (ds ++ [.lst us]))))
    (hd : (x == ("__debug__" : Str)) = false := by decide) (hcd : (x == ("__classdict__" : Str)) = false := by decide) (hd2 : (y == ("__debug__" : Str)) = false := by decide) (hcd2 : (y == ("__classdict__" : Str)) = false := by decide) (hline : (p2.endLine == p3.line) = true := by rfl) :
    JS S Γ (.Expr (.Call (.Attribute (.Name x p1) "append" p2) [.Name y p4] [] p3) pos) δ ⟨N, R, B, C'⟩ := by
  have hj : j < δ.length := atGet hε
  refine js_freeze j hε ?_
  refine js_append (ds := ds) hv.mem (by rw [List.getElem?_set_ne hij]; exact hδ) (je_name (d := .lst us) hw.mem (by rw [List.getElem?_set_self hj]) h hd2 hcd2) hd hcd (by intro _; rfl) hline (by intro _; rfl) (by intro _; rfl)
/-- return x, a list of one's own -/
theorem zs_retOw {x : Str} {i : Nat} {ds : List D} {p1 : Pos} (hv : Has S.vs x i) (hδ : δ[i]? = some (.ow ds)) (h : R (.lst ds)) (hd : (x == ("__debug__" : Str)) = false := by decide) (hcd : (x == ("__classdict__" : Str)) = false := by decide) : JS S Γ (.Return (some (.Name x p1)) pos) δ ⟨N, R, B, C'⟩ := by
  refine js_freeze i hδ (js_ret (je_name (d := .lst ds) hv.mem (by rw [List.getElem?_set_self (atGet hδ)]) h hd hcd))
end
end Z
set_option Elab.async false
set_option linter.all false
set_option maxRecDepth 100000
set_option maxHeartbeats 4000000
/-! Z15: methods, properties and __init__ of a class keep their contracts: from the facts of the top. -/
namespace Z
open PySem L2
variable [tabsI : TabsT]
/-- a def of a class's body (no defaults): its facts -/
structure DefAt (K : PySem.W.Frag) (m qual : Str) (st : Stmt) (f : Addr) (fd : FuncData) : Prop where
  fn : FunD K m qual (defArgs st) (defBody st) (defScope st) [] [] f fd
theorem defAt {K : PySem.W.Frag} {m qual : Str} {st : Stmt} {f : Addr} {oc kV dc pm cd ct : Value} {od an : Option Addr} {sl : Array (Option Value)}
    (l : K.lookup f = some ⟨oc, od, .func (PySem.W.fnOf m qual (defArgs st) (defBody st) (defScope st) .none kV dc pm an cd ct), sl⟩) (c : PySem.W.codeIn K cd qual = true) (k : PySem.W.keepIn K (.ref f) = true) : ∃ fd, DefAt K m qual st f fd :=
  ⟨_, ⟨⟨oc, od, .none, kV, dc, pm, an, cd, ct, sl, rfl, l, c, .inl ⟨rfl, rfl⟩, .inl rfl⟩, k⟩⟩
section
variable {U : Env1} {m qual : Str} {st : Stmt} {S : Scp} {ps : List Str} {n : Nat} {f C : Addr} {fd : FuncData}
theorem fn_okM {c : Ct} (F : DefAt U.K m qual st f fd) (so : S.Ok) (sc : S.sc = defScope st) (fs : FnScope S.N ps (defScope st)) (hn : ps.length = n) (hN : n ≤ S.N.length) (len : ∀ ds P E, c ds P E → ds.length = n)
    (body : ∀ (G H : Hp) ds P E, c ds P E → JSs S (U.cg G H fun _ => E) (defBody st) (startD S.N ds) { nx := fun _ => P .non, rt := P }) : FnOk U.P U.w U.K U.mg U.base (L2N.CX U.P U.w) (S.lv + 1) f fd ps (spC U.K c) := by
  refine F.fn.ok fs (fun vs H Q E h => ?_) (fun cdv A outer s H vs Q E hr h => ?_)
  · obtain ⟨G, ds, _, _, r, h⟩ := h
    rw [r.length, len _ _ _ h, hn]
  · obtain ⟨G, ds, e, tb, r, h⟩ := h
    have hl := len _ _ _ h
    refine ⟨_, wSs_pss, (body G H ds _ _ h).run _ ⟨so, rfl, rfl, rfl, rfl, rfl, rfl, sc.symm, fun _ => rfl, fun _ => hr, L2H.roomH_of hr, (fun _ z => by cases z), fun _ _ => .inl rfl, fun _ => ⟨rfl, rfl, rfl, passes_of rfl⟩, ?_, tb, (fun _ _ _ z => by cases z)⟩ _ G H _ (.refl e) (EnvOk.start r _ (by omega)) ⟨?_, ?_, ?_, ?_, fun _ _ _ _ _ _ _ _ _ q => q.elim⟩⟩
    · refine L2N.Takes.imp (L2N.takes_of rfl rfl rfl rfl) ?_
      rintro cls d σ' H' ⟨G', δ', ns, es, s', ev', x', q⟩
      exact q d G' H' s' x'
    · exact fun σ' G' H' δ' s' _ _ q => q .non G' H' s' rep_non
    · exact fun _ _ _ _ _ _ _ q => q.elim
    · exact fun _ _ _ _ _ _ _ q => q.elim
    · exact fun v G' H' d s' r' q => q v G' H' s' r'
theorem meth_ok {c : Ct} (F : DefAt U.K m qual st f fd) (hM : Meth U.K C m f) (so : S.Ok) (sc : S.sc = defScope st) (fs : FnScope S.N ps (defScope st)) (hn : ps.length = n) (hN : n ≤ S.N.length) (hb : Binds U.K fd ps []) (len : ∀ ds P E, c ds P E → ds.length = n)
    (mono : ∀ ds (P P' : D → Prop) (E E' : Value → List Str → List D → Prop), (∀ d, P d → P' d) → (∀ v ns es, E v ns es → E' v ns es) → c ds P E → c ds P' E')
    (body : ∀ (G H : Hp) ds P E, c ds P E → JSs S (U.cg G H fun _ => E) (defBody st) (startD S.N ds) { nx := fun _ => P .non, rt := P }) : MethOk U.P U.w U.K U.mg U.base C m (S.lv + 1) c :=
  ⟨mono, f, fd, ps, fn_okM F so sc fs hn hN len body, hM, hb⟩
theorem prop_ok {c : Ct} {p : Addr} (F : DefAt U.K m qual st f fd) (hM : PropOf U.K C m p f) (so : S.Ok) (sc : S.sc = defScope st) (fs : FnScope S.N ps (defScope st)) (hn : ps.length = n) (hN : n ≤ S.N.length) (hb : Binds U.K fd ps []) (len : ∀ ds P E, c ds P E → ds.length = n)
    (mono : ∀ ds (P P' : D → Prop) (E E' : Value → List Str → List D → Prop), (∀ d, P d → P' d) → (∀ v ns es, E v ns es → E' v ns es) → c ds P E → c ds P' E')
    (body : ∀ (G H : Hp) ds P E, c ds P E → JSs S (U.cg G H fun _ => E) (defBody st) (startD S.N ds) { nx := fun _ => P .non, rt := P }) : PropOk U.P U.w U.K U.mg U.base C m (S.lv + 1) c :=
  ⟨mono, p, f, fd, ps, fn_okM F so sc fs hn hN len body, hM, hb⟩
/-- the frame of __init__ at its start -/
def startI (C p : Addr) (N : List Str) (ds : List D) : List Sl := .ob C p [] [] :: (ds.map Sl.fz ++ List.replicate (N.length - (ds.length + 1)) Sl.no)
theorem EnvOk.startI {KK : PySem.W.Frag} {G H0 : Hp} {C x dx : Addr} {ds : List D} {vs : List V} (e : Same G H0) (hx : H0 x = none) (r : RepL KK G H0 ds vs) (N : List Str) (hN : ds.length + 1 ≤ N.length) :
    EnvOk KK G (upd H0 x (.ins C dx [])) H0 (L2.start N (.ref x :: vs)) (Z.startI C x N ds) := by
  have gx : G x = none := e.free hx
  have mo : Mo KK G H0 G (upd H0 x (.ins C dx [])) := (Stp.newM (K := KK) e hx).mo
  have t : EnvOk KK G (upd H0 x (.ins C dx [])) H0 (L2.start (N.drop 1) vs) (startD (N.drop 1) ds) := EnvOk.start (r.mo mo) _ (by simp; omega)
  have e1 : L2.start N (.ref x :: vs) = some (.ref x) :: L2.start (N.drop 1) vs := by
    unfold L2.start
    rw [List.map_cons, List.cons_append, List.length_drop, List.length_cons, show N.length - (vs.length + 1) = N.length - 1 - vs.length by omega]
  have e2 : Z.startI C x N ds = .ob C x [] [] :: startD (N.drop 1) ds := by
    unfold Z.startI startD
    rw [List.length_drop, show N.length - (ds.length + 1) = N.length - 1 - ds.length by omega]
  rw [e1, e2]
  obtain ⟨F, f, dj⟩ := t.fp
  refine ⟨by rw [List.length_cons, List.length_cons, t.len], fun i => match i with | 0 => [x] | i + 1 => [], fun i => ?_, fun i j n a ha => ?_⟩
  · cases i with
    | zero => exact ⟨dx, [], rfl, rfl, upd_same, gx, hx, rfl, .nil⟩
    | succ i =>
      have q := f i
      show SlF KK G _ H0 (((startD (N.drop 1) ds)[i]?).getD .no) (L2.start (N.drop 1) vs)[i]? []
      have w : ∀ s, s ∈ startD (N.drop 1) ds → s = .no ∨ ∃ d, s = .fz d := by
        intro s hs
        rcases List.mem_append.mp hs with z | z
        · obtain ⟨d, _, z⟩ := List.mem_map.mp z
          exact .inr ⟨d, z.symm⟩
        · exact .inl (List.eq_of_mem_replicate z)
      cases e : (startD (N.drop 1) ds)[i]? with
      | none => rfl
      | some s =>
        rw [e] at q
        rcases w s (List.mem_of_getElem? e) with z | ⟨d, z⟩
        · subst z; rfl
        · subst z; exact ⟨rfl, q.2⟩
  · cases i with
    | zero =>
      cases j with
      | zero => exact absurd rfl n
      | succ j => exact fun z => by cases z
    | succ i => cases ha
theorem make_ok {x : Str} {c : CtI} (F : DefAt U.K m qual st f fd) (hM : Mk U.K C f) (hg : U.mg x = some (.ref C)) (so : S.Ok) (sc : S.sc = defScope st) (fs : FnScope S.N ps (defScope st)) (hn : ps.length = n + 1) (hN : n + 1 ≤ S.N.length) (hb : Binds U.K fd ps []) (len : ∀ ds P E, c ds P E → ds.length = n)
    (mono : ∀ ds (P P' : List Str → List D → Prop) (E E' : Value → List Str → List D → Prop), (∀ ns es, P ns es → P' ns es) → (∀ v ns es, E v ns es → E' v ns es) → c ds P E → c ds P' E')
    (body : ∀ (G H : Hp) p ds P E, c ds P E → JSs S (U.cg G H fun _ => E) (defBody st) (startI C p S.N ds) { nx := fun δ' => ∃ ns es r, δ' = .ob C p ns es :: r ∧ P ns es, rt := fun _ => False }) : MakeOk U.P U.w U.K U.mg U.base x C (S.lv + 1) c := by
  refine ⟨mono, f, fd, ps, ?_, hM, hg, hb⟩
  refine F.fn.ok fs (fun vs H Q E h => ?_) (fun cdv A outer s H vs Q E hr h => ?_)
  · obtain ⟨G, H0, ds, y, dx, us, rfl, _, _, _, _, r, h⟩ := h
    rw [List.length_cons, r.length, len _ _ _ h, hn]
  · obtain ⟨G, H0, ds, y, dx, us, rfl, rfl, hy, e, tb, r, h⟩ := h
    have hl := len _ _ _ h
    have st0 : Stp U.K G H0 G (upd H0 y (.ins C dx [])) := .newM e hy
    refine ⟨_, wSs_pss, (body G H0 y ds _ _ h).run _ ⟨so, rfl, rfl, rfl, rfl, rfl, rfl, sc.symm, fun _ => rfl, fun _ => hr, L2H.roomH_of hr, (fun _ z => by cases z), fun _ _ => .inl rfl, fun _ => ⟨rfl, rfl, rfl, passes_of rfl⟩, ?_, tb, (fun _ _ _ z => by cases z)⟩ _ G _ _ st0 (EnvOk.startI e hy r _ (by omega)) ⟨?_, ?_, ?_, ?_, fun _ _ _ _ _ _ _ _ _ q => q.elim⟩⟩
    · refine L2N.Takes.imp (L2N.takes_of rfl rfl rfl rfl) ?_
      rintro cls d σ' H' ⟨G', δ', ns, es, s', ev', x', q⟩
      exact q d G' H' s' x'
    · rintro σ' G' H' δ' s' _ ev ⟨ns, es, r', rfl, q⟩
      obtain ⟨dx', fs', ep, hp, g, h0, hn', rr⟩ := ev.at_ 0 _ rfl
      exact q G' H' dx' fs' s' g hp hn' rr
    · exact fun _ _ _ _ _ _ _ q => q.elim
    · exact fun _ _ _ _ _ _ _ q => q.elim
    · exact fun v G' H' d s' r' q => q.elim
end
end Z
set_option Elab.async false
set_option linter.all false
set_option maxRecDepth 100000
set_option maxHeartbeats 4000000
/-! Z16: slices of tuples. -/
namespace Z
open PySem L2
variable [tabsI : TabsT]
section
variable {S : Scp} {Γ : Cg} {δ : List Sl} {P : D → Prop} {e : Expr} {pos : Pos}
theorem zb_tuple {p : Pos} {es : List Expr} (hg : HasG S.gl "tuple") (hm : Γ.mg "tuple" = none) (h : JA S Γ (e :: es) δ fun ds => CallD S Γ (.type "tuple") ds P) (he : ∀ env, starEach (e :: es) env = (false, eval e env) :: starEach es env := by intro _; rfl) (hpl : ∀ env, (backTo pos (starEach es env)).any (·.1) = false := by intro _; rfl) :
    JE S Γ (.Call (.Name "tuple" p) (e :: es) [] pos) δ P := je_callTy hg.mem hm cb_tuple h (by decide) (by decide) he hpl
theorem flat_int {is : List Int} : flatL (is.map D.int) := by
  induction is with
  | nil => exact trivial
  | cons i is ih => exact ⟨trivial, ih⟩
theorem flat_tup {is : List Int} : flatD (.tup (is.map D.int)) := by unfold flatD; exact flat_int
end
end Z
set_option Elab.async false
set_option linter.all false
set_option maxRecDepth 100000
set_option maxHeartbeats 4000000
/-! Z17: enumerate over a tuple. -/
namespace Z
open PySem L2
variable [tabsI : TabsT]
theorem drawsT {prog : Program} {w : World} {A : Around} (hh : A.handled = none) {it t : Addr} {items : Array Value} (hne : t ≠ it) :
    Draws prog w A it [it, t] items.size (fun i v => items[i]? = some v) (fun i h => h.IsTupleIter it t i ∧ h.IsTuple t items) where
  live := fun i h q => by
    obtain ⟨⟨o, ho, _⟩, _⟩ := q
    exact ⟨o, ho⟩
  frame := fun i h h' q k => ⟨q.1.at fun o z => k it (by simp) o z, q.2.at fun o z => k t (by simp) o z⟩
  item := fun i s Q E hi q hQ => by
    have e : items[i]? = some items[i] := by simp [hi]
    exact RZ.nextOf_tuple_item q.1 q.2 e fun h' a' sb => hQ _ h' s.toks e ⟨a', q.2.at fun o z => (sb.2 t hne).trans z⟩ sb
  done := fun s Q E q hQ => RZ.nextOf_tuple_end hh q.1 q.2 (by simp) fun h' e eb x => hQ h' e eb x
set_option maxHeartbeats 8000000 in
theorem meets_enumT (l : Addr) (items : Array Value) (n : Nat) (dct : Option Addr) (sl : Array (Option Value)) :
    Meets (Builtin.«enumerate.__new__» ⟨[.type "enumerate", .ref l], []⟩) (fun _ R s => s.heap.get? l = some { cls := .type "tuple", dict := dct, data := .seq items n, slots := sl } ∧
      R (.ok (.ret (.ref (s.heap.push { cls := .type "tuple_iterator", data := .fields #[.ref l, .int 0 0] }).objs.size)))
        { s with heap := (s.heap.push { cls := .type "tuple_iterator", data := .fields #[.ref l, .int 0 0] }).push { cls := .type "enumerate", data := .fields #[.none, .bool false, .ref s.heap.objs.size, rawInt 0, .none, .none] } }) :=
  .of_wp fun prog w A R s h => by
    obtain ⟨hp, g, d, tk, os⟩ := s
    obtain ⟨hl, h⟩ := h
    have hsub := sub_enumerate
    have hT : Heap.IsTuple (Shared.heap ⟨hp, g, d, tk, os⟩) l items := ⟨_, hl, rfl, n, rfl⟩
    wp_walk using AutoSeq1.wpAny_loadPart' hl
    refine wpAny_stack_any fun st => wpAny_pure ?_
    split
    · rename_i c _ _ _ _ _
      cases (c == Value.type "enumerate")
      · wp_walk using AutoSeq1.wpAny_loadPart' hl, wpAny_pyIter_tuple hT
        exact ⟨_, rfl, h⟩
      · wp_walk using AutoSeq1.wpAny_loadPart' hl, wpAny_pyIter_tuple hT
        exact ⟨_, rfl, h⟩
    · wp_walk using AutoSeq1.wpAny_loadPart' hl, wpAny_pyIter_tuple hT
      exact ⟨_, rfl, h⟩
theorem call_enumT {prog : Program} {w : World} {A : Around} {E : Value → Shared → Prop} {s : Shared} {l : Addr} {items : Array Value} {Q : Value → Shared → Prop} (hL : s.heap.IsTuple l items)
    (h : ∀ h', IsEnum h' (s.heap.objs.size + 1) s.heap.objs.size 0 .none → h'.IsTupleIter s.heap.objs.size l 0 → (∀ b o, s.heap.get? b = some o → h'.get? b = some o) → Q (.ref (s.heap.objs.size + 1)) { s with heap := h' }) :
    wpAny (model prog w) A (call (.type "enumerate") [.ref l]) Q E s := by
  obtain ⟨⟨c, dct, dt, sl⟩, hl, hc, n, hd⟩ := hL
  replace hc : c = .type "tuple" := hc
  replace hd : dt = .seq items n := hd
  subst hc hd
  refine callType_new F.called_enumerate (by decide) (F.typeCall_enumerate_1 _) (F.newCall_enumerate_1 _) (fun obj => F.args_object_init_2 obj _) F.entry_enumerate_new
    (meets_enumT l items n dct sl) ⟨hl, ?_⟩
  have z1 : (s.heap.push { cls := .type "tuple_iterator", data := .fields #[.ref l, .int 0 0] }).objs.size = s.heap.objs.size + 1 := Heap.size_push ..
  show _ ∧ _
  rw [z1]
  have he : IsEnum ((s.heap.push { cls := .type "tuple_iterator", data := .fields #[.ref l, .int 0 0] }).push
      { cls := .type "enumerate", data := .fields #[.none, .bool false, .ref s.heap.objs.size, rawInt 0, .none, .none] }) (s.heap.objs.size + 1) s.heap.objs.size 0 .none := by
    have z2 := Heap.get?_push_size (s.heap.push { cls := .type "tuple_iterator", data := .fields #[.ref l, .int 0 0] })
      (o := { cls := .type "enumerate", data := .fields #[.none, .bool false, .ref s.heap.objs.size, rawInt 0, .none, .none] }) rfl
    rw [z1] at z2
    exact z2
  refine ⟨⟨_, he, rfl⟩, h _ he ⟨_, Heap.get?_push_of_some _ (Heap.get?_push_size _ rfl), rfl, rfl⟩ fun b o x => Heap.get?_push_of_some _ (Heap.get?_push_of_some _ x)⟩
/-- the tuple at a as it stands at each turn, each item in a new pair -/
def ItET (K : PySem.W.Frag) (a : Addr) : It :=
  ⟨fun i H => ∃ (xs : List V) (x : V), SqT K H a xs ∧ xs[i]? = some x, fun i H v H' => ∃ T x, v = .ref T ∧ H T = none ∧ H' = upd H T (.tup [.int (i : Nat), x]) ∧ ∀ xs, SqT K H a xs → xs[i]? = some x, fun i H => ∃ xs : List V, SqT K H a xs ∧ xs.length ≤ i⟩
theorem turn_enumT {P : Program} {w : World} {K : PySem.W.Frag} {elts : List Expr} {kk : Nat} {tpos : Pos} (a e it : Addr) (hae : a ≠ e) (hai : a ≠ it) (hne : e ≠ it) :
    Turn P w K (.Tuple elts kk tpos) (ItET K a) [e, it] e (fun i h => (∃ old, IsEnum h e it ((i : Nat) : Int) old) ∧ h.IsTupleIter it a i) where
  mem := by simp
  obj := fun i h st b hb => by
    obtain ⟨⟨old, he⟩, ⟨o, ho, hc, hd⟩⟩ := st
    rcases (show b = e ∨ b = it by simpa using hb) with z | z
    · rw [z]; exact ⟨_, he, fun v q => nomatch q⟩
    · rw [z]; exact ⟨o, ho, fun v q => by rw [hd] at q; cases q⟩
  keep := fun i h h' st k => by
    obtain ⟨⟨old, he⟩, hi⟩ := st
    exact ⟨⟨old, k e (by simp) _ he⟩, hi.at fun o q => k it (by simp) o q⟩
  item := by
    intro X hP hw hK hc i pins s σ H E I hf st hg
    subst hP hw hK
    obtain ⟨⟨old, he⟩, hit⟩ := st
    obtain ⟨xs, x, hq, hx⟩ := hg
    obtain ⟨its, rv, p, hz⟩ := I.tuple hq
    obtain ⟨u, hu, ru⟩ := rv.get hx
    have p' : s.heap.IsTuple a its.toArray := p
    have hel : e < s.heap.objs.size := Heap.lt_size he
    have hil : it < s.heap.objs.size := by obtain ⟨_, q, _⟩ := hit; exact Heap.lt_size q
    have hlt : i < its.toArray.size := by
      have := (List.getElem?_eq_some_iff.mp hu).1
      simpa using this
    refine wpAny_pyNext_enum_itemD (drawsT (prog := X.prog) (w := X.w) (A := X.A.in1) (items := its.toArray) (show X.A.in1.handled = none from I.ok.hd hc) hai) he ⟨hit, p'⟩ hlt hne (by simp [hne, Ne.symm hae]) fun x' h' tk hPx ho hst' hT hsz hk => ?_
    have ex : x' = u := by
      have : its.toArray[i]? = some u := by simpa using hu
      rw [this] at hPx
      exact (Option.some.inj hPx).symm
    subst ex
    refine ⟨_, rfl, wpAny_letOwnedTupleGo_enum (s := { s with heap := h', toks := tk + 1 }) ho fun h'' he' sb => ?_⟩
    have hT2 : h''.get? s.heap.objs.size = some { cls := .type "tuple", data := .seq #[.int i tk, x'] } := (sb.2 _ (Nat.ne_of_gt hel)).trans hT
    have new : ObjOk X.prog X.w (upd H s.heap.objs.size (.tup [.int (i : Nat), x])) h'' s.heap.objs.size (.tup [.int (i : Nat), x]) :=
      ⟨by show 2 ≤ sizeLine; decide, [.int i tk, x'], .cons ⟨_, rfl⟩ (.cons ru .nil), ⟨_, hT2, rfl, _, rfl⟩⟩
    have I1 : Inv X pins σ (upd H s.heap.objs.size (.tup [.int (i : Nat), x])) { s with heap := h'', toks := tk + 1 } :=
      I.turnedNew (ch := [e, it]) (fun b ob hb q => (sb.2 b (fun z => hb (by simp [z]))).trans (hk b ob (fun z => hb (by simp [z])) (fun z => hb (by simp [z])) q)) hf (Nat.le_refl _) new
    refine ⟨.ref s.heap.objs.size, _, I1, rfl, ⟨_, x, rfl, I.hok.fresh (Nat.le_refl _), rfl, fun ys hy => by rw [I.tuple_inj hy hq]; exact hx⟩, ⟨⟨x', ?_⟩, hst'.1.at fun o q => (sb.2 it (Ne.symm hne)).trans q⟩, fun b hb => ?_⟩
    · rw [show ((i + 1 : Nat) : Int) = (i : Int) + 1 by omega]
      exact he'
    · have hb' : b < s.heap.objs.size := by
        rcases (show b = e ∨ b = it by simpa using hb) with z | z
        · rw [z]; exact hel
        · rw [z]; exact hil
      rw [upd_ne (Nat.ne_of_lt hb')]
      exact (hf b hb).1
  done := by
    intro X hP hw hK hc i pins s σ H E I hf st hg
    subst hP hw hK
    obtain ⟨⟨old, he⟩, hit⟩ := st
    obtain ⟨xs, hq, hx⟩ := hg
    obtain ⟨its, rv, p, hz⟩ := I.tuple hq
    obtain ⟨f0, f1, f2, f3, f4, f5⟩ := hf it (by simp)
    have hl := rv.length
    have p' : s.heap.IsTuple a its.toArray := p
    have hT : s.TypeIs (.ref e) "enumerate" := ⟨_, he, rfl⟩
    unfold pyNext
    refine wpAny_bind (wpAny_attempt (wpAny_callSpecial?_slot (name := Str.ofString "__next__") hT F.slot_enumerate_next
      (wpAny_call_entry F.slot_enumerate_next hT F.entry_enumerate_next ?_ (F.args_enumerate_next_1 _))))
    show wpAny _ _ (field (.ref e) 2 >>= _) _ _ _
    refine wpAny_bind (wpAny_field he rfl (x := .ref it) rfl ?_)
    refine wpAny_bind (RZ.nextOf_tuple_end (I.ok.hd hc) hit p' (by simp; omega) fun h' x he' hx' => ?_)
    obtain ⟨o, ho, hcl⟩ := hx'
    refine wpAny_bind (wpAny_isInstance (T := "StopIteration") (b := true) ⟨o, ho, hcl⟩ isSubtype_stop ?_)
    exact wpAny_pure ⟨rfl, I.turned (t' := s.toks) (fun b o hb q => he' b o hb q) f0 f1 f3 f4 f5⟩
  self := fun A i s Q E st h => by
    obtain ⟨⟨_, he⟩, _⟩ := st
    exact wpAny_pyIter_enum he h
def iEnumT (K : PySem.W.Frag) (ta : TA) : TI := fun σ H R => ta σ H fun vs H1 => ∃ a xs, vs = [.ref a] ∧ SqT K H1 a xs ∧ R (ItET K a) H1
section
variable {S : Scp} {Γ : Cg} {δ : List Sl} {a : Expr} {pos : Pos} {PI' : Nat → (Nat → D) → Prop}
end
end Z
set_option Elab.async false
set_option linter.all false
set_option maxRecDepth 100000
set_option maxHeartbeats 4000000
/-! Z18: comprehensions of two clauses. -/
namespace Z
open PySem L2
variable [tabsI : TabsT]
/-- what stands still of a frame's slots -/
def dropOw (δ : List Sl) : List Sl := δ.map fun s => match s with | .fz d => .fz d | _ => .no
theorem EnvOk.dropMo {K : PySem.W.Frag} {G H G' H' H0 : Hp} {σ : St} {δ : List Sl} (h : EnvOk K G H H0 σ δ) (m : Mo K G H G' H') : EnvOk K G' H' H0 σ (dropOw δ) := by
  obtain ⟨F, f, dj⟩ := h.fp
  refine ⟨by simp [dropOw, h.len], fun _ => [], fun i => ?_, fun _ _ _ a ha => by cases ha⟩
  have w := f i
  unfold dropOw
  rw [List.getElem?_map]
  cases q : δ[i]? with
  | none => rfl
  | some s0 =>
    rw [q] at w
    cases s0 with
    | fz d =>
      obtain ⟨_, v, e1, r⟩ := w
      exact ⟨rfl, v, e1, r.mo m⟩
    | no => rfl
    | ow _ => rfl
    | ob _ _ _ _ => rfl
    | mt _ _ => rfl
    | dc _ _ => rfl
section
variable {S : Scp} {Γ : Cg} {δ : List Sl} {P : D → Prop} {PL : List D → Prop} {tg tg1 : Expr} {pos : Pos}
theorem lc2_t {S' : Scp} {elt iter iter1 : Expr} {ifs ifs1 : List Expr} {scope : Scope} {own : List (Str × Nat)} (vs1 : List Nat) (B : BlkS S S' scope own)
    (h : JI S Γ tg iter δ fun n f => ∃ A : Nat → List D → Prop, A 0 [] ∧ (∀ i acc, i < n → A i acc → JGW S' Γ.inBlk (own.map (·.2)) tg (f i) (wipeD δ (own.map (·.2))) fun δ2 => JTs S' Γ.inBlk ifs δ2 fun t => if t = true then
      JI S' Γ.inBlk tg1 iter1 δ2 fun n1 f1 => ∃ A1 : Nat → List D → Prop, A1 0 acc ∧ (∀ j acc1, j < n1 → A1 j acc1 → JGW S' Γ.inBlk vs1 tg1 (f1 j) (wipeD (dropOw δ2) vs1) fun δ3 => JTs S' Γ.inBlk ifs1 δ3 fun t => if t = true then JE S' Γ.inBlk elt δ3 fun d => acc1.length < sizeLine ∧ A1 (j + 1) (acc1 ++ [d]) else A1 (j + 1) acc1) ∧ ∀ acc1, A1 n1 acc1 → A (i + 1) acc1
      else A (i + 1) acc) ∧ ∀ acc, A n acc → PL acc)
    {X : Cx} (hX : COk S Γ X) {σ : L2.St} {G H : Hp} (s : Stp Γ.K Γ.G0 Γ.H0 G H) (ev : EnvOk Γ.K G H Γ.H0 σ δ) {Q : VK} (k : ∀ p vs G' H' ds, Stp Γ.K G H G' H' → H p = none → G' p = none → H' p = some (.lst vs) → RepL Γ.K G' H' ds vs → PL ds → Q (.ref p) H') :
    tLc2 (wI X tg iter) (fun v σ H Q => ∀ s H0 C cl fp, wG (X.blk s H0 scope (compEnvC scope cl C X.env) fp) tg v σ H Q) (fun σ H Q => ∀ s H0 C cl fp, wTs (X.blk s H0 scope (compEnvC scope cl C X.env) fp) ifs σ H Q)
      (fun σ H R => ∀ s H0 C cl fp, wI (X.blk s H0 scope (compEnvC scope cl C X.env) fp) tg1 iter1 σ H R) (fun v σ H Q => ∀ s H0 C cl fp, wG (X.blk s H0 scope (compEnvC scope cl C X.env) fp) tg1 v σ H Q) (fun σ H Q => ∀ s H0 C cl fp, wTs (X.blk s H0 scope (compEnvC scope cl C X.env) fp) ifs1 σ H Q)
      (fun σ H Q => ∀ s H0 C cl fp, wE (X.blk s H0 scope (compEnvC scope cl C X.env) fp) elt σ H Q) (own.map (·.2)) vs1 σ H Q := by
  refine h.run X hX σ G H s ev _ fun J G1 H1 n f s1 it q => ?_
  obtain ⟨A, a0, turn, fin⟩ := q
  intro p hp
  have g1 : G1 p = none := s1.sub.free hp
  have h0 : H p = none := s1.free hp
  refine ⟨fun i m H' => m = n - i ∧ i ≤ n ∧ ∃ G' acc ds, Stp Γ.K G1 H1 G' H' ∧ G' p = none ∧ H' p = some (.lst acc) ∧ RepL Γ.K G' H' ds acc ∧ A i ds, ⟨n, by simp, Nat.zero_le _, G1, [], [], .newM s1.sub hp, g1, upd_same, .nil, a0⟩, ?_⟩
  rintro i m H' ⟨rfl, hi, G', acc, ds, s', g', hp', r', ai⟩
  have st' := (s.trans s1).trans s'
  by_cases hlt : i < n
  · refine .inr ⟨it.go i G' H' s'.sub s'.mo hlt, fun H2 => ∃ G2 acc2 ds2, Stp Γ.K G1 H1 G2 H2 ∧ G2 p = none ∧ H2 p = some (.lst acc2) ∧ RepL Γ.K G2 H2 ds2 acc2 ∧ A (i + 1) ds2, fun H2 h2 => ⟨n - (i + 1), by omega, rfl, hlt, h2⟩, fun x H2 y => ?_⟩
    obtain ⟨G2, s2, rx⟩ := it.yld i G' H' x H2 s'.sub s'.mo hlt (st'.tab hX.tb) y
    intro s0 H0 C cl fp
    refine (turn i ds hlt ai).run _ (COk.blk B hX s0 H0 C cl fp) x _ G2 H2 (st'.trans s2) ((((ev.mono s1).mono s').mono s2).wipe _) rx _ fun σ3 G3 H3 δ3 w3 s3 ev3 q3 => ?_
    refine ⟨?_, ?_⟩
    · rw [w3]
      exact wipe_wipe fun _ z => z
    intro s0 H0 C cl fp pins s00 I
    refine q3.run _ (COk.blk B hX s0 H0 C cl fp) σ3 G3 H3 ((st'.trans s2).trans s3) ev3 pins s00 I _ fun t G4 H4 s4 q4 => ?_
    have s24 := (s2.trans s3).trans s4
    have own4 := s24.own p _ hp' g'
    have hp4 : H4 p = some (.lst acc) := own4.2.elim id fun z => z.1.elim
    cases t with
    | false => exact L2.iteF ⟨G4, acc, ds, s'.trans s24, own4.1, hp4, r'.mono s24, q4⟩
    | true =>
      refine L2.iteT ?_
      have ev4 := ev3.mono s4
      intro s0 H0 C cl fp
      refine (show JI _ _ _ _ _ _ from q4).run _ (COk.blk B hX s0 H0 C cl fp) σ3 G4 H4 (st'.trans s24) ev4 _ fun J1 G5 H5 n1 f1 s5 it1 q5 => ?_
      obtain ⟨A1, b0, turn1, fin1⟩ := q5
      have own5 := s5.own p _ hp4 own4.1
      have hp5 : H5 p = some (.lst acc) := own5.2.elim id fun z => z.1.elim
      have sA : Stp Γ.K G1 H1 G5 H5 := (s'.trans s24).trans s5
      refine ⟨fun j m H' => m = n1 - j ∧ j ≤ n1 ∧ ∃ G' acc ds, Stp Γ.K G1 H1 G' H' ∧ Mo Γ.K G5 H5 G' H' ∧ G' p = none ∧ H' p = some (.lst acc) ∧ RepL Γ.K G' H' ds acc ∧ A1 j ds, ⟨n1, by simp, Nat.zero_le _, G5, acc, ds, sA, .refl, own5.1, hp5, (r'.mono s24).mono s5, b0⟩, ?_⟩
      rintro j m H6 ⟨rfl, hj, G6, acc6, ds6, s6, m6, g6, hp6, r6, a6⟩
      by_cases hjl : j < n1
      · refine .inr ⟨it1.go j G6 H6 s6.sub m6 hjl, fun H2 => ∃ G2 acc2 ds2, Stp Γ.K G1 H1 G2 H2 ∧ Mo Γ.K G5 H5 G2 H2 ∧ G2 p = none ∧ H2 p = some (.lst acc2) ∧ RepL Γ.K G2 H2 ds2 acc2 ∧ A1 (j + 1) ds2, fun H2 h2 => ⟨n1 - (j + 1), by omega, rfl, hjl, h2⟩, fun x7 H7 y7 => ?_⟩
        obtain ⟨G7, s7, rx7⟩ := it1.yld j G6 H6 x7 H7 s6.sub m6 hjl (((s.trans s1).trans s6).tab hX.tb) y7
        have ev7 : EnvOk Γ.K G7 H7 Γ.H0 σ3 (dropOw δ3) := ev4.dropMo (s5.mo.trans (m6.trans s7.mo))
        intro s0 H0 C cl fp
        refine (turn1 j ds6 hjl a6).run _ (COk.blk B hX s0 H0 C cl fp) x7 _ G7 H7 (((s.trans s1).trans s6).trans s7) (ev7.wipe _) rx7 _ fun σ8 G8 H8 δ8 w8 s8 ev8 q8 => ?_
        refine ⟨?_, ?_⟩
        · rw [w8]
          exact wipe_wipe fun _ z => z
        intro s0 H0 C cl fp pins s01 I1
        refine q8.run _ (COk.blk B hX s0 H0 C cl fp) σ8 G8 H8 ((((s.trans s1).trans s6).trans s7).trans s8) ev8 pins s01 I1 _ fun t G9 H9 s9 q9 => ?_
        have s79 := (s7.trans s8).trans s9
        have own9 := s79.own p _ hp6 g6
        have hp9 : H9 p = some (.lst acc6) := own9.2.elim id fun z => z.1.elim
        cases t with
        | false => exact L2.iteF ⟨G9, acc6, ds6, s6.trans s79, m6.trans s79.mo, own9.1, hp9, r6.mono s79, q9⟩
        | true =>
          refine L2.iteT ?_
          intro s0 H0 C cl fp
          refine (show JE _ _ _ _ _ from q9).run _ (COk.blk B hX s0 H0 C cl fp) σ8 G9 H9 (((s.trans s1).trans s6).trans s79) (ev8.mono s9) _ fun y5 Ga Ha d5 sa r5 qa => ?_
          have owna := sa.own p _ hp9 own9.1
          have hpa : Ha p = some (.lst acc6) := owna.2.elim id fun z => z.1.elim
          have rr := (r6.mono s79).mono sa
          refine ⟨acc6, hpa, by rw [r6.length]; exact qa.1, Ga, acc6 ++ [y5], ds6 ++ [d5], ((s6.trans s79).trans sa).write (o := .lst acc6) owna.1 hp, ((m6.trans s79.mo).trans sa.mo).trans (.write hpa), owna.1, upd_same, ?_, qa.2⟩
          exact (rr.append (.one r5)).mo (.write hpa)
      · have e : j = n1 := by omega
        subst e
        exact .inl ⟨it1.stop G6 H6 s6.sub m6, G6, acc6, ds6, s6, g6, hp6, r6, fin1 ds6 a6⟩
  · have e : i = n := by omega
    subst e
    exact .inl ⟨it.stop G' H' s'.sub s'.mo, k p acc G' H' ds (s1.trans s') h0 g' hp' r' (fin ds ai)⟩
theorem jf_lc2 [Calm Γ] {S' : Scp} {elt iter iter1 : Expr} {ifs ifs1 : List Expr} {scope : Scope} {own : List (Str × Nat)} (vs1 : List Nat) (B : BlkS S S' scope own) (hv : (vs1.all fun i => (own.map (·.2)).contains i) = true)
    (h : JI S Γ tg iter δ fun n f => ∃ A : Nat → List D → Prop, A 0 [] ∧ (∀ i acc, i < n → A i acc → JGW S' Γ.inBlk (own.map (·.2)) tg (f i) (wipeD δ (own.map (·.2))) fun δ2 => JTs S' Γ.inBlk ifs δ2 fun t => if t = true then
      JI S' Γ.inBlk tg1 iter1 δ2 fun n1 f1 => ∃ A1 : Nat → List D → Prop, A1 0 acc ∧ (∀ j acc1, j < n1 → A1 j acc1 → JGW S' Γ.inBlk vs1 tg1 (f1 j) (wipeD (dropOw δ2) vs1) fun δ3 => JTs S' Γ.inBlk ifs1 δ3 fun t => if t = true then JE S' Γ.inBlk elt δ3 fun d => acc1.length < sizeLine ∧ A1 (j + 1) (acc1 ++ [d]) else A1 (j + 1) acc1) ∧ ∀ acc1, A1 n1 acc1 → A (i + 1) acc1
      else A (i + 1) acc) ∧ ∀ acc, A n acc → PL acc)
    (hs : ∀ env x, foldedSetIterable iter env x = pure x := by intros; rfl) (hs1 : ∀ env x, foldedSetIterable iter1 env x = pure x := by intros; rfl) : JF S Γ (.ListComp elt [⟨tg, iter, ifs, 0⟩, ⟨tg1, iter1, ifs1, 0⟩] scope pos) δ PL := by
  refine ⟨fun X hX σ G H s ev Q k => ?_⟩
  refine PEw (pe_lc2 (hX.calm Calm.hx) (by rw [hX.N]; exact hX.so.nd) (wI_pi (hX.calm Calm.hx)) (by rw [hX.N, hX.sc]; exact B.ok) (vs1 := vs1) ?_ ?_ ?_ ?_ ?_ ?_ ?_ (hs _) hs1) (lc2_t vs1 B h hX s ev k)
  · intro i hi
    have := List.all_eq_true.mp hv i hi
    simpa using this
  · exact fun s H C cl fp => ⟨fun pins s0 σ H0 v u Q I r q => q s H C cl fp pins s0 u I r⟩
  · exact fun s H C cl fp => ⟨fun pins s0 σ H0 Q I q => q s H C cl fp pins s0 I⟩
  · exact fun s H C cl fp => ⟨fun pins s0 σ H0 R I q => thn (q s H C cl fp pins s0 I) fun v s1 z => thn z fun u s2 y => y.1 (hX.calm Calm.hx)⟩
  · exact fun s H C cl fp => ⟨fun pins s0 σ H0 v u Q I r q => q s H C cl fp pins s0 u I r⟩
  · exact fun s H C cl fp => ⟨fun pins s0 σ H0 Q I q => q s H C cl fp pins s0 I⟩
  · exact fun s H C cl fp => ⟨fun pins s0 σ H0 Q I q => q s H C cl fp pins s0 I⟩
end
end Z
set_option Elab.async false
set_option linter.all false
set_option maxRecDepth 100000
set_option maxHeartbeats 4000000
/-! Z19: loops and comprehensions told by what is left (each..), by a function of the item (lc..). -/
namespace Z
open PySem L2
variable [tabsI : TabsT]
section
variable {S : Scp} {Γ : Cg} {δ : List Sl} {P Q : D → Prop} {PB PB' : Bool → Prop} {tg e : Expr} {ifs : List Expr} {vs : List Nat} {d : D}
theorem JE.imp (h : JE S Γ e δ P) (k : ∀ d, P d → Q d) : JE S Γ e δ Q := ⟨fun X hX σ G H s ev R r => h.run X hX σ G H s ev R fun v G' H' d s' rr p => r v G' H' d s' rr (k d p)⟩
theorem JTs.imp (h : JTs S Γ ifs δ PB) (k : ∀ b, PB b → PB' b) : JTs S Γ ifs δ PB' := ⟨fun X hX σ G H s ev pins s0 I R r => h.run X hX σ G H s ev pins s0 I R fun b G' H' s' p => r b G' H' s' (k b p)⟩
theorem JGW.imp {A B : List Sl → Prop} (h : JGW S Γ vs tg d δ A) (k : ∀ δ', A δ' → B δ') : JGW S Γ vs tg d δ B := ⟨fun X hX v σ G H s ev r R q => h.run X hX v σ G H s ev r R fun σ' G' H' δ' w s' ev' p => q σ' G' H' δ' w s' ev' (k δ' p)⟩
end
theorem atD_mapG {α : Type} {g : α → D} {xs : List α} {i : Nat} (h : i < xs.length) : atD (xs.map g) i = g xs[i] := by
  unfold atD
  rw [List.getElem?_map, List.getElem?_eq_getElem h]
  rfl
/-- the items of what is walked over: item i is g of the i-th of xs -/
structure Src {α : Type} (n : Nat) (f : Nat → D) (xs : List α) (g : α → D) : Prop where
  len : n = xs.length
  at_ : ∀ i (h : i < xs.length), f i = g xs[i]
section
variable {α : Type} {g : α → D} {xs : List α}
theorem src_map : Src (xs.map g).length (atD (xs.map g)) xs g := ⟨by simp, fun i h => atD_mapG h⟩
theorem src_ds {ds : List D} : Src ds.length (atD ds) ds id := ⟨rfl, fun i h => by unfold atD; rw [List.getElem?_eq_getElem h]; rfl⟩
theorem src_enum : Src (xs.map g).length (fun i => .tup [.int (i : Nat), atD (xs.map g) i]) xs.zipIdx fun x => .tup [.int (x.2 : Nat), g x.1] := ⟨by simp, fun i h => by
  have h' : i < xs.length := by simpa using h
  simp only [atD_mapG h', List.getElem_zipIdx, Nat.zero_add]⟩
theorem src_zip {β : Type} {g2 : β → D} {ys : List β} : Src (min (xs.map g).length (ys.map g2).length) (fun i => .tup [atD (xs.map g) i, atD (ys.map g2) i]) (xs.zip ys) fun x => .tup [g x.1, g2 x.2] := ⟨by simp, fun i h => by
  rw [List.length_zip] at h
  simp only [atD_mapG (show i < xs.length by omega), atD_mapG (show i < ys.length by omega), List.getElem_zip]⟩
theorem rgD_len {a b : Int} : (rgD a b).length = (b - a).toNat := by unfold rgD; simp
theorem rgD_get {a b : Int} {i : Nat} (h : i < (rgD a b).length) : (rgD a b)[i] = a + i := by
  have e : (rgD a b)[i]? = some (a + (i : Int)) := by
    have hl : i < (b - a).toNat := by rw [rgD_len] at h; exact h
    unfold rgD
    rw [List.getElem?_map, List.getElem?_range hl]
    rfl
  rw [List.getElem?_eq_getElem h] at e
  exact Option.some.inj e
theorem src_rg {a b : Int} : Src (b - a).toNat (fun i => .int (a + (i : Nat))) (rgD a b) D.int := ⟨rgD_len.symm, fun i h => by rw [rgD_get h]⟩
theorem src_rg1 {b : Int} : Src b.toNat (fun i => .int (0 + (i : Nat))) (rgD 0 b) D.int := ⟨by rw [rgD_len]; simp, fun i h => by rw [rgD_get h]⟩
end
section
variable {S S' : Scp} {Γ Γ' : Cg} {δ δ' : List Sl} {N B C : List Sl → Prop} {R : D → Prop} {PL : List D → Prop} {tg elt : Expr} {ifs : List Expr} {own : List Nat} {body : List Stmt} {α : Type} {xs : List α} {g : α → D} {n : Nat} {f : Nat → D}
/-- for: the invariant tells of what is left -/
theorem each (I : List α → List Sl → Prop) (sr : Src n f xs g) (h0 : I xs δ) (step : ∀ x rest δ', x ∈ xs → I (x :: rest) δ' → JG S Γ tg (g x) δ' fun δ2 => JSs S Γ body δ2 ⟨I rest, R, N, I rest⟩) (done : ∀ δ', I [] δ' → N δ') :
    ∃ I : Nat → List Sl → Prop, I 0 δ ∧ (∀ i, i < n → Turns S Γ tg body ⟨N, R, B, C⟩ I i (f i)) ∧ ∀ δ', I n δ' → N δ' := by
  refine ⟨fun i δ' => I (xs.drop i) δ', by simpa using h0, fun i hi => turns_of fun δ' h => ?_, fun δ' h => done δ' ?_⟩
  · rw [sr.len] at hi
    rw [sr.at_ i hi]
    have e : xs.drop i = xs[i] :: xs.drop (i + 1) := List.drop_eq_getElem_cons hi
    simp only [e] at h
    exact step _ _ δ' (List.getElem_mem _) h
  · have e : xs.drop n = [] := List.drop_eq_nil_of_le (by rw [sr.len]; exact Nat.le_refl _)
    simpa only [e] using h
/-- .. with what is done, too -/
theorem eachD (I : List α → List α → List Sl → Prop) (sr : Src n f xs g) (h0 : I [] xs δ) (step : ∀ d x rest δ', xs = d ++ x :: rest → I d (x :: rest) δ' → JG S Γ tg (g x) δ' fun δ2 => JSs S Γ body δ2 ⟨I (d ++ [x]) rest, R, N, I (d ++ [x]) rest⟩) (done : ∀ δ', I xs [] δ' → N δ') :
    ∃ I : Nat → List Sl → Prop, I 0 δ ∧ (∀ i, i < n → Turns S Γ tg body ⟨N, R, B, C⟩ I i (f i)) ∧ ∀ δ', I n δ' → N δ' := by
  refine ⟨fun i δ' => I (xs.take i) (xs.drop i) δ', by simpa using h0, fun i hi => turns_of fun δ' h => ?_, fun δ' h => done δ' ?_⟩
  · rw [sr.len] at hi
    rw [sr.at_ i hi]
    have e : xs.drop i = xs[i] :: xs.drop (i + 1) := List.drop_eq_getElem_cons hi
    have e2 : xs.take (i + 1) = xs.take i ++ [xs[i]] := by rw [List.take_add_one, List.getElem?_eq_getElem hi]; rfl
    simp only [e] at h
    simp only [e2]
    refine step _ _ _ δ' ?_ h
    rw [← e, List.take_append_drop]
  · have e : xs.drop n = [] := List.drop_eq_nil_of_le (by rw [sr.len]; exact Nat.le_refl _)
    have e2 : xs.take n = xs := List.take_of_length_le (by rw [sr.len]; exact Nat.le_refl _)
    simpa only [e, e2] using h
/-- a comprehension: item x gives F x (none: left out) -/
theorem lcF (F : α → Option D) (sr : Src n f xs g) (hl : xs.length ≤ 1000000)
    (step : ∀ x, x ∈ xs → JGW S' Γ' own tg (g x) δ' fun δ2 => JTs S' Γ' ifs δ2 fun t => if t = true then JE S' Γ' elt δ2 fun d => F x = some d else F x = none) (fin : PL (xs.filterMap F)) :
    ∃ A : Nat → List D → Prop, A 0 [] ∧ (∀ i acc, i < n → A i acc → JGW S' Γ' own tg (f i) δ' fun δ2 => JTs S' Γ' ifs δ2 fun t => if t = true then JE S' Γ' elt δ2 fun d => acc.length < sizeLine ∧ A (i + 1) (acc ++ [d]) else A (i + 1) acc) ∧ ∀ acc, A n acc → PL acc := by
  have hs : 1000000 < sizeLine := by decide
  refine ⟨fun i acc => acc = (xs.take i).filterMap F, by simp, fun i acc hi ha => ?_, fun acc ha => ?_⟩
  · rw [sr.len] at hi
    rw [sr.at_ i hi]
    have e2 : xs.take (i + 1) = xs.take i ++ [xs[i]] := by rw [List.take_add_one, List.getElem?_eq_getElem hi]; rfl
    refine (step _ (List.getElem_mem _)).imp fun δ2 h => h.imp fun b h => ?_
    cases b with
    | false =>
      have h : F xs[i] = none := by simpa using h
      refine L2.iteF ?_
      show acc = _
      rw [e2, List.filterMap_append, ha]
      simp [h]
    | true =>
      have h : JE S' Γ' elt δ2 fun d => F xs[i] = some d := by simpa using h
      refine L2.iteT (h.imp fun d hd => ⟨?_, ?_⟩)
      · have l1 := List.length_filterMap_le F (xs.take i)
        have l2 : (xs.take i).length ≤ xs.length := List.length_take_le' i xs
        rw [ha]
        omega
      · show acc ++ [d] = _
        rw [e2, List.filterMap_append, ha]
        simp [hd]
  · have e2 : xs.take n = xs := List.take_of_length_le (by rw [sr.len]; exact Nat.le_refl _)
    simp only [e2] at ha
    rw [ha]
    exact fin
/-- no item left out -/
theorem lcM (F : α → D) (sr : Src n f xs g) (hl : xs.length ≤ 1000000) (step : ∀ x, x ∈ xs → JGW S' Γ' own tg (g x) δ' fun δ2 => JE S' Γ' elt δ2 fun d => d = F x) (fin : PL (xs.map F)) :
    ∃ A : Nat → List D → Prop, A 0 [] ∧ (∀ i acc, i < n → A i acc → JGW S' Γ' own tg (f i) δ' fun δ2 => JTs S' Γ' [] δ2 fun t => if t = true then JE S' Γ' elt δ2 fun d => acc.length < sizeLine ∧ A (i + 1) (acc ++ [d]) else A (i + 1) acc) ∧ ∀ acc, A n acc → PL acc :=
  lcF (fun x => some (F x)) sr hl (fun x hx => (step x hx).imp fun δ2 h => jts_nil (L2.iteT (h.imp fun d e => by rw [e]))) (by rw [show xs.filterMap (fun x => some (F x)) = xs.map F by simp]; exact fin)
/-- two clauses: the item x of the first gives the row F x -/
theorem lc2F {tg1 iter1 : Expr} {ifs1 : List Expr} {vs1 : List Nat} (F : α → List D) (sr : Src n f xs g) (hl : (xs.flatMap F).length ≤ 1000000)
    (step : ∀ x, x ∈ xs → ∀ (acc : List D) (k : List D → Prop), acc.length + (F x).length ≤ 1000000 → k (acc ++ F x) → JGW S' Γ' own tg (g x) δ' fun δ2 => JTs S' Γ' ifs δ2 fun t => if t = true then
      JI S' Γ' tg1 iter1 δ2 fun n1 f1 => ∃ A1 : Nat → List D → Prop, A1 0 acc ∧ (∀ j acc1, j < n1 → A1 j acc1 → JGW S' Γ' vs1 tg1 (f1 j) (wipeD (dropOw δ2) vs1) fun δ3 => JTs S' Γ' ifs1 δ3 fun t => if t = true then JE S' Γ' elt δ3 fun d => acc1.length < sizeLine ∧ A1 (j + 1) (acc1 ++ [d]) else A1 (j + 1) acc1) ∧ ∀ acc1, A1 n1 acc1 → k acc1
      else k acc) (fin : PL (xs.flatMap F)) :
    ∃ A : Nat → List D → Prop, A 0 [] ∧ (∀ i acc, i < n → A i acc → JGW S' Γ' own tg (f i) δ' fun δ2 => JTs S' Γ' ifs δ2 fun t => if t = true then
      JI S' Γ' tg1 iter1 δ2 fun n1 f1 => ∃ A1 : Nat → List D → Prop, A1 0 acc ∧ (∀ j acc1, j < n1 → A1 j acc1 → JGW S' Γ' vs1 tg1 (f1 j) (wipeD (dropOw δ2) vs1) fun δ3 => JTs S' Γ' ifs1 δ3 fun t => if t = true then JE S' Γ' elt δ3 fun d => acc1.length < sizeLine ∧ A1 (j + 1) (acc1 ++ [d]) else A1 (j + 1) acc1) ∧ ∀ acc1, A1 n1 acc1 → A (i + 1) acc1
      else A (i + 1) acc) ∧ ∀ acc, A n acc → PL acc := by
  refine ⟨fun i acc => acc = (xs.take i).flatMap F, by simp, fun i acc hi ha => ?_, fun acc ha => ?_⟩
  · rw [sr.len] at hi
    rw [sr.at_ i hi]
    have e2 : xs.take (i + 1) = xs.take i ++ [xs[i]] := by rw [List.take_add_one, List.getElem?_eq_getElem hi]; rfl
    have e3 : (xs.take (i + 1)).flatMap F = acc ++ F xs[i] := by rw [e2, List.flatMap_append, ha]; simp
    refine step _ (List.getElem_mem _) acc (fun acc => acc = (xs.take (i + 1)).flatMap F) ?_ e3.symm
    have e4 : xs.flatMap F = (xs.take (i + 1)).flatMap F ++ (xs.drop (i + 1)).flatMap F := by rw [← List.flatMap_append, List.take_append_drop]
    rw [e4, e3] at hl
    simp at hl
    omega
  · have e2 : xs.take n = xs := List.take_of_length_le (by rw [sr.len]; exact Nat.le_refl _)
    simp only [e2] at ha
    rw [ha]
    exact fin
/-- the inner clause -/
theorem lcI {acc : List D} {k : List D → Prop} (F : α → Option D) (sr : Src n f xs g) (hl : acc.length + xs.length ≤ 1000000)
    (step : ∀ x, x ∈ xs → JGW S' Γ' own tg (g x) δ' fun δ2 => JTs S' Γ' ifs δ2 fun t => if t = true then JE S' Γ' elt δ2 fun d => F x = some d else F x = none) (fin : k (acc ++ xs.filterMap F)) :
    ∃ A : Nat → List D → Prop, A 0 acc ∧ (∀ i acc, i < n → A i acc → JGW S' Γ' own tg (f i) δ' fun δ2 => JTs S' Γ' ifs δ2 fun t => if t = true then JE S' Γ' elt δ2 fun d => acc.length < sizeLine ∧ A (i + 1) (acc ++ [d]) else A (i + 1) acc) ∧ ∀ acc, A n acc → k acc := by
  have hs : 1000000 < sizeLine := by decide
  refine ⟨fun i a => a = acc ++ (xs.take i).filterMap F, by simp, fun i a hi ha => ?_, fun a ha => ?_⟩
  · rw [sr.len] at hi
    rw [sr.at_ i hi]
    have e2 : xs.take (i + 1) = xs.take i ++ [xs[i]] := by rw [List.take_add_one, List.getElem?_eq_getElem hi]; rfl
    refine (step _ (List.getElem_mem _)).imp fun δ2 h => h.imp fun b h => ?_
    cases b with
    | false =>
      have h : F xs[i] = none := by simpa using h
      refine L2.iteF ?_
      show a = _
      rw [e2, List.filterMap_append, ha]
      simp [h]
    | true =>
      have h : JE S' Γ' elt δ2 fun d => F xs[i] = some d := by simpa using h
      refine L2.iteT (h.imp fun d hd => ⟨?_, ?_⟩)
      · have l1 := List.length_filterMap_le F (xs.take i)
        have l2 : (xs.take i).length ≤ i := List.length_take_le i xs
        rw [ha, List.length_append]
        omega
      · show a ++ [d] = _
        rw [e2, List.filterMap_append, ha]
        simp [hd]
  · have e2 : xs.take n = xs := List.take_of_length_le (by rw [sr.len]; exact Nat.le_refl _)
    simp only [e2] at ha
    rw [ha]
    exact fin
end
end Z
set_option Elab.async false
set_option linter.all false
set_option maxRecDepth 100000
set_option maxHeartbeats 4000000
/-! Z20: what is walked over, by its value: a list, a tuple, the script; enumerate and zip of them. -/
namespace Z
open PySem L2
variable [tabsI : TabsT]
section
variable {X : Cx} {tg : Expr}
def iAny (K : PySem.W.Frag) (tl : TE) : TI := fun σ H R => tl σ H fun x H1 => ∃ a, x = .ref a ∧ (((∃ xs, SqL K H1 a xs) ∧ R (Itl K a) H1) ∨ ((∃ xs, SqT K H1 a xs) ∧ R (Itt K a) H1) ∨ ∃ o kvs, H1 a = some (.frz o (.dT kvs)) ∧ R (Itkt a o kvs) H1)
theorem pi_any {l : Expr} {tl : TE} (hl : PE X l tl) : PI X tg l (iAny X.K tl) := by
  refine ⟨fun pins s σ H R I h => thn (hl.run pins s σ H _ I h) fun v s1 ⟨x, H1, I1, r1, q1⟩ => ?_⟩
  obtain ⟨a, rfl, q⟩ := q1
  cases r1
  have fp : ∀ b ∈ [s1.heap.objs.size], FpOk X pins H1 b := fun b hb => by
    obtain rfl : b = s1.heap.objs.size := by simpa using hb
    exact I1.fpOk (Nat.le_refl _) (I1.hok.fresh (Nat.le_refl _))
  rcases q with ⟨⟨xs, hq⟩, q⟩ | ⟨⟨xs, hq⟩, q⟩ | ⟨o, kvs, hd, q⟩
  · obtain ⟨its, rv, p, hz⟩ := I1.list hq
    exact wpAny_pyIter_list p.isList ⟨s1.heap.objs.size, [s1.heap.objs.size], _, _, H1, rfl, I1.kept (t' := s1.toks) fun b o e => Heap.get?_push_of_some _ e, turn_list a _, ⟨_, Heap.get?_push_size _ rfl, rfl, rfl⟩, fp, q⟩
  · obtain ⟨its, rv, p, hz⟩ := I1.tuple hq
    exact wpAny_pyIter_tuple (show s1.heap.IsTuple a its.toArray from p) ⟨s1.heap.objs.size, [s1.heap.objs.size], _, _, H1, rfl, I1.kept (t' := s1.toks) fun b o e => Heap.get?_push_of_some _ e, turn_tuple a _, ⟨_, Heap.get?_push_size _ rfl, rfl, rfl⟩, fp, q⟩
  · obtain ⟨hs, hgd, hx, es, ep, hdt, hsz, ent⟩ := I1.frzT hd
    refine iter_keys hs hgd hx hdt (pi_one (tk := s1.toks) I1 _ (turn_keysT _ hdt) ⟨_, Heap.get?_push_size _ rfl, rfl, ?_⟩ q)
    rw [hsz] <;> rfl
def iEnumA (K : PySem.W.Frag) (ta : TA) : TI := fun σ H R => ta σ H fun vs H1 => ∃ a, vs = [.ref a] ∧ (((∃ xs, SqL K H1 a xs) ∧ R (Ite K a) H1) ∨ ((∃ xs, SqT K H1 a xs) ∧ R (ItET K a) H1))
open PySem.Spec PyProof.Rows in
theorem pi_enumA {e : Expr} {ta : TA} {p pos tpos : Pos} {elts : List Expr} {kk : Nat} (hg : Gl X "enumerate") (hm : X.mg "enumerate" = none) (ha : PA X [e] ta) (hs : starEach [e] X.env = [(false, eval e X.env)] := by rfl) :
    PI X (.Tuple elts kk tpos) (.Call (.Name "enumerate" p) [e] [] pos) (iEnumA X.K ta) := by
  refine ⟨fun pins s σ H R I h => ?_⟩
  refine Call_ (ld_blt I hg hm PyProof.Rows.boot_enumerate (PyProof.Rows.callWith_type1 (thn (ha.run pos pins s σ H _ I h) fun us s1 ⟨vs, H1, I1, r1, q1⟩ => ?_) hs rfl))
  obtain ⟨a, rfl, q⟩ := q1
  cases r1 with
  | cons r rr =>
    cases rr
    cases r
    have fp : ∀ b ∈ [s1.heap.objs.size + 1, s1.heap.objs.size], FpOk X pins H1 b := fun b hb => by
      have hle : s1.heap.objs.size ≤ b := by
        rcases (show b = s1.heap.objs.size + 1 ∨ b = s1.heap.objs.size by simpa using hb) with z | z
        · rw [z]; exact Nat.le_add_right _ _
        · rw [z]; exact Nat.le_refl _
      exact I1.fpOk hle (I1.hok.fresh hle)
    rcases q with ⟨⟨xs, hq⟩, q⟩ | ⟨⟨xs, hq⟩, q⟩
    · obtain ⟨its, rv, p', hz⟩ := I1.list hq
      exact call_enumerate_list p'.isList fun h' he hit hsz hk => wpAny_pyIter_enum he ⟨s1.heap.objs.size + 1, [s1.heap.objs.size + 1, s1.heap.objs.size], _, _, H1, rfl, I1.kept (t' := s1.toks) hk, turn_enum a (s1.heap.objs.size + 1) s1.heap.objs.size, ⟨⟨.none, he⟩, hit, Nat.succ_ne_self _⟩, fp, q⟩
    · obtain ⟨its, rv, p', hz⟩ := I1.tuple hq
      have p2 : s1.heap.IsTuple a its.toArray := p'
      have hal : a < s1.heap.objs.size := by obtain ⟨_, z, _⟩ := p2; exact Heap.lt_size z
      exact call_enumT p2 fun h' he hit hk => wpAny_pyIter_enum he ⟨s1.heap.objs.size + 1, [s1.heap.objs.size + 1, s1.heap.objs.size], _, _, H1, rfl, I1.kept (t' := s1.toks) hk, turn_enumT a (s1.heap.objs.size + 1) s1.heap.objs.size (Nat.ne_of_lt (Nat.lt_succ_of_lt hal)) (Nat.ne_of_lt hal) (Nat.succ_ne_self _), ⟨⟨.none, he⟩, hit⟩, fp, q⟩
end
section
variable {S : Scp} {Γ : Cg} {δ : List Sl} {P : D → Prop} {a b e tg : Expr} {pos : Pos} {PI' : Nat → (Nat → D) → Prop}
def seqD (PI' : Nat → (Nat → D) → Prop) : D → Prop
  | .lst ds => PI' ds.length (atD ds)
  | .tup ds => PI' ds.length (atD ds)
  | .scr ns => PI' ns.length (fun i => .int ((ns[i]?).getD 0))
  | .dic ks _ => ∃ zs : List (Int × Int), (ks = zs.map fun z => [Sum.inl z.1, Sum.inl z.2]) ∧ PI' (zs.map fun z => D.tup [.int z.1, .int z.2]).length (atD (zs.map fun z => D.tup [.int z.1, .int z.2]))
  | _ => False
theorem seq_lst {ds : List D} (h : PI' ds.length (atD ds)) : seqD PI' (.lst ds) := h
theorem seq_tup {ds : List D} (h : PI' ds.length (atD ds)) : seqD PI' (.tup ds) := h
theorem seq_scr {ns : List Int} (h : PI' ns.length (fun i => .int ((ns[i]?).getD 0))) : seqD PI' (.scr ns) := h
theorem ji_seq [Calm Γ] (h : JE S Γ e δ (seqD PI')) : JI S Γ tg e δ PI' := by
  refine ⟨fun X hX σ G H s ev R k => ?_⟩
  refine PIw (hX.calm Calm.hx) (pi_any wE_pe) ?_
  refine h.run X hX σ G H s ev _ fun v G1 H1 d s1 r q => ?_
  cases d with
  | lst ds =>
    unfold Rep at r
    obtain ⟨p, vs, rfl, h1, h2⟩ := r
    have at_ : ∀ G' H', Same G' H' → Mo Γ.K G1 H1 G' H' → SqL X.K H' p vs := fun G' H' e m => .inl (.inl (e _ _ (m.exG _ _ h1)))
    refine ⟨p, rfl, .inl ⟨⟨vs, at_ _ _ s1.sub .refl⟩, k _ G1 H1 _ _ s1 ⟨?_, ?_, ?_⟩ q⟩⟩
    · intro i G' H' e m hi
      have l1 : i < vs.length := by rw [h2.length]; exact hi
      exact ⟨vs, _, at_ _ _ e m, List.getElem?_eq_getElem l1⟩
    · rintro i G' H' x H2 e m hi _ ⟨rfl, y1⟩
      obtain ⟨d, hd, rd⟩ := h2.back (y1 vs (at_ _ _ e m))
      rw [atD_get hi] at hd
      cases hd
      exact ⟨G', .refl e, rd.mo m⟩
    · intro G' H' e m
      exact ⟨vs, at_ _ _ e m, by rw [h2.length]; exact Nat.le_refl _⟩
  | tup ds =>
    unfold Rep at r
    obtain ⟨p, vs, rfl, h1, h2⟩ := r
    have at_ : ∀ G' H', Same G' H' → Mo Γ.K G1 H1 G' H' → SqT X.K H' p vs := fun G' H' e m => by rw [hX.K]; exact Same.tup e (m.exG _ _ h1)
    refine ⟨p, rfl, .inr (.inl ⟨⟨vs, at_ _ _ s1.sub .refl⟩, k _ G1 H1 _ _ s1 ⟨?_, ?_, ?_⟩ q⟩)⟩
    · intro i G' H' e m hi
      have l1 : i < vs.length := by rw [h2.length]; exact hi
      exact ⟨vs, _, at_ _ _ e m, List.getElem?_eq_getElem l1⟩
    · rintro i G' H' x H2 e m hi _ ⟨rfl, y1⟩
      obtain ⟨d, hd, rd⟩ := h2.back (y1 vs (at_ _ _ e m))
      rw [atD_get hi] at hd
      cases hd
      exact ⟨G', .refl e, rd.mo m⟩
    · intro G' H' e m
      exact ⟨vs, at_ _ _ e m, by rw [h2.length]; exact Nat.le_refl _⟩
  | scr ns =>
    unfold Rep at r
    obtain ⟨p, rfl, h1⟩ := r
    have at_ : ∀ G' H', Same G' H' → Mo Γ.K G1 H1 G' H' → SqL X.K H' p (ns.map V.int) := fun G' H' e m => by rw [hX.K]; exact Same.seq e (Same.seq m.exG h1)
    refine ⟨p, rfl, .inl ⟨⟨_, at_ _ _ s1.sub .refl⟩, k _ G1 H1 _ _ s1 ⟨?_, ?_, ?_⟩ q⟩⟩
    · intro i G' H' e m hi
      have l1 : i < (ns.map V.int).length := by rw [List.length_map]; exact hi
      exact ⟨_, _, at_ _ _ e m, List.getElem?_eq_getElem l1⟩
    · rintro i G' H' x H2 e m hi _ ⟨rfl, y⟩
      have hx := y _ (at_ _ _ e m)
      rw [List.getElem?_map, List.getElem?_eq_getElem hi] at hx
      cases hx
      refine ⟨G', .refl e, ?_⟩
      rw [List.getElem?_eq_getElem hi]
      exact rep_int
    · intro G' H' e m
      exact ⟨_, at_ _ _ e m, by rw [List.length_map]; exact Nat.le_refl _⟩
  | dic ks ds =>
    unfold Rep at r
    obtain ⟨p, o, kvs, rfl, h1, h2, h3⟩ := r
    obtain ⟨zs, hz, q⟩ := q
    have hkk := h2.trans hz
    have hlen : kvs.length = zs.length := by simpa using congrArg List.length hkk
    have at_ : ∀ G' H', Same G' H' → Mo Γ.K G1 H1 G' H' → H' p = some (.frz o (.dT kvs)) := fun G' H' e m => e _ _ (m.exG _ _ h1)
    refine ⟨p, rfl, .inr (.inr ⟨o, kvs, at_ _ _ s1.sub .refl, k _ G1 H1 _ _ s1 ⟨?_, ?_, ?_⟩ q⟩)⟩
    · intro i G' H' e m hi
      rw [List.length_map] at hi
      exact ⟨at_ _ _ e m, by rw [hlen]; exact hi⟩
    · rintro i G' H' x H2 e m hi tk ⟨rfl, key, w, p', hkv, rfl, hp⟩
      refine ⟨G', .refl e, ?_⟩
      have hi' := hi
      rw [List.length_map] at hi'
      have e1 : (kvs.map (·.1))[i]? = some key := by rw [List.getElem?_map, hkv]; rfl
      rw [hkk, List.getElem?_map, List.getElem?_eq_getElem hi'] at e1
      have e2 : key = [Sum.inl zs[i].1, Sum.inl zs[i].2] := (Option.some.inj e1).symm
      subst e2
      have e3 : atD (zs.map fun z => D.tup [.int z.1, .int z.2]) i = .tup [.int zs[i].1, .int zs[i].2] := by
        unfold atD
        rw [List.getElem?_map, List.getElem?_eq_getElem hi']
        rfl
      rw [e3]
      unfold Rep
      exact ⟨p', _, rfl, tk.tg _ _ hp, .cons rep_int (.cons rep_int .nil)⟩
    · intro G' H' e m
      exact ⟨at_ _ _ e m, by rw [hlen, List.length_map]; exact Nat.le_refl _⟩
  | _ => exact q.elim
def enumD (PI' : Nat → (Nat → D) → Prop) : D → Prop
  | .lst ds => PI' ds.length (fun i => .tup [.int (i : Nat), atD ds i])
  | .tup ds => PI' ds.length (fun i => .tup [.int (i : Nat), atD ds i])
  | _ => False
theorem enum_lst {ds : List D} (h : PI' ds.length (fun i => .tup [.int (i : Nat), atD ds i])) : enumD PI' (.lst ds) := h
theorem enum_tup {ds : List D} (h : PI' ds.length (fun i => .tup [.int (i : Nat), atD ds i])) : enumD PI' (.tup ds) := h
theorem ji_enumA [Calm Γ] {elts : List Expr} {kk : Nat} {p tpos : Pos} (hg : HasG S.gl "enumerate") (hm : Γ.mg "enumerate" = none) (h : JE S Γ a δ (enumD PI')) (hs : ∀ env, starEach [a] env = [(false, eval a env)] := by intro _; rfl) : JI S Γ (.Tuple elts kk tpos) (.Call (.Name "enumerate" p) [a] [] pos) δ PI' := by
  refine ⟨fun X hX σ G H s ev R k => ?_⟩
  have hk : Gl X "enumerate" := by show X.env.scope.names.lookup _ = _; rw [hX.sc]; exact hX.so.gl _ hg.mem
  refine PIw (hX.calm Calm.hx) (pi_enumA hk (by rw [hX.mg]; exact hm) (pa_cons wE_pe pa_nil (hs _)) (hs _)) ?_
  refine h.run X hX σ G H s ev _ fun v G1 H1 d s1 r q => ?_
  cases d with
  | lst xs =>
    unfold Rep at r
    obtain ⟨p1, vs, rfl, h1, g1⟩ := r
    have a1 : ∀ G' H', Same G' H' → Mo Γ.K G1 H1 G' H' → SqL X.K H' p1 vs := fun G' H' e m => .inl (.inl (e _ _ (m.exG _ _ h1)))
    refine ⟨p1, rfl, .inl ⟨⟨vs, a1 _ _ s1.sub .refl⟩, k _ G1 H1 _ _ s1 ⟨?_, ?_, ?_⟩ q⟩⟩
    · intro i G' H' e m hi
      have l1 : i < vs.length := by rw [g1.length]; exact hi
      exact ⟨vs, _, a1 _ _ e m, List.getElem?_eq_getElem l1⟩
    · rintro i G' H' x H2 e m hi _ ⟨T, y, rfl, hT, rfl, y1⟩
      obtain ⟨d, hd, rd⟩ := g1.back (y1 vs (a1 _ _ e m))
      rw [atD_get hi] at hd
      cases hd
      have st : Stp Γ.K G' H' (upd G' T (.tup [.int (i : Nat), y])) (upd H' T (.tup [.int (i : Nat), y])) := .new e hT
      refine ⟨_, st, ?_⟩
      unfold Rep
      exact ⟨T, _, rfl, upd_same, .cons rep_int (.cons ((rd.mo m).mono st) .nil)⟩
    · intro G' H' e m
      exact ⟨vs, a1 _ _ e m, by rw [g1.length]; exact Nat.le_refl _⟩
  | tup xs =>
    unfold Rep at r
    obtain ⟨p1, vs, rfl, h1, g1⟩ := r
    have a1 : ∀ G' H', Same G' H' → Mo Γ.K G1 H1 G' H' → SqT X.K H' p1 vs := fun G' H' e m => by rw [hX.K]; exact Same.tup e (m.exG _ _ h1)
    refine ⟨p1, rfl, .inr ⟨⟨vs, a1 _ _ s1.sub .refl⟩, k _ G1 H1 _ _ s1 ⟨?_, ?_, ?_⟩ q⟩⟩
    · intro i G' H' e m hi
      have l1 : i < vs.length := by rw [g1.length]; exact hi
      exact ⟨vs, _, a1 _ _ e m, List.getElem?_eq_getElem l1⟩
    · rintro i G' H' x H2 e m hi _ ⟨T, y, rfl, hT, rfl, y1⟩
      obtain ⟨d, hd, rd⟩ := g1.back (y1 vs (a1 _ _ e m))
      rw [atD_get hi] at hd
      cases hd
      have st : Stp Γ.K G' H' (upd G' T (.tup [.int (i : Nat), y])) (upd H' T (.tup [.int (i : Nat), y])) := .new e hT
      refine ⟨_, st, ?_⟩
      unfold Rep
      exact ⟨T, _, rfl, upd_same, .cons rep_int (.cons ((rd.mo m).mono st) .nil)⟩
    · intro G' H' e m
      exact ⟨vs, a1 _ _ e m, by rw [g1.length]; exact Nat.le_refl _⟩
  | _ => exact q.elim
def zipD (PI' : Nat → (Nat → D) → Prop) : List D → Prop
  | [.lst xs, .lst ys] => PI' (min xs.length ys.length) (fun i => .tup [atD xs i, atD ys i])
  | [.tup xs, .tup ys] => PI' (min xs.length ys.length) (fun i => .tup [atD xs i, atD ys i])
  | _ => False
theorem zip_tup {xs ys : List D} (h : PI' (min xs.length ys.length) (fun i => .tup [atD xs i, atD ys i])) : zipD PI' [.tup xs, .tup ys] := h
theorem ji_zipA [Calm Γ] {elts : List Expr} {kk : Nat} {p tpos : Pos} (hg : HasG S.gl "zip") (hm : Γ.mg "zip" = none) (h : JA S Γ [a, b] δ (zipD PI'))
    (hs : ∀ env, starEach [a, b] env = (false, eval a env) :: starEach [b] env := by intro _; rfl) (hpl : ∀ env, (backTo pos (starEach [b] env)).any (·.1) = false := by intro _; rfl) : JI S Γ (.Tuple elts kk tpos) (.Call (.Name "zip" p) [a, b] [] pos) δ PI' := by
  refine ⟨fun X hX σ G H s ev R k => ?_⟩
  have hk : Gl X "zip" := by show X.env.scope.names.lookup _ = _; rw [hX.sc]; exact hX.so.gl _ hg.mem
  refine PIw (hX.calm Calm.hx) (RZ.pi_zipA hk (by rw [hX.mg]; exact hm) wA_pa (hs _) (hpl _)) ?_
  refine h.run X hX σ G H s ev _ fun us G1 H1 ds s1 r q => ?_
  unfold zipD at q
  split at q
  · rename_i xs ys
    obtain ⟨v, u, rfl, r1, r2⟩ := repL2 r
    unfold Rep at r1 r2
    obtain ⟨p1, vs, rfl, h1, g1⟩ := r1
    obtain ⟨p2, ws, rfl, h2, g2⟩ := r2
    have a1 : ∀ G' H', Same G' H' → Mo Γ.K G1 H1 G' H' → SqL X.K H' p1 vs := fun G' H' e m => .inl (.inl (e _ _ (m.exG _ _ h1)))
    have a2 : ∀ G' H', Same G' H' → Mo Γ.K G1 H1 G' H' → SqL X.K H' p2 ws := fun G' H' e m => .inl (.inl (e _ _ (m.exG _ _ h2)))
    refine ⟨p1, p2, vs, ws, rfl, .inl ⟨a1 _ _ s1.sub .refl, a2 _ _ s1.sub .refl, k _ G1 H1 _ _ s1 ⟨?_, ?_, ?_⟩ q⟩⟩
    · intro i G' H' e m hi
      have l1 : i < vs.length := by rw [g1.length]; omega
      have l2 : i < ws.length := by rw [g2.length]; omega
      exact ⟨vs, ws, _, _, a1 _ _ e m, a2 _ _ e m, List.getElem?_eq_getElem l1, List.getElem?_eq_getElem l2⟩
    · rintro i G' H' x H2 e m hi _ ⟨T, y, z, rfl, hT, rfl, y1, y2⟩
      obtain ⟨d, hd, rd⟩ := g1.back (y1 vs (a1 _ _ e m))
      obtain ⟨d2, hd2, rd2⟩ := g2.back (y2 ws (a2 _ _ e m))
      rw [atD_get (by omega)] at hd hd2
      cases hd
      cases hd2
      have st : Stp Γ.K G' H' (upd G' T (.tup [y, z])) (upd H' T (.tup [y, z])) := .new e hT
      refine ⟨_, st, ?_⟩
      unfold Rep
      exact ⟨T, _, rfl, upd_same, .cons ((rd.mo m).mono st) (.cons ((rd2.mo m).mono st) .nil)⟩
    · intro G' H' e m
      refine ⟨vs, ws, a1 _ _ e m, a2 _ _ e m, ?_⟩
      rw [g1.length, g2.length]
      omega
  · rename_i xs ys
    obtain ⟨v, u, rfl, r1, r2⟩ := repL2 r
    unfold Rep at r1 r2
    obtain ⟨p1, vs, rfl, h1, g1⟩ := r1
    obtain ⟨p2, ws, rfl, h2, g2⟩ := r2
    have a1 : ∀ G' H', Same G' H' → Mo Γ.K G1 H1 G' H' → SqT X.K H' p1 vs := fun G' H' e m => by rw [hX.K]; exact Same.tup e (m.exG _ _ h1)
    have a2 : ∀ G' H', Same G' H' → Mo Γ.K G1 H1 G' H' → SqT X.K H' p2 ws := fun G' H' e m => by rw [hX.K]; exact Same.tup e (m.exG _ _ h2)
    refine ⟨p1, p2, vs, ws, rfl, .inr ⟨a1 _ _ s1.sub .refl, a2 _ _ s1.sub .refl, k _ G1 H1 _ _ s1 ⟨?_, ?_, ?_⟩ q⟩⟩
    · intro i G' H' e m hi
      have l1 : i < vs.length := by rw [g1.length]; omega
      have l2 : i < ws.length := by rw [g2.length]; omega
      exact ⟨vs, ws, _, _, a1 _ _ e m, a2 _ _ e m, List.getElem?_eq_getElem l1, List.getElem?_eq_getElem l2⟩
    · rintro i G' H' x H2 e m hi _ ⟨T, y, z, rfl, hT, rfl, y1, y2⟩
      obtain ⟨d, hd, rd⟩ := g1.back (y1 vs (a1 _ _ e m))
      obtain ⟨d2, hd2, rd2⟩ := g2.back (y2 ws (a2 _ _ e m))
      rw [atD_get (by omega)] at hd hd2
      cases hd
      cases hd2
      have st : Stp Γ.K G' H' (upd G' T (.tup [y, z])) (upd H' T (.tup [y, z])) := .new e hT
      refine ⟨_, st, ?_⟩
      unfold Rep
      exact ⟨T, _, rfl, upd_same, .cons ((rd.mo m).mono st) (.cons ((rd2.mo m).mono st) .nil)⟩
    · intro G' H' e m
      refine ⟨vs, ws, a1 _ _ e m, a2 _ _ e m, ?_⟩
      rw [g1.length, g2.length]
      omega
  · exact q.elim
end
end Z
set_option Elab.async false
set_option linter.all false
set_option maxRecDepth 100000
set_option maxHeartbeats 4000000
/-! Z21: further built-ins by name. -/
namespace Z
open PySem L2
variable [tabsI : TabsT]
section
variable {S : Scp} {Γ : Cg} {δ : List Sl} {P : D → Prop} {PL : List D → Prop} {a b c e o : Expr} {es rest : List Expr} {pos p : Pos}
theorem zb_sum (hg : HasG S.gl "sum") (hm : Γ.mg "sum" = none) (h : JA S Γ (e :: es) δ fun ds => CallD S Γ (.builtin "sum") ds P) (he : ∀ env, starEach (e :: es) env = (false, eval e env) :: starEach es env := by intro _; rfl) (hpl : ∀ env, (backTo pos (starEach es env)).any (·.1) = false := by intro _; rfl) :
    JE S Γ (.Call (.Name "sum" p) (e :: es) [] pos) δ P := je_callB hg.mem hm cb_sum h (by decide) (by decide) he hpl
/-- a global of the module that is an int -/
theorem je_globI {x : Str} {i : Int} (hg : x ∈ S.gl) (hm : ∃ t, Γ.mg x = some (.int i t)) (h : P (.int i)) (hd : (x == ("__debug__" : Str)) = false := by decide) : JE S Γ (.Name x pos) δ P := by
  refine ⟨fun X hX σ G H st ev Q k => ?_⟩
  have hk : Gl X x := by show X.env.scope.names.lookup x = _; rw [hX.sc]; exact hX.so.gl x hg
  obtain ⟨t, hm⟩ := hm
  exact PEw (pe_glob (v := .int i) hk (by rw [hX.mg]; exact hm) ⟨t, rfl⟩ hd) (k _ G H _ (.refl st.sub) rep_int h)
theorem flat_rows {α : Type} {xs : List α} {f : α → D} (h : ∀ x ∈ xs, flatD (f x)) : flatL (xs.map f) := by
  induction xs with
  | nil => exact trivial
  | cons x xs ih => exact ⟨h x (.head _), ih fun y hy => h y (.tail _ hy)⟩
end
end Z
set_option Elab.async false
set_option linter.all false
set_option maxRecDepth 100000
set_option maxHeartbeats 4000000
/-! Z22: slices by the value that is cut. -/
namespace Z
open PySem L2
variable [tabsI : TabsT]
def cutA (P : D → Prop) (l u : Option Int) : D → Prop
  | .lst ds => P (.lst (cutD ds l u))
  | .tup ds => ¬ (HT.sIx ds.length 0 l = 0 ∧ HT.sIx ds.length ds.length u = ds.length) ∧ P (.tup (cutD ds l u))
  | .str z => z.length ≤ sizeLine ∧ P (.str (cutS z l u))
  | _ => False
section
variable {S : Scp} {Γ : Cg} {δ : List Sl} {P : D → Prop} {e : Expr} {pos : Pos}
theorem je_cutA {lo hi : Option Expr} {p2 : Pos} (h : JE S Γ e δ fun d => JO S Γ lo δ fun l => JO S Γ hi δ fun u => cutA P l u d) : JE S Γ (.Subscript e (.Slice lo hi none p2) pos) δ P := by
  refine ⟨fun X hX σ G H st ev Q k => ?_⟩
  refine PEw (pe_slice (SlR.or sl_list (SlR.or sl_tup sl_str)) wE_pe wPO_po wPO_po) ?_
  refine h.run X hX σ G H st ev _ fun v G1 H1 d s1 r1 h1 => ?_
  refine h1.run X hX σ G1 H1 (st.trans s1) (ev.mono s1) _ fun l G2 H2 s2 h2 => ?_
  refine h2.run X hX σ G2 H2 ((st.trans s1).trans s2) ((ev.mono s1).mono s2) _ fun u G3 H3 s3 h3 => ?_
  have r3 := (r1.mono s2).mono s3
  cases d with
  | lst ds =>
    unfold Rep at r3
    obtain ⟨q, vs, rfl, g1, g2⟩ := r3
    refine .inl ⟨q, vs, rfl, .inl (.inl (s3.sub _ _ g1)), fun y hy => ?_⟩
    have s123 := (s1.trans s2).trans s3
    have s4 : Stp Γ.K G3 H3 (upd G3 y (.lst (cutV vs l u))) (upd H3 y (.lst (cutV vs l u))) := .new s3.sub hy
    refine k _ _ _ _ (s123.trans s4) ?_ h3
    unfold Rep
    exact ⟨y, _, rfl, upd_same, (g2.cut).mono s4⟩
  | tup ds =>
    unfold Rep at r3
    obtain ⟨q, vs, rfl, g1, g2⟩ := r3
    refine .inr (.inl ⟨q, vs, rfl, by rw [hX.K]; exact Same.tup s3.sub g1, by rw [g2.length]; exact h3.1, fun y hy => ?_⟩)
    have s4 : Stp Γ.K G3 H3 (upd G3 y (.tup (cutV vs l u))) (upd H3 y (.tup (cutV vs l u))) := .new s3.sub hy
    refine k _ _ _ _ (((s1.trans s2).trans s3).trans s4) ?_ h3.2
    unfold Rep
    exact ⟨y, _, rfl, upd_same, (g2.cut).mono s4⟩
  | str z =>
    unfold Rep at r3
    exact .inr (.inr ⟨z, r3, h3.1, k _ _ _ _ ((s1.trans s2).trans s3) rep_str h3.2⟩)
  | _ => exact h3.elim
end
/-- the slice of any list -/
def cutL {α : Type} (xs : List α) (lo hi : Option Int) : List α := (xs.drop (HT.sIx xs.length 0 lo)).take (HT.sIx xs.length xs.length hi - HT.sIx xs.length 0 lo)
theorem cutD_map {α : Type} {f : α → D} {xs : List α} {lo hi : Option Int} : cutD (xs.map f) lo hi = (cutL xs lo hi).map f := by
  unfold cutD cutL
  simp [List.map_take, List.map_drop]
theorem cutL_tail {α : Type} {xs : List α} : cutL xs (some 1) none = xs.tail := by
  cases xs with
  | nil => rfl
  | cons x xs =>
    unfold cutL HT.sIx
    simp
theorem cutL_to {α : Type} {xs : List α} {k : Int} (h0 : 0 ≤ k) : cutL xs none (some k) = xs.take k.toNat := by
  unfold cutL HT.sIx
  simp only [show ¬ k < 0 by omega, if_false, Nat.sub_zero, List.drop_zero]
  rw [Nat.min_def]
  split
  · rfl
  · rename_i h
    rw [List.take_of_length_le (Nat.le_refl _), List.take_of_length_le (by omega)]
theorem cutL_fromto {α : Type} {xs : List α} {j k : Int} (h0 : 0 ≤ j) (h1 : j ≤ xs.length) (h2 : j ≤ k) (h3 : k ≤ xs.length) : cutL xs (some j) (some k) = (xs.drop j.toNat).take (k - j).toNat := by
  unfold cutL HT.sIx
  simp only [show ¬ k < 0 by omega, show ¬ j < 0 by omega, if_false]
  rw [Nat.min_eq_left (by omega), Nat.min_eq_left (by omega)]
  congr 1
  omega
theorem cutA_map {α : Type} {P : D → Prop} {f : α → D} {xs : List α} {l u : Option Int} (h : P (.lst ((cutL xs l u).map f))) : cutA P l u (.lst (xs.map f)) := by
  show P _
  rw [cutD_map]
  exact h
theorem cutA_tup {α : Type} {P : D → Prop} {f : α → D} {xs : List α} {l u : Option Int} (hw : ¬ (HT.sIx xs.length 0 l = 0 ∧ HT.sIx xs.length xs.length u = xs.length)) (h : P (.tup ((cutL xs l u).map f))) : cutA P l u (.tup (xs.map f)) := by
  refine ⟨by rw [List.length_map]; exact hw, ?_⟩
  rw [cutD_map]
  exact h
end Z
set_option Elab.async false
set_option linter.all false
set_option maxRecDepth 100000
set_option maxHeartbeats 4000000
/-! Z23: == of data that is told by an encoding. -/
namespace Z
open PySem L2
variable [tabsI : TabsT]
structure EncOk {α : Type} [DecidableEq α] (f : α → D) (k : Nat) : Prop where
  pln : ∀ x, plnD (f x) = true
  lay : ∀ x, (pyD (f x)).canLay0 = true
  dep : ∀ x, (pyD (f x)).depth ≤ k
  eq : ∀ x y, PyData.eqv (pyD (f x)) (pyD (f y)) = decide (x = y)
theorem enc_int : EncOk D.int 0 := ⟨fun _ => rfl, fun _ => rfl, fun _ => Nat.le_refl _, fun x y => by
  unfold pyD PyData.eqv
  by_cases h : x = y <;> simp [h]⟩
section
variable {α : Type} [DecidableEq α] {f : α → D} {k : Nat}
theorem encL_pln (h : EncOk f k) : ∀ xs : List α, plnL (xs.map f) = true
  | [] => rfl
  | x :: xs => by
    rw [List.map_cons]
    unfold plnL
    rw [h.pln, encL_pln h xs]
    rfl
theorem encL_lay (h : EncOk f k) : ∀ xs : List α, PyData.canLayAll0 (pyL (xs.map f)) = true
  | [] => rfl
  | x :: xs => by
    rw [List.map_cons]
    unfold pyL PyData.canLayAll0
    rw [h.lay, encL_lay h xs]
    rfl
theorem encL_dep (h : EncOk f k) : ∀ xs : List α, PyData.depthAll (pyL (xs.map f)) ≤ k
  | [] => Nat.zero_le _
  | x :: xs => by
    rw [List.map_cons]
    unfold pyL PyData.depthAll
    have h1 := h.dep x
    have h2 := encL_dep h xs
    omega
theorem encL_eq (h : EncOk f k) : ∀ xs ys : List α, PyData.eqvAll (pyL (xs.map f)) (pyL (ys.map f)) = decide (xs = ys)
  | [], [] => rfl
  | [], y :: ys => rfl
  | x :: xs, [] => rfl
  | x :: xs, y :: ys => by
    rw [List.map_cons, List.map_cons]
    unfold pyL PyData.eqvAll
    rw [h.eq, encL_eq h xs ys, ← Bool.decide_and]
    exact decide_eq_decide.mpr (by rw [List.cons.injEq])
theorem enc_lst (h : EncOk f k) : EncOk (fun xs : List α => .lst (xs.map f)) (k + 1) := by
  refine ⟨fun x => ?_, fun x => ?_, fun x => ?_, fun x y => ?_⟩
  · unfold plnD; exact encL_pln h x
  · unfold pyD PyData.canLay0; exact encL_lay h x
  · unfold pyD PyData.depth; have := encL_dep h x; omega
  · unfold pyD PyData.eqv; exact encL_eq h x y
theorem enc_tup (h : EncOk f k) : EncOk (fun xs : List α => .tup (xs.map f)) (k + 1) := by
  refine ⟨fun x => ?_, fun x => ?_, fun x => ?_, fun x y => ?_⟩
  · unfold plnD; exact encL_pln h x
  · unfold pyD PyData.canLay0; exact encL_lay h x
  · unfold pyD PyData.depth; have := encL_dep h x; omega
  · unfold pyD PyData.eqv; exact encL_eq h x y
theorem EncOk.shaped (h : EncOk f k) (hk : k ≤ 64) (x : α) : SeqAt.shaped (pyD (f x)) = true := by
  unfold SeqAt.shaped
  rw [h.lay]
  have := h.dep x
  simp
  omega
variable {S : Scp} {Γ : Cg} {P : D → Prop}
theorem od_eqE (h : EncOk f k) (hk : k ≤ 64) {x y : α} (p : P (.bl (decide (x = y)))) : OpD S Γ (compareOp .Eq) (f x) (f y) P :=
  od_eqD (h.pln x) (h.pln y) (h.shaped hk x) (h.shaped hk y) (by rw [h.eq]; exact p)
theorem od_neE (h : EncOk f k) (hk : k ≤ 64) {x y : α} (p : P (.bl (!decide (x = y)))) : OpD S Γ (compareOp .NotEq) (f x) (f y) P :=
  od_neD (h.pln x) (h.pln y) (h.shaped hk x) (h.shaped hk y) (by rw [h.eq]; exact p)
end
end Z
set_option Elab.async false
set_option linter.all false
set_option maxRecDepth 100000
set_option maxHeartbeats 4000000
/-! Z24: a list of one's own in a test; a bool beside it. -/
namespace Z
open PySem L2
variable [tabsI : TabsT]
section
variable {S : Scp} {Γ : Cg} {δ : List Sl} {P : D → Prop} {PB : Bool → Prop} {a e : Expr} {pos : Pos}
theorem jt_own (i : Nat) {ds : List D} (hδ : δ[i]? = some (.ow ds)) (h : JT S Γ e (δ.set i (.fz (.lst ds))) PB) : JT S Γ e δ PB := by
  refine ⟨fun X hX σ G H st ev Q k => ?_⟩
  obtain ⟨p, vs, h1, g, h0, ev'⟩ := ev.freeze hδ
  exact h.run X hX σ _ H (st.freeze h0 h1 g) ev' Q fun b G' H' s q => k b (ers G' p) H' (Stp.thaw h1 g s) q
theorem jt_ownC {x : Str} {op : CmpOp} {p q : Pos} {i : Nat} {ds : List D} (hv : Has S.vs x i) (hδ : δ[i]? = some (.ow ds)) (h : JT S Γ (.Compare a [op] [.Name x p] q) (δ.set i (.fz (.lst ds))) PB) : JT S Γ (.Compare a [op] [.Name x p] q) δ PB := jt_own i hδ h
end
end Z
set_option Elab.async false
set_option linter.all false
set_option maxRecDepth 100000
set_option maxHeartbeats 4000000
/-! Z25: defs, methods and properties that hand back a new list. -/
namespace Z
open PySem L2
variable [tabsI : TabsT]
abbrev CtF := List D → (List D → Prop) → (Value → List Str → List D → Prop) → Prop
def spCF (K : PySem.W.Frag) (c : CtF) : Sp := fun vs H Q E => ∃ G ds, Same G H ∧ TOk G H ∧ RepL K G H ds vs ∧ c ds (fun es => ∀ p us G' H', Stp K G H G' H' → H p = none → G' p = none → H' p = some (.lst us) → RepL K G' H' es us → Q (.ref p) H') fun cls ns es => ∀ d G' H', Stp K G H G' H' → XdOk K G' H' d ns es → E cls d H'
abbrev MonoF (c : CtF) : Prop := ∀ ds (P P' : List D → Prop) (E E' : Value → List Str → List D → Prop), (∀ d, P d → P' d) → (∀ v ns es, E v ns es → E' v ns es) → c ds P E → c ds P' E'
structure DefOkF (P : Program) (w : World) (K : PySem.W.Frag) (mg : Str → Option Value) (base : Heap) (x : Str) (lv : Nat) (df : List D) (c : CtF) : Prop where
  mono : MonoF c
  ex : ∃ f fd ps ds dvs, FnOk P w K mg base (L2N.CX P w) lv f fd ps (spCF K c) ∧ mg x = some (.ref f) ∧ PySem.W.keepIn K (.ref f) = true ∧ Binds K fd ps ds ∧ Vals dvs ds ∧ ∀ G H, RepL K G H df dvs
abbrev Env1.DefF (U : Env1) (x : Str) (lv : Nat) (df : List D) (c : CtF) : Prop := DefOkF U.P U.w U.K U.mg U.base x lv df c
structure MethOkF (P : Program) (w : World) (K : PySem.W.Frag) (mg : Str → Option Value) (base : Heap) (C : Addr) (m : Str) (lv : Nat) (c : CtF) : Prop where
  mono : MonoF c
  ex : ∃ f fd ps, FnOk P w K mg base (L2N.CX P w) lv f fd ps (spCF K c) ∧ Meth K C m f ∧ Binds K fd ps []
structure PropOkF (P : Program) (w : World) (K : PySem.W.Frag) (mg : Str → Option Value) (base : Heap) (C : Addr) (m : Str) (lv : Nat) (c : CtF) : Prop where
  mono : MonoF c
  ex : ∃ p f fd ps, FnOk P w K mg base (L2N.CX P w) lv f fd ps (spCF K c) ∧ PropOf K C m p f ∧ Binds K fd ps []
section
variable {S S' : Scp} {Γ : Cg} {δ : List Sl} {P : D → Prop} {PL : List D → Prop} {N B C : List Sl → Prop} {R : D → Prop} {a b e o : Expr} {es : List Expr} {pos : Pos}
def RfL (P : List D → Prop) : MT → Prop := fun t => ∃ ds, t = .ls (ds.map .fz) ∧ P ds
theorem MRepL.fzs {KK : PySem.W.Frag} {G H : Hp} : ∀ {ds : List D} {vs : List V}, RepL KK G H ds vs → MRepL KK G H (ds.map .fz) vs []
  | [], vs, h => by
    unfold RepL at h
    unfold MRepL
    exact ⟨h, rfl⟩
  | d :: ds, vs, h => by
    unfold RepL at h
    obtain ⟨v, r, e, h1, h2⟩ := h
    rw [List.map_cons]
    unfold MRepL
    exact ⟨v, r, [], [], e, rfl, by unfold MRep; exact ⟨rfl, h1⟩, MRepL.fzs h2⟩
theorem MRepL.ofFzs {KK : PySem.W.Frag} {G H : Hp} : ∀ {ds : List D} {vs : List V} {as : List Addr}, MRepL KK G H (ds.map .fz) vs as → as = [] ∧ RepL KK G H ds vs
  | [], vs, as, h => by
    rw [List.map_nil] at h
    unfold MRepL at h
    unfold RepL
    exact ⟨h.2, h.1⟩
  | d :: ds, vs, as, h => by
    rw [List.map_cons] at h
    unfold MRepL at h
    obtain ⟨v, r, a, b, e, ea, h1, h2⟩ := h
    unfold MRep at h1
    obtain ⟨q1, q2⟩ := MRepL.ofFzs h2
    unfold RepL
    exact ⟨by rw [ea, h1.1, q1]; rfl, v, r, e, h1.2, q2⟩
theorem MRep.own1 {KK : PySem.W.Frag} {G H : Hp} {ds : List D} {p : Addr} {vs : List V} (h : H p = some (.lst vs)) (r : RepL KK G H ds vs) : MRep KK G H (.ls (ds.map .fz)) (.ref p) [p] := by
  unfold MRep
  exact ⟨p, vs, [], rfl, h, rfl, MRepL.fzs r⟩
theorem js_retJF {K : Kp} {RF : List D → Prop} (hr : ∀ ds, RF ds → Γ.rf (.ls (ds.map .fz))) (h : JF S Γ e δ RF) : JS S Γ (.Return (some e) pos) δ K := by
  refine ⟨fun X hX σ G H De s ev en => ?_⟩
  refine PSw (ps_ret wE_pe) ?_
  exact h.run X hX σ G H s ev _ fun p vs G' H' ds s' hp gp h1 r q => en.rf _ [p] _ G' H' (s.trans s') (.own1 h1 r) (by simp) (fun a ha => by rw [List.mem_singleton.mp ha]; exact ⟨gp, s.free hp⟩) (hr _ q)
theorem zs_retJF {U : Env1} {G H : Hp} {ex : List Sl → Value → List Str → List D → Prop} {RF : List D → Prop} (h : JF S (U.cgF G H ex (RfL RF)) e δ RF) : JS S (U.cgF G H ex (RfL RF)) (.Return (some e) pos) δ ⟨N, R, B, C⟩ := js_retJF (fun ds q => ⟨ds, rfl, q⟩) h
theorem zs_retOwF {U : Env1} {G H : Hp} {ex : List Sl → Value → List Str → List D → Prop} {RF : List D → Prop} {x : Str} {i : Nat} {ds : List D} {p1 : Pos} (hv : Has S.vs x i) (hδ : δ[i]? = some (.ow ds)) (h : RF ds) (hd : (x == ("__debug__" : Str)) = false := by decide) (hcd : (x == ("__classdict__" : Str)) = false := by decide) :
    JS S (U.cgF G H ex (RfL RF)) (.Return (some (.Name x p1)) pos) δ ⟨N, R, B, C⟩ := by
  refine ⟨fun X hX σ G' H' De s ev en => ?_⟩
  obtain ⟨h1, h2⟩ := hX.so.vs _ hv.mem
  refine PSw (ps_ret (pe_var (by rw [hX.N]; exact h1) (by rw [hX.sc]; exact h2) hd hcd)) ?_
  obtain ⟨q, vs, e1, hq, g, h0, r⟩ := ev.at_ i _ hδ
  exact ⟨.ref q, e1, en.rf _ [q] _ G' H' s (.own1 hq r) (by simp) (fun a ha => by rw [List.mem_singleton.mp ha]; exact ⟨g, h0⟩) ⟨ds, rfl, h⟩⟩
theorem jf_callF [Calm Γ] {x : Str} {lv : Nat} {df : List D} {ct : CtF} {p : Pos} (F : DefOkF Γ.P Γ.w Γ.K Γ.mg Γ.base x lv df ct) (hl : lv ≤ S.lv) (hg : HasG S.gl x)
    (h : JA S Γ (e :: es) δ fun ds => ct (ds ++ df) PL (Γ.ex δ))
    (hdb : (x == ("__debug__" : Str)) = false := by decide) (he : ∀ env, starEach (e :: es) env = (false, eval e env) :: starEach es env := by intro _; rfl) (hpl : ∀ env, (backTo pos (starEach es env)).any (·.1) = false := by intro _; rfl) :
    JF S Γ (.Call (.Name x p) (e :: es) [] pos) δ PL := by
  refine ⟨fun X hX σ G H st ev Q k => ?_⟩
  have hk : Gl X x := by show X.env.scope.names.lookup x = _; rw [hX.sc]; exact hX.so.gl x hg.mem
  obtain ⟨f, fd, ps, ds, dvs, F1, F2, F3, F4, F5, F6⟩ := F.ex
  have F1' : FnOk X.prog X.w X.K X.mg X.base (L2N.CX X.prog X.w) lv f fd ps (spCF Γ.K ct) := by rw [hX.prog, hX.w, hX.K, hX.mg, hX.base]; exact F1
  refine PEw (pe_callSD (E := WE (wx Γ)) F1' ((hX.room Calm.hx).mono hl) hk (by rw [hX.mg]; exact F2) (by rw [hX.K]; exact F3) (by rw [hX.K]; exact F4) F5 (fun σ => L2N.passAt hX.tk σ) wA_pa hdb (he _) (hpl _)) ?_
  refine h.run X hX σ G H st ev _ fun vs G1 H1 ds s1 r1 h1 => ?_
  refine ⟨G1, ds ++ df, s1.sub, (st.trans s1).tab hX.tb, r1.append (F6 _ _), F.mono _ _ _ _ _ (fun d p q us G' H' s hq gq hh r => k q us G' H' d (s1.trans s) (s1.free hq) gq hh r p) (fun cls ns es q d G' H' s x => ?_) h1⟩
  exact ⟨G', δ, ns, es, (st.trans s1).trans s, ev.mono (s1.trans s), x, q⟩
end
/-! from the facts of the top -/
section
variable {U : Env1} {m qual x : Str} {st : Stmt} {S : Scp} {ps : List Str} {n j : Nat} {f C : Addr} {fd : FuncData} {c : CtF} {dvs : List V} {df : List D}
theorem fn_okF (F : ∃ h : Unit, FunD U.K m qual (defArgs st) (defBody st) (defScope st) dvs [] f fd) (so : S.Ok) (sc : S.sc = defScope st) (fs : FnScope S.N ps (defScope st)) (hn : ps.length = n) (hN : n ≤ S.N.length) (len : ∀ ds P E, c ds P E → ds.length = n)
    (body : ∀ (G H : Hp) ds P E, c ds P E → JSs S (U.cgF G H (fun _ => E) (RfL P)) (defBody st) (startD S.N ds) { nx := fun _ => False, rt := fun _ => False }) : FnOk U.P U.w U.K U.mg U.base (L2N.CX U.P U.w) (S.lv + 1) f fd ps (spCF U.K c) := by
  obtain ⟨_, F⟩ := F
  refine F.ok fs (fun vs H Q E h => ?_) (fun cdv A outer s H vs Q E hr h => ?_)
  · obtain ⟨G, ds, _, _, r, h⟩ := h
    rw [r.length, len _ _ _ h, hn]
  · obtain ⟨G, ds, e, tb, r, h⟩ := h
    have hl := len _ _ _ h
    refine ⟨_, wSs_pss, (body G H ds _ _ h).run _ ⟨so, rfl, rfl, rfl, rfl, rfl, rfl, sc.symm, fun _ => rfl, fun _ => hr, L2H.roomH_of hr, (fun _ z => by cases z), fun _ _ => .inl rfl, fun _ => ⟨rfl, rfl, rfl, passes_of rfl⟩, ?_, tb, (fun _ _ _ z => by cases z)⟩ _ G H _ (.refl e) (EnvOk.start r _ (by omega)) ⟨?_, ?_, ?_, ?_, ?_⟩⟩
    · refine L2N.Takes.imp (L2N.takes_of rfl rfl rfl rfl) ?_
      rintro cls d σ' H' ⟨G', δ', ns, es, s', ev', x', q⟩
      exact q d G' H' s' x'
    · exact fun _ _ _ _ _ _ _ q => q.elim
    · exact fun _ _ _ _ _ _ _ q => q.elim
    · exact fun _ _ _ _ _ _ _ q => q.elim
    · exact fun _ _ _ _ _ _ q => q.elim
    · rintro v as t G' H' s' hm nd ha ⟨ds', rfl, q⟩
      unfold MRep at hm
      obtain ⟨p, vs, bs, rfl, h1, e1, h2⟩ := hm
      obtain ⟨q1, q2⟩ := h2.ofFzs
      have w := ha p (by rw [e1]; exact .head _)
      exact q p vs G' H' s' w.2 w.1 h1 q2
theorem def_okF (F : FunAt U x st dvs) (so : S.Ok) (sc : S.sc = defScope st) (fs : FnScope S.N ps (defScope st)) (hn : ps.length = n) (hN : n ≤ S.N.length)
    (hb : ∀ f fd, FunD U.K x x (defArgs st) (defBody st) (defScope st) dvs [] f fd → ∃ ds, Vals (dvs.drop j) ds ∧ Binds U.K fd ps ds) (hdf : ∀ G H, RepL U.K G H df (dvs.drop j)) (len : ∀ ds P E, c ds P E → ds.length = n) (mono : MonoF c)
    (body : ∀ (G H : Hp) ds P E, c ds P E → JSs S (U.cgF G H (fun _ => E) (RfL P)) (defBody st) (startD S.N ds) { nx := fun _ => False, rt := fun _ => False }) : U.DefF x (S.lv + 1) df c := by
  obtain ⟨f, fd, Fu, hm⟩ := F.ex
  obtain ⟨ds, hv, hbi⟩ := hb f fd Fu
  exact ⟨mono, f, fd, ps, ds, dvs.drop j, fn_okF ⟨(), Fu⟩ so sc fs hn hN len body, hm, Fu.kp, hbi, hv, hdf⟩
end
end Z
set_option Elab.async false
set_option linter.all false
set_option maxRecDepth 100000
set_option maxHeartbeats 4000000
/-! Z26: own exception classes over ValueError whose __init__ says super().__init__(text), self.f = x: made and raised. -/
namespace Z
open PySem L2
variable [tabsI : TabsT]

/-! ### the text that is told: an f-string of texts and one name -/
/-- the parts' texts: anything that comes out as a short text -/
def TextOf (M : Model) (h0 : Heap) (env : Env) (L : Addr) (m : Str → Option Value) (arg : Expr) : Prop :=
  ∀ (A : Around) (E : Value → Shared → Prop) (Q : Value → Shared → Prop) (s : Shared), A.units + 2 < cLine → (∀ b o, h0.get? b = some o → s.heap.get? b = some o) → s.heap.Ns L m → (∀ u tk, Q u { s with toks := tk }) → wpAny M A (eval arg env) Q E s
section
variable {prog : Program} {w : World} {env : Env} {L : Addr} {m : Str → Option Value}
theorem nameAt {A : Around} {E : Value → Shared → Prop} {Q : Value → Shared → Prop} {s : Shared} {x : Str} {pos : Pos} {v : Value} (hL : env.locals = L) (hk : env.scope.kind = .function) (hl : env.kindOf x = some .local) (hm : m x = some v) (hn : s.heap.Ns L m) (hd : (x == ("__debug__" : Str)) = false) (q : Q v s) :
    wpAny (model prog w) A (eval (.Name x pos) env) Q E s := by
  subst hL
  exact wpAny_Name (wpAny_loadName_local hk hl hn hm q) hd
/-- what may stand in the text: an int, a text or a tuple of ints -/
def Told (h : Heap) (v : Value) : Prop := (∃ i t, v = .int i t ∧ i.natAbs.log2 < 1900) ∨ (∃ y t, v = .str y t ∧ y.length ≤ 4000) ∨
  ∃ a o its n, v = .ref a ∧ h.get? a = some o ∧ o.cls = .type "tuple" ∧ o.data = .seq its n ∧ its.toList.length ≤ 8 ∧ ∀ x ∈ its.toList, ∃ i t, x = .int i t ∧ i.natAbs.log2 < 1900
theorem repr_ints {prog : Program} {w : World} : ∀ {l : List Value}, (∀ x ∈ l, ∃ i t, x = .int i t ∧ i.natAbs.log2 < 1900) → ∃ ts : List Str, ReprAll prog w l ts ∧ piled ts ≤ 2000 * l.length
  | [], _ => ⟨[], .nil, Nat.zero_le _⟩
  | x :: l, h => by
    obtain ⟨i, t, rfl, hz⟩ := h x List.mem_cons_self
    obtain ⟨ts, h1, h2⟩ := repr_ints (prog := prog) (w := w) fun y hy => h y (List.mem_cons_of_mem _ hy)
    refine ⟨_, .cons (ReprIs.int t (by omega)) h1, ?_⟩
    have e := int_text_length_le (k := 1920) (by decide) (a := i) (by omega)
    rw [piled_cons, ofString_length, List.length_cons]
    omega
theorem told_part {A : Around} {E : Value → Shared → Prop} {Q : Value → Shared → Prop} {s : Shared} {x : Str} {p1 p2 : Pos} {v : Value} (hL : env.locals = L) (hk : env.scope.kind = .function) (hl : env.kindOf x = some .local) (hm : m x = some v) (hn : s.heap.Ns L m) (hd : (x == ("__debug__" : Str)) = false) {h0 : Heap} (hu : A.units + 2 < cLine) (h0s : ∀ b o, h0.get? b = some o → s.heap.get? b = some o) (hv : Told h0 v)
    (q : ∀ y tk t', y.length ≤ 50000 → Q (.str y tk) { s with toks := t' }) : wpAny (model prog w) A (eval (.FormattedValue (.Name x p1) (-1) none p2) env) Q E s := by
  refine wpAny_FormattedValue_plain (nameAt hL hk hl hm hn hd ?_)
  rcases hv with ⟨i, t, rfl, hz⟩ | ⟨y, t, rfl, hz⟩ | ⟨a, o, its, n, rfl, ho, hc, hdt, hl, hi⟩
  · refine wpAny_formatField_int (by omega) (q _ _ _ ?_)
    have e := int_text_length_le (k := 1920) (by decide) (a := i) (by omega)
    rw [ofString_length]
    omega
  · exact wpAny_formatField_str (q y t s.toks (by omega)) (q y _ _ (by omega)) (by rw [sizeLine_eq]; omega)
  · obtain ⟨ts, h1, h2⟩ := repr_ints hi
    have h3 := fmt_text ts
    exact fmt_tuple hu (h0s _ _ ho) hc hdt h1 (by rw [sizeLine_eq]; omega) fun m u tk hm => q m u tk (by omega)
theorem told_text2 {c : Str} {j : Nat} {x : Str} {p0 p1 p2 p3 : Pos} {v : Value} (hc : c.length ≤ 1000) (hL : env.locals = L) (hk : env.scope.kind = .function) (hl : env.kindOf x = some .local) (hm : m x = some v) (hd : (x == ("__debug__" : Str)) = false) {h0 : Heap} (hv : Told h0 v) :
    TextOf (model prog w) h0 env L m (.JoinedStr [.Constant (.str c) j p0, .FormattedValue (.Name x p1) (-1) none p2] p3) := by
  intro A E Q s hu hs hn q
  refine wpAny_JoinedStr ?_
  show wpAny _ _ (eval (.Constant (.str c) j p0) env) _ _ _
  refine wpAny_Constant_str ⟨c, _, rfl, ?_, ?_⟩
  · rw [Str.empty_append, sizeLine_eq]; omega
  show wpAny _ _ (eval (.FormattedValue (.Name x p1) (-1) none p2) env) _ _ _
  refine told_part (s := { s with toks := s.toks + 1 }) hL hk hl hm hn hd hu hs hv fun y tk t' hy => ⟨y, tk, rfl, ?_, ?_, q _ _⟩
  · rw [Str.empty_append, Str.length_append, sizeLine_eq]; omega
  · rw [Str.empty_append, Str.length_append, sizeLine_eq]; omega
end
/-! ### super().__init__(text), self.f = x, as they run -/
section
open PySem.W PySem.Calls PyProof.Rows
variable {prog : Program} {w : World} {A : Around} {E : Value → Shared → Prop} {h : Heap} {g : Array GenState} {d : Drawn} {t : Nat} {os : OsState}
abbrev mwO (a : Addr) : Obj := kxs_mw "ValueError.__init__" a
/-- the bound __init__ called: the args are laid anew -/
theorem call_mw {nm q : Str} {C N u a t0 : Addr} {bs bm : List Value} {hdct : Bool} {sn : List Str} {sub : List Value} {ab : Bool} {col : Option Bool} {dd : Option Addr} {k0 k1 k2 k3 k5 : Option Value} {rest : List Value} {Q : Value → Shared → Prop}
    (hC : h.get? C = some (excClassObj nm q C N bs bm hdct sn sub ab col dd k0 k1 k2 k3 k5 "ValueError.__new__")) (he : h.get? a = some (HandSPX.excO C t0)) (hu : h.get? u = some (mwO a)) (hz : rest.length ≤ sizeLine)
    (k : ∀ h' t1, (∀ b o, b ≠ a → h.get? b = some o → h'.get? b = some o) → h'.get? a = some (HandSPX.excO C t1) → Q .none ⟨h', g, d, t, os⟩) : wpAny (model prog w) A (call (.ref u) rest) Q E ⟨h, g, d, t, os⟩ := by
  have c1 : (Value.type "method-wrapper" == Value.type "method" || Value.type "method-wrapper" == Value.type "builtin_function_or_method" || Value.type "method-wrapper" == Value.type "method-wrapper") = true := by decide
  refine wpAny_call (codeAny_of_tree (show wpAny _ A.in1 (callAny (.ref u) ⟨rest, []⟩) _ _ _ from ?_))
  simp only [callAny]
  refine wpAny_bind (wpAny_load hu ?_)
  simp only [mwO, kxs_mw, c1, if_true]
  refine KFB.if_so (by decide) (wpAny_bind (ESX.check_bound F.excBase_ValueError hC he rfl (wpAny_bind (wpAny_pure (wpAny_pure ⟨Code.quiet_builtin _ (by decide +kernel), codeAny_builtin F.excBase_ValueError.initEntry ?_⟩)))))
  rw [Around.under_plainId F.excBase_ValueError.init.plain _]
  wp_walk
  refine k _ h.objs.size (fun b o hb ho => ?_) ?_
  · exact (Heap.get?_update_other _ _ (fun z => hb z.symm)).trans (Heap.get?_push_of_some _ ho)
  · exact (Heap.get?_update_self _ (Heap.get?_push_of_some _ he) rfl).trans rfl
/-- what is known of a class whose __init__ (of the class at D) says super().__init__(text), self.fld = x -/
structure ExI (P : Program) (K : Frag) (mg : Str → Option Value) (C D fI cc cda : Addr) (qual nm : Str) (params : Arguments) (body : List Stmt) (scope : Scope) (x fld : Str) : Prop where
  fn : ∃ (oc kV doc pm ct : Value) (od an : Option Addr) (osl : Array (Option Value)), K.lookup fI = some ⟨oc, od, .func (fnX nm qual params body scope [("__class__", cc)] .none kV doc pm an (.ref cda) ct), osl⟩
  code : codeIn K (.ref cda) qual = true
  cod : ∃ (ccl : Value) (cdd : Option Addr) (vs : Array Value) (ccs : Array (Option Value)) (file : Str) (tf : Tok), K.lookup cda = some ⟨ccl, cdd, .fields vs, ccs⟩ ∧ vs[2]? = some (.str file tf) ∧ ((P.main.file : Str) == file) = true
  cell : ∃ (cl : Value) (cld : Option Addr) (csl : Array (Option Value)), K.lookup cc = some ⟨cl, cld, .cell (some (.ref D)), csl⟩
  dcl : (clsIn K D).isSome = true
  sub : mroIn K C (.ref D) = some true
  sup : mg "super" = none
  top : (P.main.scope.names.lookup ("super" : Str)).isSome = false
  oex : OexC K C
  hm : ks_superIn K C D "__init__" = some (some (.builtin "ValueError.__init__"))
  hB : subIn K (.ref C) (.type "ValueError") = some true
  opq : nsIn K cStatics "thirdparty.any" = some none
  fno : findIn K (.ref C) fld = some none
  iC : findIn K (.ref C) "__init__" = some (some (.ref fI))
  tI : typeIn K (.ref fI) = some (.type "function")
/-- what the def's text bears -/
structure ExB (params : Arguments) (scope : Scope) (x : Str) : Prop where
  par : ∃ ar, (params.posonlyargs ++ params.args).head? = some ar ∧ ar.arg = "self"
  self : scope.names.lookup ("self" : Str) = some .local
  xl : scope.names.lookup x = some .local
  sup : scope.names.lookup ("super" : Str) = some .globalImplicit
  cls : scope.names.lookup ("__class__" : Str) = some .free
  cel : ∀ y ∈ scope.names, y.2 ≠ .cell
  co : scope.isCoroutine = false
  gen : scope.isGenerator = false
  kind : scope.kind = .function
  ne : (x == ("self" : Str)) = false
  nd : (x == ("__debug__" : Str)) = false
theorem boot_super : bootBuiltins "super" = some (.type "super") := by decide +kernel
theorem clsObj {K : Frag} {hp : Heap} {D : Addr} (X : K.In hp) (h : (clsIn K D).isSome = true) : ∃ cd oD, clsIn K D = some cd ∧ hp.get? D = some oD ∧ oD.data = .cls cd := by
  unfold clsIn at h ⊢
  split at h
  · rename_i c d cd sl ho
    exact ⟨cd, _, rfl, X _ _ ho, rfl⟩
  · cases h
theorem init_run {K : Frag} {mg : Str → Option Value} {C D fI cc cda a t0 : Addr} {qual nm x fld : Str} {params : Arguments} {scope : Scope} {arg : Expr} {p0 p1 p2 p3 p4 p5 p6 p7 p8 : Pos} {v : Value} {R : Result → Shared → Prop}
    (T : ExI prog K mg C D fI cc cda qual nm params [.Expr (.Call (.Attribute (.Call (.Name "super" p0) [] [] p1) "__init__" p2) [arg] [] p3) p4, .Assign [.Attribute (.Name "self" p5) fld p6] (.Name x p7) p8] scope x fld) (B : ExB params scope x)
    (hst : ∀ env, starEach [arg] env = (false, eval arg env) :: starEach [] env) (hbd : ∀ (nm qual : Str) (body : List Stmt) (scope : Scope) (cl : List (Str × Addr)) (kV doc pm : Value) (an : Option Addr) (cdv ct : Value), BindsTo ⟨h, g, d, t, os⟩ (fnX nm qual params body scope cl .none kV doc pm an cdv ct) ⟨[.ref a, v], []⟩ [("self", .ref a), (x, v)])
    (hs1 : ∀ env, swapsWith (.Call (.Attribute (.Call (.Name "super" p0) [] [] p1) "__init__" p2) [arg] [] p3) none p4.line env = pure false) (hs2 : ∀ env, swapsWith (.Name x p7) (some (.Attribute (.Name "self" p5) fld p6)) p8.line env = pure false)
    (hev : ∀ env, ∃ pl : Sem Bool, eval (.Call (.Attribute (.Call (.Name "super" p0) [] [] p1) "__init__" p2) [arg] [] p3) env = (do
      let ov ← attributeBase (.Call (.Name "super" p0) [] [] p1) "__init__" env (eval (.Call (.Name "super" p0) [] [] p1) env)
      standAt p2.atName
      let (f, first) ← holding [ov] (getMethod ov "__init__" pl)
      callWith p3 f first (backTo p3 (starEach [arg] env)) []))
    (X : K.In h) (ka : K.lookup a = none) (hgl : h.Ns mainGlobals mg) (hbl : ∃ mb, h.Ns builtinsNs mb ∧ ∀ y : Str, y ≠ "__name__" → mb y = bootBuiltins y) (hlim : h.NoLimit) (room : A.depth < recursionLimit) (hun : A.units + 20 < cLine) (he : h.get? a = some (HandSPX.excO C t0))
    (txt : ∀ env L (m : Str → Option Value), env.locals = L → env.scope = scope → m x = some v → TextOf (model prog w) h env L m arg)
    (k : ∀ h' tk dx t1, (∀ b o, b ≠ a → h.get? b = some o → h'.get? b = some o) → h.objs.size ≤ dx → dx ≠ a → h'.get? a = some { cls := .ref C, dict := some dx, data := .fields #[.ref t1, .none, .none, .none, .bool false, .none] } → h'.Ns1 dx (fun y => if y = fld then some v else none) → R (.ok (.ret .none)) ⟨h', g, d, tk, os⟩) :
    codeAny (model prog w) A (.call (.ref fI) ⟨[.ref a, v], []⟩) R ⟨h, g, d, t, os⟩ := by
  obtain ⟨oc, kV, doc, pm, ct, od, an, osl, ho⟩ := T.fn
  obtain ⟨ccl, cdd, vs, ccs, file, tf, hcode, hvs, hfile⟩ := T.cod
  obtain ⟨cl, cld, csl, hcell⟩ := T.cell
  obtain ⟨ar, hp, har⟩ := B.par
  obtain ⟨cdD, oD, hD, hD1, hD2⟩ := clsObj X T.dcl
  obtain ⟨nmC, q, N, bs, bm, sn, sub, ab, col, dd, k0, k1, k2, k3, k5, hC, hbm⟩ := T.oex.cls
  have hcl : clsIn K C = some { name := nmC, bases := bs, mro := .ref C :: bm, ns := N, qualname := q, hasDict := true, slotNames := sn, subclasses := sub, abstract := ab, collection := col, hasDel := false } := by unfold clsIn; rw [hC] <;> rfl
  have T_hm := T.hm
  unfold ks_superIn at T_hm
  rw [hcl] at T_hm
  obtain ⟨mb, hb1, hb2⟩ := hbl
  have hsz := Heap.lt_size he
  refine ks_codeAny_call_defAt (binds := [("self", .ref a), (x, v)]) room (X _ _ ho) rfl hlim (codeRec_of X T.code) rfl (hbd _ _ _ _ _ _ _ _ _ _ _) B.cel (fun y hy => ?_) (fun h1 hns kp => ?_) B.co B.gen B.kind
  · rcases List.mem_cons.mp hy with rfl | hy
    · exact B.self
    · rcases List.mem_cons.mp hy with rfl | hy
      · exact B.xl
      · cases hy
  generalize henv : callEnv (fnX nm qual params _ scope [("__class__", cc)] .none kV doc pm an (.ref cda) ct) _ fI = env
  have eL : env.locals = h.objs.size := by rw [← henv]; rfl
  have eS : env.scope = scope := by rw [← henv]; rfl
  have eC : env.cells = [(("__class__" : Str), cc)] := by rw [← henv]; rfl
  have eG : env.globals = mainGlobals := by rw [← henv]; rfl
  have eB : env.builtins = builtinsNs := by rw [← henv]; rfl
  have eF : env.func = some fI := by rw [← henv]; rfl
  have eD : env.code = .ref cda := by rw [← henv]; rfl
  have key : ∀ {y : Str} {kd : NameKind}, scope.names.lookup y = some kd → env.kindOf y = some kd := fun {y kd} z => by unfold Env.kindOf; rw [eS]; exact z
  have mx : (fun y : Str => ([("self", Value.ref a), (x, v)] : List (Str × Value)).reverse.lookup y) x = some v := by simp [List.lookup]
  have ms : (fun y : Str => ([("self", Value.ref a), (x, v)] : List (Str × Value)).reverse.lookup y) "self" = some (.ref a) := by
    have e1 : ((("self" : Str)) == x) = false := by
      have z := B.ne
      rw [Bool.eq_false_iff] at z ⊢
      intro y
      exact z (by rw [beq_iff_eq] at y ⊢; exact y.symm)
    simp [List.lookup, e1]
  generalize hmm : (fun y : Str => ([("self", Value.ref a), (x, v)] : List (Str × Value)).reverse.lookup y) = m at hns mx ms
  have X1 : K.In h1 := X.keeps kp
  have ekf : env.scope.kind = .function := by rw [eS]; exact B.kind
  refine ks_wpAt_execs_cons (ks_wpAt_Expr_any ?_ (by unfold interactive; rw [ekf]; rfl) (hs1 _))
  obtain ⟨pl, epl⟩ := hev env
  refine ks_wpAt_MethodCall (pl := pl) ?_ epl
  refine ks_wpAt_super_base (key B.sup) (key B.cls) (by decide) eF (kp _ _ (X _ _ ho)) rfl hp eD (kp _ _ (X _ _ hcode)) rfl hvs hfile T.top ?_
  refine ks_loadName_global ekf (key B.sup) (loadGlobal_builtin (by rw [eG]; exact hgl.keeps kp) T.sup (by rw [eB]; exact hb1.keeps kp) ((hb2 _ (by decide)).trans boot_super) ⟨rfl, ?_⟩)
  refine wpAny_loadName_free ekf (key B.cls) (by rw [eC]; rfl) ⟨_, kp _ _ (X _ _ hcell), rfl⟩ ?_
  refine wpAny_loadName_local ekf (by rw [har]; exact key B.self) (by rw [eL]; exact hns) (by rw [har]; exact ms) ?_
  refine ks_wpAny_isType_cls (kp _ _ hD1) hD2 ⟨rfl, ?_⟩
  refine ks_wpAny_call_super (kp _ _ hD1) hD2 (kp _ _ he) rfl (fun c z => by cases z) (looks_mroIn X1 T.sub) (fun h2 so k2 => ?_)
  have X2 := X1.keeps k2
  have he2 := k2 _ _ (kp _ _ he)
  have I2 : InstAt h2 a (HandSPX.excO C t0) C none := ⟨he2, rfl, rfl, trivial⟩
  refine kxs_getMethod kxs_ValueError so (looks_opaque X2 T.opq) (l₀ := Value.ref C :: bm) (fun A Q E s kk q => wpAny_bind ((looks_clsIn X2 hcl) A _ E s kk (wpAny_pure q))) rfl X2 T_hm (I2.type.andThen (looks_subIn X2 T.hB)) (ks_ne X2 I2 hcl) (by decide) ?_
  have k3 : ∀ b o, h2.get? b = some o → (h2.push (kxs_mw "ValueError.__init__" a)).get? b = some o := fun b o z => Heap.get?_push_of_some _ z
  rw [hst]
  refine kxs_callWith (i := "ValueError.__init__") (x := a) (by rfl) (evalArgs_plain ?_)
  refine spliced_cons (txt env _ m eL eS mx _ _ _ _ (by show A.units + 3 + 2 < cLine; omega) (fun b o z => k3 _ _ (k2 _ _ (kp _ _ z))) (hns.keeps fun b o z => k3 _ _ (k2 _ _ z)) fun u tk => spliced_nil ⟨Heap.get?_push_at rfl rfl, ?_⟩)
  refine call_mw (X2.keeps k3 _ _ hC) (k3 _ _ he2) (Heap.get?_push_at rfl rfl) (by rw [sizeLine_eq]; show 1 ≤ _; omega) fun h4 t4 k4 he4 => ?_
  have X4 : K.In h4 := fun b o z => k4 b o (fun e => by rw [e, ka] at z; cases z) (X2.keeps k3 b o z)
  have hnz : a ≠ h.objs.size := Nat.ne_of_lt hsz
  have hns4 : h4.Ns env.locals m := by
    rw [eL]
    obtain ⟨oL, es, ep, hL, r⟩ := hns
    exact ⟨oL, es, ep, k4 _ _ hnz.symm (k3 _ _ (k2 _ _ hL)), r⟩
  refine wpAt_of_wpAny (wpAny_execs_cons ?_)
  refine plainObj_wpAny_Assign_Attribute (nameAt rfl ekf (key B.xl) mx hns4 B.nd (nameAt rfl ekf (key B.self) ms hns4 (by decide) ?_)) (hs2 _)
  refine set_plain X4 (ox := HandSPX.excO C t4) (od := none) ⟨he4, rfl, rfl, trivial⟩ T.oex.sa ?_
  refine HandSPX.exc_osa X4 he4 hcl (show HandSPX.refsVE (.ref C :: bm) = true from hbm) rfl T.fno fun h5 tk5 dx k5 dn dne he5 hn5 => ?_
  have up : ∀ b o, b ≠ a → h.get? b = some o → h5.get? b = some o := fun b o nb z => k5 b o nb (k4 b o nb (k3 b o (k2 b o (kp b o z))))
  have sz : h.objs.size ≤ h4.objs.size := by
    obtain ⟨oL, es, ep, hL, r⟩ := hns4
    rw [eL] at hL
    exact Nat.le_of_lt (Heap.lt_size hL)
  exact wpAny_execs_nil (k h5 tk5 dx t4 up (Nat.le_trans sz dn) dne he5 hn5)
end
/-! ### C(e), as an exception that is made -/
def ToldV (K : PySem.W.Frag) (H : Hp) (v : V) : Prop := (∃ i, v = .int i ∧ i.natAbs.log2 < 1900) ∨ (∃ y : Str, v = .str y ∧ y.length ≤ 4000) ∨ ∃ (a : Addr) (is : List Int), v = .ref a ∧ SqT K H a (is.map V.int) ∧ is.length ≤ 8 ∧ ∀ i ∈ is, i.natAbs.log2 < 1900
theorem vals_ints : ∀ {is : List Int} {l : List Value}, Vals (is.map V.int) l → (∀ i ∈ is, i.natAbs.log2 < 1900) → l.length = is.length ∧ ∀ x ∈ l, ∃ i t, x = Value.int i t ∧ i.natAbs.log2 < 1900
  | [], _, r, _ => by
    cases r
    exact ⟨rfl, fun x hx => absurd hx List.not_mem_nil⟩
  | i :: is, _, r, h => by
    cases r with
    | cons r1 r2 =>
      obtain ⟨t, rfl⟩ := r1
      obtain ⟨e1, e2⟩ := vals_ints r2 fun j hj => h j (List.mem_cons_of_mem _ hj)
      refine ⟨by rw [List.length_cons, List.length_cons, e1], fun x hx => ?_⟩
      rcases List.mem_cons.mp hx with rfl | hx
      · exact ⟨i, t, rfl, h i List.mem_cons_self⟩
      · exact e2 x hx
theorem ToldV.told {X : Cx} {pins : List (Addr × Obj)} {σ : L2.St} {H : Hp} {s : Shared} (I : Inv X pins σ H s) {v : V} {u : Value} (h : ToldV X.K H v) (r : RelV v u) : Told s.heap u := by
  rcases h with ⟨i, rfl, hz⟩ | ⟨y, rfl, hz⟩ | ⟨a, is, rfl, ht, hl, hi⟩
  · obtain ⟨t, rfl⟩ := r
    exact .inl ⟨i, t, rfl, hz⟩
  · obtain ⟨t, rfl⟩ := r
    exact .inr (.inl ⟨y, t, rfl, hz⟩)
  · cases r
    obtain ⟨its, rv, ⟨o, ho, hcl, n, hd⟩, _⟩ := I.tuple ht
    obtain ⟨e1, e2⟩ := vals_ints rv hi
    exact .inr (.inr ⟨a, o, _, n, rfl, ho, hcl, hd, by rw [List.toList_toArray]; omega, by rw [List.toList_toArray]; exact e2⟩)
theorem Told.keeps {h h' : Heap} (k : ∀ b o, h.get? b = some o → h'.get? b = some o) {u : Value} (t : Told h u) : Told h' u := by
  rcases t with z | z | ⟨a, o, its, n, e, ho, r⟩
  · exact .inl z
  · exact .inr (.inl z)
  · exact .inr (.inr ⟨a, o, its, n, e, k _ _ ho, r⟩)
/-- the class's own text says so (all but what is asked of the program's other parts) -/
structure ExT (params : Arguments) (body : List Stmt) (scope : Scope) (x fld : Str) : Prop where
  bod : ∃ (arg : Expr) (p0 p1 p2 p3 p4 p5 p6 p7 p8 : Pos), body = [.Expr (.Call (.Attribute (.Call (.Name "super" p0) [] [] p1) "__init__" p2) [arg] [] p3) p4, .Assign [.Attribute (.Name "self" p5) fld p6] (.Name x p7) p8] ∧
    (∀ env, starEach [arg] env = (false, eval arg env) :: starEach [] env) ∧
    (∀ env, swapsWith (.Call (.Attribute (.Call (.Name "super" p0) [] [] p1) "__init__" p2) [arg] [] p3) none p4.line env = pure false) ∧
    (∀ env, swapsWith (.Name x p7) (some (.Attribute (.Name "self" p5) fld p6)) p8.line env = pure false) ∧
    (∀ env, ∃ pl : Sem Bool, eval (.Call (.Attribute (.Call (.Name "super" p0) [] [] p1) "__init__" p2) [arg] [] p3) env = (do
      let ov ← attributeBase (.Call (.Name "super" p0) [] [] p1) "__init__" env (eval (.Call (.Name "super" p0) [] [] p1) env)
      standAt p2.atName
      let (f, first) ← holding [ov] (getMethod ov "__init__" pl)
      callWith p3 f first (backTo p3 (starEach [arg] env)) [])) ∧
    (∀ (prog : Program) (w : World) (h0 : Heap) env L (m : Str → Option Value) u, env.locals = L → env.scope = scope → m x = some u → Told h0 u → TextOf (model prog w) h0 env L m arg)
  bind : ∀ (nm qual : Str) (body : List Stmt) (scope : Scope) (cl : List (Str × Addr)) (kV doc pm : Value) (an : Option Addr) (cdv ct a u : Value), bindArgs (PySem.W.fnX nm qual params body scope cl .none kV doc pm an cdv ct) ⟨[a, u], []⟩ = pure [(("self" : Str), a), (x, u)]
  txt : ExB params scope x
section
open PySem.W PySem.Calls PyProof.Rows
variable {X : Cx} {C D fI cc cda : Addr} {qual nm x fld : Str} {params : Arguments} {body : List Stmt} {scope : Scope} {e : Expr} {ta : TA} {y : Str} {p pos : Pos} {k : Nat}
theorem pmk_init (T : ExI X.prog X.K X.mg C D fI cc cda qual nm params body scope x fld) (B : ExT params body scope x fld) (hr : Room (k + 1) X.A) (hg : Gl X y) (hm : X.mg y = some (.ref C)) (ha : PA X [e] ta)
    (hdb : (y == ("__debug__" : Str)) = false := by decide) (he : starEach [e] X.env = (false, eval e X.env) :: starEach [] X.env := by rfl) :
    L2N.PMk X (.Call (.Name y p) [e] [] pos) (fun σ H Q => ta σ H fun vs H1 => ∃ v, vs = [v] ∧ ToldV X.K H1 v ∧ ∀ d, H1 d = none → Q (.ref C) (some d) (upd H1 d (.xd [(fld, v)]))) := by
  intro pins s σ H Q I h
  obtain ⟨arg, p0, p1, p2, p3, p4, p5, p6, p7, p8, rfl, hst, hs1, hs2, hev, htx⟩ := B.bod
  obtain ⟨nmC, q, N, bs, bm, sn, sub, ab, col, dd, k0, k1, k2, k3, k5, hC, hbm⟩ := T.oex.cls
  refine wpAny_Call_Name_kw (ld_glob I hg hm ?_ hdb)
  refine callWith_K (h₀ := X.base) I.ok.mod.kin T.oex.kC (thn (ha.run pos pins s σ H _ I h) fun us s1 hh => ?_) he rfl
  obtain ⟨vs, H1, I1, r1, v, rfl, hv, q1⟩ := hh
  refine ⟨I1.kIn, ?_⟩
  cases r1 with
  | @cons _ u _ ur ry rn =>
    cases rn
    show wpAny _ _ (call (.ref C) [u]) _ _ _
    have KI := I1.kIn
    have hvt := hv.told I1 ry
    obtain ⟨mb, b1, b2⟩ := I1.mod.blt
    have gl1 := I1.mod.glob.keeps I1.bk
    have bl1 := b1.keeps I1.bk
    have lim1 : s1.heap.NoLimit := I1.mod.nolimit.keeps I1.bk
    obtain ⟨hp, g, dr, tk, os⟩ := s1
    have kk : ∀ b o, hp.get? b = some o → ((hp.push (kdv_tup [u])).push (HandSPX.excO C hp.objs.size)).get? b = some o := fun b o z => Heap.get?_push_of_some _ (Heap.get?_push_of_some _ z)
    have hget : ((hp.push (kdv_tup [u])).push (HandSPX.excO C hp.objs.size)).get? (hp.objs.size + 1) = some (HandSPX.excO C hp.objs.size) := by heap_get
    have hka : X.K.lookup (hp.objs.size + 1) = none := by
      cases z : X.K.lookup (hp.objs.size + 1) with
      | none => rfl
      | some o => exact absurd (Nat.lt_trans (Nat.lt_succ_self _) (Heap.lt_size (KI _ _ z))) (Nat.lt_irrefl _)
    refine wpAny_call (HandSPX.call_own F.excBase_ValueError (fun Y => HandSPX.refsVE_contains Y bm hbm) (KI _ _ hC) (looks_findIn KI T.iC) (fun self => bind_fn KI self T.tI) (by rw [sizeLine_eq]; show 1 ≤ _; omega) ?_)
    refine init_run T B.txt hst (fun _ _ _ _ _ _ _ _ _ _ _ => ?_) hs1 hs2 hev (KI.keeps kk) hka (gl1.keeps kk) ⟨mb, bl1.keeps kk, b2⟩ (lim1.keeps kk) (by have := (hr.make C [u] []).dp; omega) (by have := (hr.make C [u] []).un; omega) hget
      (fun env L m e1 e2 e3 => htx _ _ _ env L m u e1 e2 e3 (hvt.keeps kk)) fun h' tk' dx t1 up dn dne hx hns => ?_
    · exact .of_eq (B.bind ..)
    · refine ⟨rfl, ?_⟩
      obtain ⟨G, g1, g2⟩ := restrict h' fun b => decide (b ≠ hp.objs.size + 1)
      have gk : ∀ b, b ≠ hp.objs.size + 1 → G.get? b = h'.get? b := fun b nb => g1 b (decide_eq_true nb)
      have ga : G.get? (hp.objs.size + 1) = none := g2 _ (by simp)
      have nb : ∀ {b : Addr} {o : Obj}, hp.get? b = some o → b ≠ hp.objs.size + 1 := fun {b o} z e => by
        have y := Heap.lt_size z
        rw [e] at y
        exact absurd (Nat.lt_trans (Nat.lt_succ_self _) y) (Nat.lt_irrefl _)
      have dle : hp.objs.size ≤ dx := by
        rw [Heap.size_push, Heap.size_push] at dn
        exact Nat.le_trans (Nat.le_trans (Nat.le_succ _) (Nat.le_succ _)) dn
      have J : Inv X pins σ (upd H1 dx (.xd [(fld, v)])) ⟨G, g, dr, tk', os⟩ := I1.laid (t' := tk') (h' := G) (a := dx) (o := .xd [(fld, v)]) (fun b o z => (gk b (nb z)).trans (up b o (nb z) (kk b o z))) dle
        ⟨_, hns.at fun o z => (gk dx dne).trans z, relO_put (fs := []) ry fun _ => trivial⟩
      refine ⟨hp.objs.size + 1, _, _, ⟨G, g, dr, tk', os⟩, _, .ref C, some dx, rfl, J, fun b o z => ?_, ga, hx, ⟨rfl, rfl, fun ws z => by cases z; rfl⟩, rfl, rfl, ?_, rfl, I1.bare, raises_own T.oex.exC T.oex.tyC, q1 dx (I1.hok.fresh dle)⟩
      · by_cases e : b = hp.objs.size + 1
        · rw [e, ga] at z
          cases z
        · exact (gk b e).symm.trans z
      · rw [upd_ne (fun z => dne z.symm)]
        exact I1.hok.fresh (Nat.le_succ _)
end
end Z
set_option Elab.async false
set_option linter.all false
set_option maxRecDepth 100000
set_option maxHeartbeats 4000000
/-! Z27: raise of an own class, try .. except X as e with a suite that returns. -/
namespace Z
open PySem L2
variable [tabsI : TabsT]
variable {S : Scp} {Γ : Cg} {δ : List Sl} {K : Kp}
/-- a class of the module, made by an __init__ as Z26 has it -/
structure ExcOk (P : Program) (K : PySem.W.Frag) (mg : Str → Option Value) (y : Str) (C : Addr) (fld : Str) : Prop where
  at_ : mg y = some (.ref C)
  ex : ∃ D fI cc cda qual nm params body scope x, ExI P K mg C D fI cc cda qual nm params body scope x fld ∧ ExT params body scope x fld
/-- what may be told of it in its text -/
def TolD : D → Prop
  | .int i => i.natAbs.log2 < 1900
  | .str y => y.length ≤ 4000
  | .tup ds => ∃ is : List Int, ds = is.map D.int ∧ is.length ≤ 8 ∧ ∀ i ∈ is, i.natAbs.log2 < 1900
  | _ => False
theorem TolD.v {KK : PySem.W.Frag} {G H : Hp} (e : Same G H) {d : D} {v : V} (h : TolD d) (r : Rep KK G H d v) : ToldV KK H v := by
  cases d <;> unfold Rep at r <;> first | exact .inl ⟨_, r, h⟩ | exact .inr (.inl ⟨_, r, h⟩) | exact h.elim | skip
  obtain ⟨is, rfl, h1, h2⟩ := h
  obtain ⟨a, vs, rfl, ht, rr⟩ := r
  rw [RepL.ints rr] at ht
  exact .inr (.inr ⟨a, is, rfl, Same.tup e ht, h1, h2⟩)
theorem js_raise [Calm Γ] {y fld : Str} {C : Addr} {p pos pos' : Pos} {e : Expr} (F : ExcOk Γ.P Γ.K Γ.mg y C fld) (hl : 2 ≤ S.lv) (hg : HasG S.gl y) (h : JE S Γ e δ fun d => TolD d ∧ Γ.ex δ (.ref C) [fld] [d])
    (hdb : (y == ("__debug__" : Str)) = false := by decide) (he : ∀ env, starEach [e] env = (false, eval e env) :: starEach [] env := by intro _; rfl) : JS S Γ (.Raise (some (.Call (.Name y p) [e] [] pos)) none pos') δ K := by
  refine ⟨fun X hX σ G H De s ev en => ?_⟩
  obtain ⟨D, fI, cc, cda, qual, nm, params, body, scope, x, T, B⟩ := F.ex
  have T' : ExI X.prog X.K X.mg C D fI cc cda qual nm params body scope x fld := by rw [hX.prog, hX.K, hX.mg]; exact T
  have hk : Gl X y := by show X.env.scope.names.lookup y = _; rw [hX.sc]; exact hX.so.gl y hg.mem
  refine PSw (L2N.ps_raise (hX.calm Calm.hx) hX.tk (pmk_init (k := 0) T' B ((hX.room Calm.hx).mono (by omega)) hk (by rw [hX.mg]; exact F.at_) (pa_cons wE_pe pa_nil (he _)) hdb (he _))) ?_
  refine h.run X hX σ G H s ev _ fun v G1 H1 d s1 r1 q => ?_
  refine ⟨v, rfl, by rw [hX.K]; exact q.1.v s1.sub r1, fun a ha => ?_⟩
  have s2 : Stp Γ.K G1 H1 (upd G1 a (.xd [(fld, v)])) (upd H1 a (.xd [(fld, v)])) := .new s1.sub ha
  exact ⟨_, δ, [fld], [d], (s.trans s1).trans s2, ev.mono (s1.trans s2), .inr ⟨a, _, rfl, upd_same, rfl, .one (r1.mono s2)⟩, q.2⟩
/-- the surroundings of a suite: the exception at h.1 is handled -/
abbrev Cg.sui (Γ : Cg) (h : Addr × Addr × Option Addr) : Cg := { Γ with ex := fun _ _ _ _ => False, md := .hot h }
/-- what an exception of the body finds: the clause's class at c, its slot i, its suite -/
def catchX (S : Scp) (Γ : Cg) (c : Value) (i : Nat) (suite : List Stmt) (R : D → Prop) : List Sl → Value → List Str → List D → Prop := fun δ' cls ns ds =>
  ∃ (C : Addr) (b : Bool), cls = .ref C ∧ PySem.W.exmOne Γ.K cls c = some b ∧
    (b = true → ∀ a d, JSs S (Γ.sui (a, C, d)) suite (δ'.set i (.fz (.exc a d ns ds))) { nx := fun _ => False, rt := R }) ∧ (b = false → Γ.ex δ' cls ns ds)
abbrev Cg.tr (Γ : Cg) (ex : List Sl → Value → List Str → List D → Prop) : Cg := { Γ with ex := ex }
instance calm_tr {Γ : Cg} {ex : List Sl → Value → List Str → List D → Prop} [c : Calm Γ] : Calm (Γ.tr ex) := ⟨c.hx⟩
theorem COk.tr {X : Cx} (hX : COk S Γ X) {ex : List Sl → Value → List Str → List D → Prop} {xe : Value → Shared → Prop} {pn : List (Addr × Obj)} (hc : Γ.md = .calm) (tk : L2N.Takes (X.tr pn xe) (wx (Γ.tr ex))) (po : PassesOwn (model X.prog X.w) X.A X.env xe) : COk S (Γ.tr ex) (X.tr pn xe) :=
  ⟨hX.so, hX.prog, hX.w, hX.K, hX.mg, hX.base, hX.N, hX.sc, hX.calm, hX.room, hX.roomH, (fun h z => by rw [show (Γ.tr ex).md = .calm from hc] at z; cases z), hX.st, (fun hb => ⟨(hX.def_ hb).1, (hX.def_ hb).2.1, (hX.def_ hb).2.2.1, po⟩), tk, hX.tb, hX.cd⟩
theorem COk.sui {X : Cx} (hX : COk S Γ X) {a C : Addr} {d : Option Addr} {oe : Obj} {pn : List (Addr × Obj)} (hz : L2N.Zn (.ref C) d oe) (hf : ∃ vs, oe.data = .fields vs) : COk S (Γ.sui (a, C, d)) (X.suite a ((a, oe) :: pn)) := by
  obtain ⟨vs, hd⟩ := hf
  refine ⟨hX.so, hX.prog, hX.w, hX.K, hX.mg, hX.base, hX.N, hX.sc, (fun z => by cases z), (fun z => by cases z), ⟨hX.roomH.dp, hX.roomH.un⟩, (fun h z => ?_), hX.st, (fun hb => ⟨(hX.def_ hb).1, (hX.def_ hb).2.1, (hX.def_ hb).2.2.1, PassesOwn.never⟩), ?_, hX.tb, hX.cd⟩
  · cases z
    exact ⟨oe, List.mem_cons_self, ⟨rfl, vs, hd, hz.2.2 vs hd⟩, hz.1, hz.2.1, rfl, vs, hd⟩
  · rintro u s' ⟨_, _, _, _, _, _, _, _, _, _, _, _, _, _, _, _, _, _, _, _, _, _, _, z⟩
    exact z.elim
theorem js_try [Calm Γ] {x n : Str} {c : Value} {i : Nat} {body suite : List Stmt} {b₀ : Stmt} {np pos pos' : Pos} (hb : Γ.blk = false) (hv : (n, i) ∈ S.ss) (hn : S.sc.names.lookup n = some .local) (hg : HasG S.gl x) (hc : Γ.mg x = some c) (hdb : (x == ("__debug__" : Str)) = false)
    (h : JSs S (Γ.tr (catchX S Γ c i (b₀ :: suite) K.rt)) body δ K) : JS S Γ (.Try body [.ExceptHandler (some (.Name x np)) (some n) (b₀ :: suite) pos'] [] [] pos) δ K := by
  refine ⟨fun X hX σ G H De s ev en => ?_⟩
  obtain ⟨h1, h2, h3⟩ := hX.loc hv
  obtain ⟨d1, d2, d3, d4⟩ := hX.def_ hb
  have hk : Gl X x := by show X.env.scope.names.lookup x = _; rw [hX.sc]; exact hX.so.gl x hg.mem
  refine PSw (L2N.ps_try_as (n := n) (i := i) (c := c) (tb := fun W D σ H => ∀ pn xe, L2N.Takes (X.tr pn xe) W → PassesOwn (model X.prog X.w) X.A X.env xe → wSs (X.tr pn xe) body D σ H)
    (ts := fun a cls d D σ H => ∀ oe pn, L2N.Zn cls d oe → (∃ vs, oe.data = .fields vs) → wSs (X.suite a ((a, oe) :: pn)) (b₀ :: suite) D σ H) d1 d2 (by rw [hX.N]; exact hX.so.nd) h1
    (by show X.env.scope.names.lookup n = _; rw [hX.sc]; exact hn) ⟨hk, hdb, .inl (by rw [hX.mg]; exact hc)⟩ hX.tk (fun W pn xe tk po => ⟨fun pins s σ H D I q => q pn xe tk po pins s I⟩) (fun a oe cls d pn hz hf => ⟨fun pins s σ H D I q => q oe pn hz hf pins s I⟩)) ?_
  intro pn xe tk po
  refine h.run (X.tr pn xe) (hX.tr Calm.hx (tk.imp ?_) po) σ G H De s ev ⟨en.nx, en.bk, en.ct, en.rt, en.rf⟩
  rintro cls d σ' H' ⟨G', δ', ns, ds, s', ev', xd, C, b, rfl, hm, yes, no⟩
  refine ⟨b, by rw [hX.K]; exact hm, fun e a na oe pn' hz hf => ?_, fun e => ⟨G', δ', ns, ds, s', ev', xd, no e⟩⟩
  have rp : Rep Γ.K G' H' (.exc a d ns ds) (.ref a) := by
    unfold Rep
    refine ⟨rfl, ?_⟩
    rcases xd with ⟨rfl, rfl, rfl⟩ | ⟨dd, fs, e1, e2, e3, e4⟩
    · exact ⟨[], .inl ⟨rfl, rfl, rfl⟩, .nil⟩
    · exact ⟨_, .inr ⟨dd, fs, e1, e2, e3, rfl⟩, e4⟩
  exact (yes e a d).run _ (hX.sui hz hf) _ G' H' _ s' (ev'.set rp) ⟨fun _ _ _ _ _ _ _ q => q.elim, fun _ _ _ _ _ _ _ q => q.elim, fun _ _ _ _ _ _ _ q => q.elim, en.rt, en.rf⟩
end Z
set_option Elab.async false
set_option linter.all false
set_option maxRecDepth 100000
set_option maxHeartbeats 4000000
/-! Z28: within a suite: isinstance of the caught exception, its fields, comprehensions over lists, sum. -/
namespace Z
open PySem L2
variable [tabsI : TabsT]
class HotG (Γ : Cg) : Prop where
  hx : ∃ h, Γ.md = .hot h
instance hot_sui {Γ : Cg} {h : Addr × Addr × Option Addr} : HotG (Γ.sui h) := ⟨h, rfl⟩
instance hot_of {P : Program} {w : World} {K : PySem.W.Frag} {mg : Str → Option Value} {base : Heap} {G H : Hp} {ex : List Sl → Value → List Str → List D → Prop} {hx : Addr × Addr × Option Addr} : HotG (cgOfH P w K mg base G H ex hx) := ⟨hx, rfl⟩
variable {S S' : Scp} {Γ : Cg} {δ : List Sl} {K : Kp}
theorem COk.hotC [HotG Γ] {X : Cx} (hX : COk S Γ X) : L2H.HotC X ∧ X.calm = false := by
  obtain ⟨h, e⟩ := HotG.hx (Γ := Γ)
  obtain ⟨oe, h1, h2, _, _, h3, _⟩ := hX.hot h e
  exact ⟨⟨_, h2, h1⟩, h3⟩
/-! ### comprehensions -/
theorem pe_lcH {X : Cx} {elt tg iter : Expr} {ifs : List Expr} {scope : Scope} {own : List (Str × Nat)} {pos : Pos} {wi : TI} {g : TG} {tt : TT} {te : TE} (hot : L2H.HotC X) (nd : X.N.Nodup) (hi : L2H.PIH X tg iter wi) (ok : BlkOk X.N X.env.scope scope own)
    (hg : ∀ s H C cl fp, PG (X.blk s H scope (compEnvC scope cl C X.env) fp) tg g) (ht : ∀ s H C cl fp, PTs (X.blk s H scope (compEnvC scope cl C X.env) fp) ifs tt) (he : ∀ s H C cl fp, PE (X.blk s H scope (compEnvC scope cl C X.env) fp) elt te)
    (hs : ∀ x, foldedSetIterable iter X.env x = pure x) : PE X (.ListComp elt [⟨tg, iter, ifs, 0⟩] scope pos) (tLc wi g tt te (own.map (·.2))) := by
  refine ⟨fun pins s σ H Q I h => ?_⟩
  rw [eval_ListComp]
  refine Zh.lc_hot hot nd I hi ok hg ht he hs h fun D C s' m H' J q hn f => ⟨m, hn, fun h2 sb => ⟨.ref D, H', J.turned (t' := s'.toks) (fun b o hb e => (sb.2 b hb).trans e) f.1 f.2.1 f.2.2.2.1 f.2.2.2.2.1 f.2.2.2.2.2, rfl, q⟩⟩
theorem jf_lcH [HotG Γ] {tg elt iter : Expr} {ifs : List Expr} {scope : Scope} {own : List (Str × Nat)} {pos : Pos} {PL : List D → Prop} (B : BlkS S S' scope own)
    (h : JI S Γ tg iter δ fun n f => ∃ A : Nat → List D → Prop, A 0 [] ∧ (∀ i acc, i < n → A i acc → JGW S' Γ.inBlk (own.map (·.2)) tg (f i) (wipeD δ (own.map (·.2))) fun δ2 => JTs S' Γ.inBlk ifs δ2 fun t => if t = true then JE S' Γ.inBlk elt δ2 fun d => acc.length < sizeLine ∧ A (i + 1) (acc ++ [d]) else A (i + 1) acc) ∧ ∀ acc, A n acc → PL acc)
    (hs : ∀ env x, foldedSetIterable iter env x = pure x := by intros; rfl) : JF S Γ (.ListComp elt [⟨tg, iter, ifs, 0⟩] scope pos) δ PL := by
  refine ⟨fun X hX σ G H s ev Q k => ?_⟩
  obtain ⟨hc, hf⟩ := hX.hotC
  refine PEw (pe_lcH hc (by rw [hX.N]; exact hX.so.nd) (wI_piH hf) (by rw [hX.N, hX.sc]; exact B.ok) (fun s H C cl fp => ⟨fun pins s0 σ H0 v u Q I r q => q s H C cl fp pins s0 u I r⟩) (fun s H C cl fp => ⟨fun pins s0 σ H0 Q I q => q s H C cl fp pins s0 I⟩) (fun s H C cl fp => ⟨fun pins s0 σ H0 Q I q => q s H C cl fp pins s0 I⟩) (hs _)) (lc_t B h hX s ev k)
theorem cd_sumH [HotG Γ] {is : List Int} {P : D → Prop} (h : P (.int is.sum)) : CallD S Γ (.builtin "sum") [.lst (is.map D.int)] P := by
  refine ⟨fun X hX vs G H st r Q k => ?_⟩
  obtain ⟨v, rfl, r1⟩ := repL1 r
  unfold Rep at r1
  obtain ⟨p, ys, rfl, h1, h2⟩ := r1
  rw [RepL.ints h2] at h1
  exact CallRw (Zh.cr_sumH hX.hotC.1) ⟨p, is, rfl, .inl (.inl (st.sub _ _ h1)), k _ G H _ (.refl st.sub) rep_int h⟩
/-! ### the caught exception asked -/
theorem XdV.inst {P : Program} {w : World} {G H : Hp} {h : Heap} {a C : Addr} {d : Option Addr} {ns : List Str} {vs : List V} {oe : Obj} (x : XdV G d ns vs) (st : Same G H) (hok : HOk P w H h) (g : h.get? a = some oe) (c : oe.cls = .ref C) (dd : oe.dict = d) (f : ∃ vs, oe.data = .fields vs) :
    ∃ od, PySem.W.InstAt h a oe C od := by
  obtain ⟨fv, hd⟩ := f
  have nc : PySem.W.notCls oe = true := by unfold PySem.W.notCls; rw [hd] <;> rfl
  rcases x with ⟨rfl, _, _⟩ | ⟨x, fs, rfl, g1, _, _⟩
  · exact ⟨none, g, c, nc, by rw [dd]; trivial⟩
  · obtain ⟨mA, hns, _⟩ : ObjOk P w H h x (.xd fs) := hok x _ (st _ _ g1)
    obtain ⟨od, ho, _⟩ := lookIn_ns hns
    exact ⟨some od, g, c, nc, by rw [dd]; exact ho⟩
def clsV : D → Option Value
  | .cls a => some (.ref a)
  | .ty n => some (.type n)
  | _ => none
theorem clsV_eq {KK : PySem.W.Frag} {G H : Hp} {c : D} {cv : Value} {v : V} {u : Value} (h : clsV c = some cv) (r : Rep KK G H c v) (ru : RelV v u) : u = cv := by
  cases c <;> first | (cases h; done) | skip
  all_goals
    unfold Rep at r
    subst r
    cases h
    first | exact ru | (cases ru; rfl)
theorem cd_isE {a C : Addr} {d : Option Addr} {ns : List Str} {ds : List D} {c : D} {cv : Value} {b : Bool} {P : D → Prop} (hmd : Γ.md = .hot (a, C, d)) (T : ExcC Γ.K C) (hc : clsV c = some cv) (e : PySem.W.kitOne Γ.K (.ref C) cv = some b) (h : P (.bl b)) :
    CallD S Γ (.builtin "isinstance") [.exc a d ns ds, c] P := by
  refine ⟨fun X hX vs G H st r Q k => ?_⟩
  obtain ⟨v, u, rfl, r1, r2⟩ := repL2 r
  unfold Rep at r1
  obtain ⟨rfl, ws, xv, _⟩ := r1
  obtain ⟨oe, p1, _, p3, p4, _, p5⟩ := hX.hot _ hmd
  intro pins s σ us I rr
  cases rr with
  | cons ra rr =>
    cases rr with
    | cons rc rr =>
      cases rr
      cases ra
      cases clsV_eq hc r2 rc
      have P1 := I.pin (a, oe) (List.mem_append_left _ p1)
      obtain ⟨od, J⟩ := xv.inst st.sub I.hok P1.1 p3 p4 p5
      obtain ⟨cd, hcl, _⟩ := PySem.W.any_some T.hd
      exact PySem.W.kia_one (PySem.W.kitx_exc (od := od) (ox := oe) (by rw [hX.K, hcl]; rfl) (by rw [hX.K]; exact T.hg) (by rw [hX.K]; exact T.hk) (by rw [hX.K]; exact T.hs) (by rw [hX.K]; exact T.ha) (by rw [hX.K]; exact T.hn) (by rw [hX.K]; exact T.ht) (by rw [hX.K]; exact T.hm)) I.kIn J (by rw [hX.K]; exact e) (fun z => nomatch z)
        fun tk => ⟨.bl b, H, I.kept (t' := tk) fun _ _ z => z, rfl, k _ G H _ (.refl st.sub) rep_bl h⟩
/-- e.f -/
theorem je_excF {a C : Addr} {d : Option Addr} {n : Str} {e : Expr} {pos : Pos} {P : D → Prop} (hmd : Γ.md = .hot (a, C, d)) (T : ExcC Γ.K C) (hno : PySem.W.findIn Γ.K (.ref C) n = some none)
    (h : JE S Γ e δ fun x => ∃ ns ds y, x = .exc a d ns ds ∧ (ns.zip ds).lookup n = some y ∧ P y) (hb : ∀ env, attributeBase e n env (eval e env) = eval e env := by intro _; rfl) : JE S Γ (.Attribute e n pos) δ P := by
  refine ⟨fun X hX σ G H st ev Q k => fun pins s I => ?_⟩
  obtain ⟨oe, p1, _, p3, p4, _, p5⟩ := hX.hot _ hmd
  refine attr_of (hb _) (thn (h.run X hX σ G H st ev (fun v H1 => v = .ref a ∧ ∃ (x : Addr) (fs : List (Str × V)) (y : V), d = some x ∧ H1 x = some (.xd fs) ∧ fs.lookup n = some y ∧ Q y H1) (fun v G1 H1 x s1 r1 q => ?_) pins s I) fun u s1 hh => ?_)
  · obtain ⟨ns, ds, y, rfl, hl, py⟩ := q
    unfold Rep at r1
    obtain ⟨rfl, vs, xv, rl⟩ := r1
    rcases xv with ⟨_, rfl, rfl⟩ | ⟨x, fs, rfl, g1, e1, rfl⟩
    · cases hl
    · obtain ⟨w, e2, r2⟩ := lookup_rep e1 rl hl
      exact ⟨rfl, x, fs, w, rfl, s1.sub _ _ g1, e2, k w G1 H1 y s1 r2 py⟩
  · obtain ⟨v, H1, I1, rv, rfl, x, fs, y, hd, hx, hl, q⟩ := hh
    cases rv
    obtain ⟨mA, hns, rel⟩ : ObjOk X.prog X.w H1 s1.heap x (.xd fs) := I1.hok x _ hx
    obtain ⟨od, ho, hlk⟩ := lookIn_ns hns
    obtain ⟨z, hz, rz⟩ := RelO.some_of (v := y) (o := mA n) (by rw [← hl]; exact rel n)
    have P1 := I1.pin (a, oe) (List.mem_append_left _ p1)
    obtain ⟨fv, hfv⟩ := p5
    have J : PySem.W.InstAt s1.heap a oe C (some od) := ⟨P1.1, p3, by unfold PySem.W.notCls; rw [hfv] <;> rfl, by rw [p4, hd]; exact ho⟩
    have K0 := I1.kIn
    rw [hX.K] at K0
    exact HandSPX.exc_get K0 J T.hg T.hk T.hs (PySem.W.findObj_own T.hd hno rfl (by rw [hlk, hz])) (handed_of rz) ⟨y, H1, I1.tok _, rz, q⟩
/-! raise C() of an own error class without an __init__ of its own -/
section
abbrev veBases : List Value := [.type "ValueError", .type "Exception", .type "BaseException", .type "object"]
/-- an own class over ValueError without __init__ -/
structure Exc0 (K : PySem.W.Frag) (mg : Str → Option Value) (y : Str) (C : Addr) : Prop where
  at_ : mg y = some (.ref C)
  q : PySem.W.excIn K C veBases "ValueError.__new__" = true
  kC : PySem.W.keepIn K (.ref C) = true
  exC : PySem.W.subIn K (.ref C) (.type "BaseException") = some true
  tyC : PySem.W.typeIn K (.ref C) = some (.type "type")
variable {S : Scp} {Γ : Cg} {δ : List Sl} {K : Kp}
end
end Z
set_option Elab.async false
set_option linter.all false
set_option maxRecDepth 100000
set_option maxHeartbeats 4000000
/-! Z29: the program's error classes: what a module's facts say of them; the rules by their names. -/
namespace Z
open PySem L2
variable [tabsI : TabsT]
theorem tolI {i : Int} (h : i.natAbs.log2 < 1900) : TolD (.int i) := h
theorem exc_look {n f : Str} {v : D} (h : n = f) : ([f].zip [v]).lookup n = some v := by
  subst h
  simp [List.lookup]
/-- the field that an error class keeps -/
def fldOf (y : Str) : Str :=
  if y = "BadText" ∨ y = "BadPlan" ∨ y = "BadCourse" then "at" else if y = "BadPage" then "row" else if y = "TooLong" ∨ y = "TooDeep" ∨ y = "TooMany" then "limit" else if y = "Untold" then "degree" else if y = "HasGap" then "gap" else "name"
/-- is an error of the class y one of the class z -/
def isSub (y z : Str) : Bool := decide (y = z) || decide (z = "TrialError") || (decide (z = "Refused") && decide (y = "Begun" ∨ y = "Unknown" ∨ y = "Twice" ∨ y = "Stopped" ∨ y = "NotEnded"))
structure ErrC (U : Env1) (XA : Str → Addr) (made raised names : List Str) : Prop where
  mkx : ∀ y ∈ made, ExcOk U.P U.K U.mg y (XA y) (fldOf y)
  ec : ∀ y ∈ raised, ExcC U.K (XA y)
  mg : ∀ y ∈ names, U.mg y = some (.ref (XA y))
  kit : ∀ y ∈ raised, ∀ z ∈ names, PySem.W.kitOne U.K (.ref (XA y)) (.ref (XA z)) = some (isSub y z)
  kv : ∀ y ∈ raised, PySem.W.kitOne U.K (.ref (XA y)) (.type "ValueError") = some true
  ex : ∀ y ∈ raised, ∀ z ∈ names, PySem.W.exmOne U.K (.ref (XA y)) (.ref (XA z)) = some (isSub y z)
  fn : ∀ y ∈ made, PySem.W.findIn U.K (.ref (XA y)) (fldOf y) = some none
  mk0 : ∀ y ∈ raised, y ∉ made → Exc0 U.K U.mg y (XA y)
section
variable {U : Env1} {XA : Str → Addr} {made raised names : List Str} {S : Scp} {Γ : Cg} {δ : List Sl} {K : Kp} {P : D → Prop} {pos : Pos}
theorem ErrC.kitT (h : ErrC U XA made raised names) {y z : Str} (hy : y ∈ raised) (hz : z ∈ names) (e : isSub y z = true) : PySem.W.kitOne U.K (.ref (XA y)) (.ref (XA z)) = some true := by rw [h.kit y hy z hz, e]
theorem ErrC.kitF (h : ErrC U XA made raised names) {y z : Str} (hy : y ∈ raised) (hz : z ∈ names) (e : isSub y z = false) : PySem.W.kitOne U.K (.ref (XA y)) (.ref (XA z)) = some false := by rw [h.kit y hy z hz, e]
theorem ErrC.exT (h : ErrC U XA made raised names) {y z : Str} (hy : y ∈ raised) (hz : z ∈ names) (e : isSub y z = true) : PySem.W.exmOne U.K (.ref (XA y)) (.ref (XA z)) = some true := by rw [h.ex y hy z hz, e]
/-- raise y(e) -/
theorem zs_raise [Calm Γ] {y : Str} {p pos pos' : Pos} {e : Expr} (hE : ErrC U XA made raised names) (hP : Γ.P = U.P) (hK : Γ.K = U.K) (hM : Γ.mg = U.mg) (hy : y ∈ made) (hl : 2 ≤ S.lv) (hg : HasG S.gl y) (h : JE S Γ e δ fun d => TolD d ∧ Γ.ex δ (.ref (XA y)) [fldOf y] [d])
    (hdb : (y == ("__debug__" : Str)) = false := by decide) (he : ∀ env, starEach [e] env = (false, eval e env) :: starEach [] env := by intro _; rfl) : JS S Γ (.Raise (some (.Call (.Name y p) [e] [] pos)) none pos') δ K :=
  js_raise (by rw [hP, hK, hM]; exact hE.mkx y hy) hl hg h hdb he
/-- an exception reaches the clause of its class -/
theorem catchT (hE : ErrC U XA made raised names) (hK : Γ.K = U.K) {y z : Str} {i : Nat} {suite : List Stmt} {R : D → Prop} {δ' : List Sl} {ns : List Str} {ds : List D} (hy : y ∈ raised) (hz : z ∈ names) (e : isSub y z = true)
    (h : ∀ a d, JSs S (Γ.sui (a, XA y, d)) suite (δ'.set i (.fz (.exc a d ns ds))) { nx := fun _ => False, rt := R }) : catchX S Γ (.ref (XA z)) i suite R δ' (.ref (XA y)) ns ds :=
  ⟨XA y, true, rfl, by rw [hK]; exact hE.exT hy hz e, fun _ => h, fun z => by cases z⟩
theorem zs_try [Calm Γ] {x n : Str} {i : Nat} {body suite : List Stmt} {b₀ : Stmt} {np pos pos' : Pos} {N B C : List Sl → Prop} {R : D → Prop} (hE : ErrC U XA made raised names) (hM : Γ.mg = U.mg) (hb : Γ.blk = false) (hv : Has S.ss n i) (hn : S.sc.names.lookup n = some .local) (hg : HasG S.gl x) (hx : x ∈ names) (hdb : (x == ("__debug__" : Str)) = false)
    (h : JSs S (Γ.tr (catchX S Γ (.ref (XA x)) i (b₀ :: suite) R)) body δ ⟨N, R, B, C⟩) : JS S Γ (.Try body [.ExceptHandler (some (.Name x np)) (some n) (b₀ :: suite) pos'] [] [] pos) δ ⟨N, R, B, C⟩ :=
  js_try hb hv.mem hn hg (by rw [hM]; exact hE.mg x hx) hdb h
/-- isinstance(e, z) of the caught y -/
theorem cd_isEF (hE : ErrC U XA made raised names) (hK : Γ.K = U.K) {y z : Str} {a : Addr} {d : Option Addr} {ns : List Str} {ds : List D} (hmd : Γ.md = .hot (a, XA y, d)) (hy : y ∈ raised) (hz : z ∈ names) (e : isSub y z = false) (h : P (.bl false)) : CallD S Γ (.builtin "isinstance") [.exc a d ns ds, .cls (XA z)] P :=
  cd_isE hmd (by rw [hK]; exact hE.ec y hy) rfl (by rw [hK]; exact hE.kitF hy hz e) h
theorem cd_isET (hE : ErrC U XA made raised names) (hK : Γ.K = U.K) {y z : Str} {a : Addr} {d : Option Addr} {ns : List Str} {ds : List D} (hmd : Γ.md = .hot (a, XA y, d)) (hy : y ∈ raised) (hz : z ∈ names) (e : isSub y z = true) (h : P (.bl true)) : CallD S Γ (.builtin "isinstance") [.exc a d ns ds, .cls (XA z)] P :=
  cd_isE hmd (by rw [hK]; exact hE.ec y hy) rfl (by rw [hK]; exact hE.kitT hy hz e) h
theorem cd_isEV (hE : ErrC U XA made raised names) (hK : Γ.K = U.K) {y : Str} {a : Addr} {d : Option Addr} {ns : List Str} {ds : List D} (hmd : Γ.md = .hot (a, XA y, d)) (hy : y ∈ raised) (h : P (.bl true)) : CallD S Γ (.builtin "isinstance") [.exc a d ns ds, .ty "ValueError"] P :=
  cd_isE hmd (by rw [hK]; exact hE.ec y hy) rfl (by rw [hK]; exact hE.kv y hy) h
theorem ze_excF (hE : ErrC U XA made raised names) (hK : Γ.K = U.K) {y n : Str} {a : Addr} {d : Option Addr} {e : Expr} {pos : Pos} (hmd : Γ.md = .hot (a, XA y, d)) (hy : y ∈ raised) (hm : y ∈ made) (hn : n = fldOf y) (h : JE S Γ e δ fun x => ∃ ns ds v, x = .exc a d ns ds ∧ (ns.zip ds).lookup n = some v ∧ P v)
    (hb : ∀ env, attributeBase e n env (eval e env) = eval e env := by intro _; rfl) : JE S Γ (.Attribute e n pos) δ P :=
  je_excF hmd (by rw [hK]; exact hE.ec y hy) (by rw [hK, hn]; exact hE.fn y hm) h hb
theorem ze_err (hE : ErrC U XA made raised names) (hM : Γ.mg = U.mg) {z : Str} {pos : Pos} (hg : HasG S.gl z) (hz : z ∈ names) (h : P (.cls (XA z))) (hdb : (z == ("__debug__" : Str)) = false) : JE S Γ (.Name z pos) δ P := je_globA hg.mem (by rw [hM]; exact hE.mg z hz) h hdb
theorem zt_VE (hg : HasG S.gl "ValueError") (hm : Γ.mg "ValueError" = none) (h : P (.ty "ValueError")) : JE S Γ (.Name "ValueError" pos) δ P := je_globT hg.mem hm (by decide +kernel) h (by decide) (by decide)
end
end Z
set_option Elab.async false
set_option linter.all false
set_option maxRecDepth 100000
set_option maxHeartbeats 4000000
/-! Z30: len of an instance of an own class. -/
namespace Z
open PySem L2 PyProof.Rows
variable [tabsI : TabsT]
/-- the answer that a contract may give where a length is wanted -/
def ansL (P : Int → Prop) (d : D) : Prop := ∃ i : Int, d = .int i ∧ (0 ≤ i ∧ i < 2 ^ 63) ∧ P i
end Z
set_option Elab.async false
set_option linter.all false
set_option maxRecDepth 100000
set_option maxHeartbeats 4000000
/-! Z31: the error classes' facts from what the top says. -/
namespace Z
open PySem L2
variable [tabsI : TabsT]
section
variable {K : PySem.W.Frag} {y z : Addr} {b : Bool}
theorem cls_some (hd : PySem.W.hasDictIn K z = true) : (PySem.W.clsIn K z).isSome = true := by
  obtain ⟨cd, h, _⟩ := PySem.W.any_some hd
  rw [h]
  rfl
theorem kit_of2 (hd : PySem.W.hasDictIn K z = true) (ht : PySem.W.typeIn K (.ref z) = some (.type "type")) (hs : PySem.W.subIn K (.ref y) (.ref z) = some b) (hr : y = z → b = true) : PySem.W.kitOne K (.ref y) (.ref z) = some b := by
  unfold PySem.W.kitOne
  split
  · rename_i h
    rw [hr (Value.ref.inj (beq_iff_eq.mp h))]
  · show (if ((PySem.W.clsIn K z).isSome && PySem.W.typeIn K (.ref z) == some (.type "type")) = true then _ else none) = _
    rw [if_pos (by rw [cls_some hd, ht]; rfl)]
    exact hs
theorem exm_of2 (he : PySem.W.subIn K (.ref z) (.type "BaseException") = some true) (hd : PySem.W.hasDictIn K z = true) (ht : PySem.W.typeIn K (.ref z) = some (.type "type")) (hs : PySem.W.subIn K (.ref y) (.ref z) = some b) : PySem.W.exmOne K (.ref y) (.ref z) = some b := PySem.W.exm_ref he hd ht hs
theorem kit_VE (hs : PySem.W.subIn K (.ref y) (.type "ValueError") = some true) : PySem.W.kitOne K (.ref y) (.type "ValueError") = some true := by
  unfold PySem.W.kitOne
  rw [if_neg (by simp)]
  show (if PySem.W.kitMeta "ValueError" = true then _ else none) = _
  rw [if_pos (by decide +kernel)]
  exact hs
end
end Z
set_option Elab.async false
set_option linter.all false
set_option maxRecDepth 100000
set_option maxHeartbeats 4000000
/-! Z32: data with own lists in it: made, kept in a slot, looked at (view), changed at a path, frozen, handed back. -/
namespace Z
open PySem L2
variable [tabsI : TabsT]

mutual
def MT.flat : MT → D
  | .fz d => d
  | .ls ts => .lst (MT.flatL ts)
  | .tp ts => .tup (MT.flatL ts)
def MT.flatL : List MT → List D
  | [] => []
  | t :: ts => t.flat :: MT.flatL ts
end
theorem flatL_map : ∀ ts : List MT, MT.flatL ts = ts.map MT.flat
  | [] => by unfold MT.flatL; rfl
  | t :: ts => by unfold MT.flatL; rw [flatL_map ts]; rfl
theorem flatL_fz : ∀ ds : List D, MT.flatL (ds.map .fz) = ds
  | [] => by rw [List.map_nil]; unfold MT.flatL; rfl
  | d :: ds => by rw [List.map_cons]; unfold MT.flatL; rw [flatL_fz ds]; rfl
abbrev MT.fzs (ds : List D) : MT := .ls (ds.map .fz)
/-- the addresses put among what never changes -/
def frz (G H : Hp) (as : List Addr) : Hp := fun b => if b ∈ as then H b else G b
def unfrz (G : Hp) (as : List Addr) : Hp := fun b => if b ∈ as then none else G b
section
variable {K : PySem.W.Frag} {G H G' H' G2 H2 H0 : Hp} {as bs : List Addr}
theorem frz_in {b : Addr} (h : b ∈ as) : frz G H as b = H b := if_pos h
theorem frz_out {b : Addr} (h : b ∉ as) : frz G H as b = G b := if_neg h
theorem unfrz_out {b : Addr} (h : b ∉ as) : unfrz G as b = G b := if_neg h
/-- own lists -/
def OwnL (G H : Hp) (as : List Addr) : Prop := ∀ a ∈ as, G a = none ∧ ∃ vs, H a = some (.lst vs)
theorem OwnL.same (o : OwnL G H as) : Same G (frz G H as) := fun b u q => by
  rw [frz_out]
  · exact q
  · intro h
    rw [(o b h).1] at q
    cases q
theorem OwnL.mo (o : OwnL G H as) : Mo K G H (frz G H as) H := by
  refine ⟨o.same, fun a cells n q => ?_⟩
  obtain ⟨kvs, h1, h2⟩ := q
  have z : a ∉ as := by
    intro z
    obtain ⟨_, vs, h3⟩ := o a z
    rw [h1] at h3
    cases h3
  exact ⟨by rw [frz_out z]; exact n, kvs, h1, h2.mono o.same⟩
theorem OwnL.sub (o : OwnL G H as) (s : Same G H) : Same (frz G H as) H := fun b u q => by
  by_cases z : b ∈ as
  · rw [frz_in z] at q; exact q
  · rw [frz_out z] at q; exact s b u q
theorem Stp.frz (s : Stp K G H G' H') (o : OwnL G' H' as) (h0 : ∀ a ∈ as, H a = none) : Stp K G H (Z.frz G' H' as) H' := by
  refine ⟨s.exG.trans o.same, o.sub s.sub, fun b u q n => ?_, fun t => ⟨(s.tab t).tb, fun x hx => by rw [frz_out (fun z => (s.tab t).ne hx (fun ps w => by obtain ⟨_, vs, h⟩ := o _ z; rw [h] at w; cases w) rfl)]; exact (s.tab t).gn x hx, fun a us q => by
    rw [frz_out (fun z => by obtain ⟨_, vs, h⟩ := o a z; rw [h] at q; cases q)]; exact (s.tab t).tg a us q⟩⟩
  have z : b ∉ as := fun z => by rw [h0 b z] at q; cases q
  obtain ⟨n', q'⟩ := s.own b u q n
  refine ⟨by rw [frz_out z]; exact n', ?_⟩
  rcases q' with q' | ⟨q1, o', q2, q3, q4⟩
  · exact .inl q'
  · exact .inr ⟨q1, o', q2, q3, fun cells w => by
      obtain ⟨kvs, w1, w2⟩ := q4 cells w
      exact ⟨kvs, w1, w2.mono o.same⟩⟩
mutual
theorem Rep.unfrz (g : ∀ p ∈ as, ∃ vs, G p = some (.lst vs)) : ∀ {d : D} {v : V}, flatD d → Rep K G H d v → Rep K (Z.unfrz G as) H d v
  | .non, v, _, h => by unfold Rep at h ⊢; exact h
  | .bl b, v, _, h => by unfold Rep at h ⊢; exact h
  | .int i, v, _, h => by unfold Rep at h ⊢; exact h
  | .str x, v, _, h => by unfold Rep at h ⊢; exact h
  | .tup ds, v, f, h => by
    unfold Rep at h ⊢
    unfold flatD at f
    obtain ⟨a, vs, e, h1, h2⟩ := h
    refine ⟨a, vs, e, ?_, RepL.unfrz g f h2⟩
    rw [unfrz_out (fun z => by obtain ⟨vs, w⟩ := g a z; rw [w] at h1; cases h1)]
    exact h1
  | .lst ds, v, f, h => by unfold flatD at f; exact f.elim
  | .obj C ns ds, v, f, h => by
    unfold Rep at h ⊢
    unfold flatD at f
    obtain ⟨a, dx, fs, e, h1, h2, h3⟩ := h
    refine ⟨a, dx, fs, e, ?_, h2, RepL.unfrz g f h3⟩
    rw [unfrz_out (fun z => by obtain ⟨vs, w⟩ := g a z; rw [w] at h1; cases h1)]
    exact h1
  | .cls a, v, _, h => by unfold Rep at h ⊢; exact h
  | .ty n, v, _, h => by unfold Rep at h ⊢; exact h
  | .sto cells, v, f, h => by unfold flatD at f; exact f.elim
  | .scr ns, v, f, h => by unfold flatD at f; exact f.elim
  | .exc a d ns ds, v, f, h => by unfold flatD at f; exact f.elim
  | .dic ks ds, v, f, h => by unfold flatD at f; exact f.elim
theorem RepL.unfrz (g : ∀ p ∈ as, ∃ vs, G p = some (.lst vs)) : ∀ {ds : List D} {vs : List V}, flatL ds → RepL K G H ds vs → RepL K (Z.unfrz G as) H ds vs
  | [], vs, _, h => by unfold RepL at h ⊢; exact h
  | d :: ds, vs, f, h => by
    unfold RepL at h ⊢
    unfold flatL at f
    obtain ⟨v, r, e, h1, h2⟩ := h
    exact ⟨v, r, e, Rep.unfrz g f.1 h1, RepL.unfrz g f.2 h2⟩
end
mutual
theorem MRep.flat (m : Mo K G H G' H') : ∀ {t : MT} {v : V} {bs : List Addr}, (∀ a ∈ bs, ∀ o, H a = some o → G' a = some o) → MRep K G H t v bs → Rep K G' H' t.flat v
  | .fz d, v, bs, k, h => by
    unfold MRep at h
    unfold MT.flat
    exact h.2.mo m
  | .ls ts, v, bs, k, h => by
    unfold MRep at h
    obtain ⟨p, vs, cs, e1, h1, e2, h2⟩ := h
    unfold MT.flat Rep
    exact ⟨p, vs, e1, k p (by rw [e2]; exact .head _) _ h1, MRepL.flat m (fun a ha => k a (by rw [e2]; exact .tail _ ha)) h2⟩
  | .tp ts, v, bs, k, h => by
    unfold MRep at h
    obtain ⟨p, vs, e1, h1, h2⟩ := h
    unfold MT.flat Rep
    exact ⟨p, vs, e1, m.exG _ _ h1, MRepL.flat m k h2⟩
theorem MRepL.flat (m : Mo K G H G' H') : ∀ {ts : List MT} {vs : List V} {bs : List Addr}, (∀ a ∈ bs, ∀ o, H a = some o → G' a = some o) → MRepL K G H ts vs bs → RepL K G' H' (MT.flatL ts) vs
  | [], vs, bs, k, h => by
    unfold MRepL at h
    unfold MT.flatL RepL
    exact h.1
  | t :: ts, vs, bs, k, h => by
    unfold MRepL at h
    obtain ⟨v, r, a, b, e1, e2, h1, h2⟩ := h
    unfold MT.flatL RepL
    exact ⟨v, r, e1, MRep.flat m (fun x hx => k x (by rw [e2]; exact List.mem_append_left _ hx)) h1, MRepL.flat m (fun x hx => k x (by rw [e2]; exact List.mem_append_right _ hx)) h2⟩
end
theorem MRepL.stp (s : Stp K G H G' H') {ts : List MT} {vs : List V} (h : MRepL K G H ts vs as) (g : ∀ a ∈ as, G a = none) : MRepL K G' H' ts vs as ∧ ∀ a ∈ as, G' a = none := by
  have k : ∀ a ∈ as, H' a = H a ∧ G' a = none := fun a ha => by
    obtain ⟨vs, h1⟩ := h.own a ha
    obtain ⟨g', q⟩ := s.own a _ h1 (g a ha)
    rcases q with q | ⟨q, _⟩
    · exact ⟨by rw [q, h1], g'⟩
    · exact q.elim
  exact ⟨h.mo s.mo fun a ha => (k a ha).1, fun a ha => (k a ha).2⟩
theorem MRepL.length : ∀ {ts : List MT} {vs : List V} {as : List Addr}, MRepL K G H ts vs as → vs.length = ts.length
  | [], vs, as, h => by
    unfold MRepL at h
    rw [h.1]
    rfl
  | t :: ts, vs, as, h => by
    unfold MRepL at h
    obtain ⟨v, r, a, b, e1, e2, h1, h2⟩ := h
    rw [e1, List.length_cons, List.length_cons, h2.length]
theorem MRepL.append : ∀ {ts us : List MT} {vs ws : List V} {as bs : List Addr}, MRepL K G H ts vs as → MRepL K G H us ws bs → MRepL K G H (ts ++ us) (vs ++ ws) (as ++ bs)
  | [], us, vs, ws, as, bs, h, h' => by
    unfold MRepL at h
    rw [h.1, h.2]
    exact h'
  | t :: ts, us, vs, ws, as, bs, h, h' => by
    unfold MRepL at h
    obtain ⟨v, r, a, b, e1, e2, h1, h2⟩ := h
    rw [e1, e2]
    show MRepL K G H (t :: (ts ++ us)) (v :: (r ++ ws)) _
    unfold MRepL
    exact ⟨v, _, a, b ++ bs, rfl, by simp, h1, h2.append h'⟩
theorem MRepL.one {t : MT} {v : V} (h : MRep K G H t v as) : MRepL K G H [t] [v] as := by
  unfold MRepL
  exact ⟨v, [], as, [], rfl, by simp, h, by unfold MRepL; exact ⟨rfl, rfl⟩⟩
theorem MRepL.nil : MRepL K G H [] [] [] := by unfold MRepL; exact ⟨rfl, rfl⟩
end
end Z
set_option Elab.async false
set_option linter.all false
set_option maxRecDepth 100000
set_option maxHeartbeats 4000000
/-! Z33: expressions whose value has own lists in it (JM), paths (JP); a slot of them: laid, looked at, frozen, changed, handed back. -/
namespace Z
open PySem L2
variable [tabsI : TabsT]
structure JM (S : Scp) (Γ : Cg) (e : Expr) (δ : List Sl) (P : MT → Prop) : Prop where
  run : ∀ X, COk S Γ X → ∀ σ G H, Stp Γ.K Γ.G0 Γ.H0 G H → EnvOk Γ.K G H Γ.H0 σ δ → ∀ Q : VK, (∀ v G' H' t as, Stp Γ.K G H G' H' → MRep Γ.K G' H' t v as → as.Nodup → (∀ a ∈ as, H a = none ∧ G' a = none) → P t → Q v H') → wE X e σ H Q
structure JMA (S : Scp) (Γ : Cg) (es : List Expr) (δ : List Sl) (P : List MT → Prop) : Prop where
  run : ∀ X, COk S Γ X → ∀ σ G H, Stp Γ.K Γ.G0 Γ.H0 G H → EnvOk Γ.K G H Γ.H0 σ δ → ∀ Q : List V → Hp → Prop, (∀ vs G' H' ts as, Stp Γ.K G H G' H' → MRepL Γ.K G' H' ts vs as → as.Nodup → (∀ a ∈ as, H a = none ∧ G' a = none) → P ts → Q vs H') → wA X es σ H Q
/-- an expression that leads to a part of the data of a slot -/
structure JP (S : Scp) (Γ : Cg) (e : Expr) (δ : List Sl) (P : Nat → List Nat → Prop) : Prop where
  run : ∀ X, COk S Γ X → ∀ σ G H, Stp Γ.K Γ.G0 Γ.H0 G H → EnvOk Γ.K G H Γ.H0 σ δ → ∀ Q : VK, (∀ v G' H' i π t pins r, Stp Γ.K G H G' H' → δ[i]? = some (.mt t pins) → σ[i]? = some (some r) → VAt Γ.K G' H' π t r v → P i π → Q v H') → wE X e σ H Q
section
variable {S S' : Scp} {Γ : Cg} {δ : List Sl} {P : D → Prop} {PM : MT → Prop} {PT : List MT → Prop} {PL : List D → Prop} {PB : Bool → Prop} {N B C : List Sl → Prop} {R : D → Prop} {Kp0 : Kp} {a b c e o : Expr} {es : List Expr} {pos : Pos} {st : Stmt} {sts : List Stmt}
theorem jm_f (h : JF S Γ e δ fun ds => PM (.fzs ds)) : JM S Γ e δ PM := by
  refine ⟨fun X hX σ G H st ev Q k => ?_⟩
  exact h.run X hX σ G H st ev _ fun p vs G' H' ds s hp gp h1 r q => k _ G' H' (.fzs ds) [p] s (.own1 h1 r) (by simp) (fun a ha => by rw [List.mem_singleton.mp ha]; exact ⟨hp, gp⟩) q
/-- the member at an index -/
def IxM (δ : List Sl) (i : Nat) (π : List Nat) (d : D) (P : List Nat → Prop) : Prop := ∃ k j t pins u, d = .int k ∧ δ[i]? = some (.mt t pins) ∧ t.sub π = some u ∧ ((∃ ts, u = .ls ts) ∨ ∃ ts, u = .tp ts) ∧ ixN u.kids.length k = some j ∧ P (π ++ [j])
end
end Z
set_option Elab.async false
set_option linter.all false
set_option maxRecDepth 100000
set_option maxHeartbeats 4000000
/-! Z34: changes at a path. -/
namespace Z
open PySem L2
variable [tabsI : TabsT]
/-- pins that a change at a path leaves -/
def Kept (δ : List Sl) (i : Nat) (π : List Nat) (kp : List (List Nat × Addr)) : Prop := ∀ x ∈ kp, x.1 <+: π ∧ ∀ t pins, δ[i]? = some (.mt t pins) → x ∈ pins
/-- an own list at a path -/
def OwnAt (δ : List Sl) (i : Nat) (π : List Nat) (P : MT → List MT → Prop) : Prop := ∃ t pins ts, δ[i]? = some (.mt t pins) ∧ t.sub π = some (.ls ts) ∧ P t ts
section
variable {S S' : Scp} {Γ : Cg} {δ : List Sl} {P : D → Prop} {PM : MT → Prop} {PL : List D → Prop} {N B C : List Sl → Prop} {R : D → Prop} {Kp0 : Kp} {a b c e o k : Expr} {es : List Expr} {pos : Pos} {st : Stmt} {sts : List Stmt}
theorem nd_app {as bs : List Addr} {H1 : Hp} (h1 : bs.Nodup) (h2 : as.Nodup) (h3 : ∀ a ∈ bs, H1 a ≠ none) (h4 : ∀ a ∈ as, H1 a = none) : (bs ++ as).Nodup := by
  rw [List.nodup_append]
  exact ⟨h1, h2, fun x hx y hy z => h3 x hx (by rw [z]; exact h4 y hy)⟩
/-- what a method does to a list -/
def Eff (r : V → List V → Hp → VK → Prop) (ts us ts' : List MT) : Prop := ∀ (K : PySem.W.Frag) (G H : Hp) (p : Addr) (vs ws : List V) (bs as : List Addr), H p = some (.lst vs) → MRepL K G H ts vs bs → MRepL K G H us ws as → (bs ++ as).Nodup →
  ∃ us' bs', MRepL K G H ts' us' bs' ∧ bs'.Nodup ∧ (∀ a ∈ bs', a ∈ bs ∨ a ∈ as) ∧ ∀ Q : VK, (∀ x, Q x (upd H p (.lst us'))) → r (.ref p) ws H Q
end
end Z
set_option Elab.async false
set_option linter.all false
set_option maxRecDepth 100000
set_option maxHeartbeats 4000000
/-! Z35: comprehensions of own lists, defs that hand back data with own lists in it, names for a part, back to a plain own list. -/
namespace Z
open PySem L2
variable [tabsI : TabsT]
abbrev CtM := List D → (MT → Prop) → (Value → List Str → List D → Prop) → Prop
def KM (K : PySem.W.Frag) (G H : Hp) (Q : VK) (t : MT) : Prop := ∀ v as G' H', Stp K G H G' H' → MRep K G' H' t v as → as.Nodup → (∀ a ∈ as, G' a = none ∧ H a = none) → Q v H'
def spCM (K : PySem.W.Frag) (c : CtM) : Sp := fun vs H Q E => ∃ G ds, Same G H ∧ TOk G H ∧ RepL K G H ds vs ∧ c ds (KM K G H Q) fun cls ns es => ∀ d G' H', Stp K G H G' H' → XdOk K G' H' d ns es → E cls d H'
abbrev MonoM (c : CtM) : Prop := ∀ ds (P P' : MT → Prop) (E E' : Value → List Str → List D → Prop), (∀ d, P d → P' d) → (∀ v ns es, E v ns es → E' v ns es) → c ds P E → c ds P' E'
structure DefOkM (P : Program) (w : World) (K : PySem.W.Frag) (mg : Str → Option Value) (base : Heap) (x : Str) (lv : Nat) (df : List D) (c : CtM) : Prop where
  mono : MonoM c
  ex : ∃ f fd ps ds dvs, FnOk P w K mg base (L2N.CX P w) lv f fd ps (spCM K c) ∧ mg x = some (.ref f) ∧ PySem.W.keepIn K (.ref f) = true ∧ Binds K fd ps ds ∧ Vals dvs ds ∧ ∀ G H, RepL K G H df dvs
abbrev Env1.DefM (U : Env1) (x : Str) (lv : Nat) (df : List D) (c : CtM) : Prop := DefOkM U.P U.w U.K U.mg U.base x lv df c
section
variable {S S' : Scp} {Γ : Cg} {δ : List Sl} {P : D → Prop} {PM : MT → Prop} {PL : List D → Prop} {N B C : List Sl → Prop} {R : D → Prop} {Kp0 : Kp} {a b c e o k tg : Expr} {es : List Expr} {pos : Pos} {st : Stmt} {sts : List Stmt}
/-! ### handed back -/
theorem js_retJM (h : JM S Γ e δ Γ.rf) : JS S Γ (.Return (some e) pos) δ Kp0 := by
  refine ⟨fun X hX σ G H De s ev en => ?_⟩
  refine PSw (ps_ret wE_pe) ?_
  exact h.run X hX σ G H s ev _ fun v G' H' t as s' r nd f q => en.rf v as t G' H' (s.trans s') r nd (fun a ha => ⟨(f a ha).2, s.free (f a ha).1⟩) q
theorem zs_retJM {U : Env1} {G H : Hp} {ex : List Sl → Value → List Str → List D → Prop} {RM : MT → Prop} (h : JM S (U.cgF G H ex RM) e δ RM) : JS S (U.cgF G H ex RM) (.Return (some e) pos) δ ⟨N, R, B, C⟩ := js_retJM h
theorem jm_callM [Calm Γ] {x : Str} {lv : Nat} {df : List D} {ct : CtM} {p : Pos} (F : DefOkM Γ.P Γ.w Γ.K Γ.mg Γ.base x lv df ct) (hl : lv ≤ S.lv) (hg : HasG S.gl x)
    (h : JA S Γ (e :: es) δ fun ds => ct (ds ++ df) PM (Γ.ex δ))
    (hdb : (x == ("__debug__" : Str)) = false := by decide) (he : ∀ env, starEach (e :: es) env = (false, eval e env) :: starEach es env := by intro _; rfl) (hpl : ∀ env, (backTo pos (starEach es env)).any (·.1) = false := by intro _; rfl) :
    JM S Γ (.Call (.Name x p) (e :: es) [] pos) δ PM := by
  refine ⟨fun X hX σ G H st ev Q k => ?_⟩
  have hk : Gl X x := by show X.env.scope.names.lookup x = _; rw [hX.sc]; exact hX.so.gl x hg.mem
  obtain ⟨f, fd, ps, ds, dvs, F1, F2, F3, F4, F5, F6⟩ := F.ex
  have F1' : FnOk X.prog X.w X.K X.mg X.base (L2N.CX X.prog X.w) lv f fd ps (spCM Γ.K ct) := by rw [hX.prog, hX.w, hX.K, hX.mg, hX.base]; exact F1
  refine PEw (pe_callSD (E := WE (wx Γ)) F1' ((hX.room Calm.hx).mono hl) hk (by rw [hX.mg]; exact F2) (by rw [hX.K]; exact F3) (by rw [hX.K]; exact F4) F5 (fun σ => L2N.passAt hX.tk σ) wA_pa hdb (he _) (hpl _)) ?_
  refine h.run X hX σ G H st ev _ fun vs G1 H1 ds s1 r1 h1 => ?_
  refine ⟨G1, ds ++ df, s1.sub, (st.trans s1).tab hX.tb, r1.append (F6 _ _), F.mono _ _ _ _ _ (fun t p v as G' H' s r nd f => k v G' H' t as (s1.trans s) r nd (fun a ha => ⟨s1.free (f a ha).2, (f a ha).1⟩) p) (fun cls ns es q d G' H' s x => ?_) h1⟩
  exact ⟨G', δ, ns, es, (st.trans s1).trans s, ev.mono (s1.trans s), x, q⟩
/-! ### comprehensions -/
theorem lcm_t {scope : Scope} {S' : Scp} {elt iter : Expr} {ifs : List Expr} {own : List (Str × Nat)} (B : BlkS S S' scope own)
    (h : JI S Γ tg iter δ fun n f => ∃ A : Nat → List MT → Prop, A 0 [] ∧ (∀ i acc, i < n → A i acc → JGW S' Γ.inBlk (own.map (·.2)) tg (f i) (wipeD δ (own.map (·.2))) fun δ2 => JTs S' Γ.inBlk ifs δ2 fun t => if t = true then JM S' Γ.inBlk elt δ2 fun d => acc.length < sizeLine ∧ A (i + 1) (acc ++ [d]) else A (i + 1) acc) ∧ ∀ acc, A n acc → PM (.ls acc))
    {X : Cx} (hX : COk S Γ X) {σ : L2.St} {G H : Hp} (s : Stp Γ.K Γ.G0 Γ.H0 G H) (ev : EnvOk Γ.K G H Γ.H0 σ δ) {Q : VK} (k : ∀ v G' H' t as, Stp Γ.K G H G' H' → MRep Γ.K G' H' t v as → as.Nodup → (∀ a ∈ as, H a = none ∧ G' a = none) → PM t → Q v H') :
    tLc (wI X tg iter) (fun v σ H Q => ∀ s H0 C cl fp, wG (X.blk s H0 scope (compEnvC scope cl C X.env) fp) tg v σ H Q) (fun σ H Q => ∀ s H0 C cl fp, wTs (X.blk s H0 scope (compEnvC scope cl C X.env) fp) ifs σ H Q) (fun σ H Q => ∀ s H0 C cl fp, wE (X.blk s H0 scope (compEnvC scope cl C X.env) fp) elt σ H Q) (own.map (·.2)) σ H Q := by
  refine h.run X hX σ G H s ev _ fun J G1 H1 n f s1 it q => ?_
  obtain ⟨A, a0, turn, fin⟩ := q
  intro p hp
  have g1 : G1 p = none := s1.sub.free hp
  have h0 : H p = none := s1.free hp
  refine ⟨fun i m H' => m = n - i ∧ i ≤ n ∧ ∃ G' acc ts as, Stp Γ.K G1 H1 G' H' ∧ G' p = none ∧ H' p = some (.lst acc) ∧ MRepL Γ.K G' H' ts acc as ∧ as.Nodup ∧ (∀ a ∈ as, H1 a = none ∧ G' a = none ∧ a ≠ p) ∧ A i ts, ⟨n, by simp, Nat.zero_le _, G1, [], [], [], .newM s1.sub hp, g1, upd_same, .nil, by simp, (fun _ z => by cases z), a0⟩, ?_⟩
  rintro i m H' ⟨rfl, hi, G', acc, ts, as, s', g', hp', r', nd', f', ai⟩
  have st' := (s.trans s1).trans s'
  by_cases hlt : i < n
  · refine .inr ⟨it.go i G' H' s'.sub s'.mo hlt, fun H2 => ∃ G2 acc2 ts2 as2, Stp Γ.K G1 H1 G2 H2 ∧ G2 p = none ∧ H2 p = some (.lst acc2) ∧ MRepL Γ.K G2 H2 ts2 acc2 as2 ∧ as2.Nodup ∧ (∀ a ∈ as2, H1 a = none ∧ G2 a = none ∧ a ≠ p) ∧ A (i + 1) ts2, fun H2 h2 => ⟨n - (i + 1), by omega, rfl, hlt, h2⟩, fun x H2 y => ?_⟩
    obtain ⟨G2, s2, rx⟩ := it.yld i G' H' x H2 s'.sub s'.mo hlt (st'.tab hX.tb) y
    have own2 := s2.own p _ hp' g'
    intro s0 H0 C cl fp
    refine (turn i ts hlt ai).run _ (COk.blk B hX s0 H0 C cl fp) x _ G2 H2 (st'.trans s2) ((((ev.mono s1).mono s').mono s2).wipe _) rx _ fun σ3 G3 H3 δ3 w3 s3 ev3 q3 => ?_
    refine ⟨?_, ?_⟩
    · rw [w3]
      exact wipe_wipe fun _ z => z
    intro s0 H0 C cl fp pins s00 I
    refine q3.run _ (COk.blk B hX s0 H0 C cl fp) σ3 G3 H3 ((st'.trans s2).trans s3) ev3 pins s00 I _ fun t G4 H4 s4 q4 => ?_
    have s24 := (s2.trans s3).trans s4
    have own4 := s24.own p _ hp' g'
    have hp4 : H4 p = some (.lst acc) := own4.2.elim id fun z => z.1.elim
    obtain ⟨r4, g4⟩ := r'.stp s24 fun a ha => (f' a ha).2.1
    cases t with
    | false =>
      refine L2.iteF ⟨G4, acc, ts, as, s'.trans s24, own4.1, hp4, r4, nd', fun a ha => ⟨(f' a ha).1, g4 a ha, (f' a ha).2.2⟩, ?_⟩
      exact q4
    | true =>
      refine L2.iteT ?_
      intro s0 H0 C cl fp
      refine (show JM _ _ _ _ _ from q4).run _ (COk.blk B hX s0 H0 C cl fp) σ3 G4 H4 (st'.trans s24) (ev3.mono s4) _ fun y5 G5 H5 d5 as5 s5 r5 nd5 f5 q5 => ?_
      have own5 := s5.own p _ hp4 own4.1
      have hp5 : H5 p = some (.lst acc) := own5.2.elim id fun z => z.1.elim
      obtain ⟨r6, g6⟩ := r4.stp s5 g4
      have np : ∀ a ∈ as ++ as5, a ≠ p := fun a ha z => by
        rcases List.mem_append.mp ha with h | h
        · exact (f' a h).2.2 z
        · rw [z] at h
          rw [(f5 p h).1] at hp4
          cases hp4
      refine ⟨acc, hp5, by rw [r'.length]; exact q5.1, G5, acc ++ [y5], ts ++ [d5], as ++ as5, ((s'.trans s24).trans s5).write (o := .lst acc) own5.1 hp, own5.1, upd_same, ?_, ?_, ?_, q5.2⟩
      · exact (r6.append (.one r5)).mo (.write hp5) fun a ha => upd_ne (np a ha)
      · refine nd_app (H1 := H4) nd' nd5 (fun a ha z => ?_) fun a ha => (f5 a ha).1
        obtain ⟨vs, w⟩ := r4.own a ha
        rw [z] at w
        cases w
      · intro a ha
        refine ⟨?_, ?_, np a ha⟩
        · rcases List.mem_append.mp ha with h | h
          · exact (f' a h).1
          · exact (s'.trans s24).free (f5 a h).1
        · rcases List.mem_append.mp ha with h | h
          · exact g6 a h
          · exact (f5 a h).2
  · have e : i = n := by omega
    subst e
    refine .inl ⟨it.stop G' H' s'.sub s'.mo, k (.ref p) G' H' (.ls ts) (p :: as) (s1.trans s') ?_ ?_ ?_ (fin ts ai)⟩
    · unfold MRep
      exact ⟨p, acc, as, rfl, hp', rfl, r'⟩
    · exact List.nodup_cons.mpr ⟨fun z => (f' p z).2.2 rfl, nd'⟩
    · intro a ha
      cases ha with
      | head => exact ⟨h0, g'⟩
      | tail _ ha => exact ⟨s1.free (f' a ha).1, (f' a ha).2.1⟩
theorem jm_lc [Calm Γ] {S' : Scp} {elt iter : Expr} {ifs : List Expr} {scope : Scope} {own : List (Str × Nat)} (B : BlkS S S' scope own)
    (h : JI S Γ tg iter δ fun n f => ∃ A : Nat → List MT → Prop, A 0 [] ∧ (∀ i acc, i < n → A i acc → JGW S' Γ.inBlk (own.map (·.2)) tg (f i) (wipeD δ (own.map (·.2))) fun δ2 => JTs S' Γ.inBlk ifs δ2 fun t => if t = true then JM S' Γ.inBlk elt δ2 fun d => acc.length < sizeLine ∧ A (i + 1) (acc ++ [d]) else A (i + 1) acc) ∧ ∀ acc, A n acc → PM (.ls acc))
    (hs : ∀ env x, foldedSetIterable iter env x = pure x := by intros; rfl) : JM S Γ (.ListComp elt [⟨tg, iter, ifs, 0⟩] scope pos) δ PM := by
  refine ⟨fun X hX σ G H s ev Q k => ?_⟩
  refine PEw (pe_lc (hX.calm Calm.hx) (by rw [hX.N]; exact hX.so.nd) (wI_pi (hX.calm Calm.hx)) (by rw [hX.N, hX.sc]; exact B.ok) ?_ ?_ ?_ (hs _)) (lcm_t B h hX s ev k)
  · exact fun s H C cl fp => ⟨fun pins s0 σ H0 v u Q I r q => q s H C cl fp pins s0 u I r⟩
  · exact fun s H C cl fp => ⟨fun pins s0 σ H0 Q I q => q s H C cl fp pins s0 I⟩
  · exact fun s H C cl fp => ⟨fun pins s0 σ H0 Q I q => q s H C cl fp pins s0 I⟩
end
/-! from the facts of the top -/
section
variable {U : Env1} {m qual x : Str} {st : Stmt} {S : Scp} {ps : List Str} {n j : Nat} {f C : Addr} {fd : FuncData} {c : CtM} {dvs : List V} {df : List D}
theorem fn_okMM (F : ∃ h : Unit, FunD U.K m qual (defArgs st) (defBody st) (defScope st) dvs [] f fd) (so : S.Ok) (sc : S.sc = defScope st) (fs : FnScope S.N ps (defScope st)) (hn : ps.length = n) (hN : n ≤ S.N.length) (len : ∀ ds P E, c ds P E → ds.length = n)
    (body : ∀ (G H : Hp) ds P E, c ds P E → JSs S (U.cgF G H (fun _ => E) P) (defBody st) (startD S.N ds) { nx := fun _ => P (.fz .non), rt := fun d => P (.fz d) }) : FnOk U.P U.w U.K U.mg U.base (L2N.CX U.P U.w) (S.lv + 1) f fd ps (spCM U.K c) := by
  obtain ⟨_, F⟩ := F
  refine F.ok fs (fun vs H Q E h => ?_) (fun cdv A outer s H vs Q E hr h => ?_)
  · obtain ⟨G, ds, _, _, r, h⟩ := h
    rw [r.length, len _ _ _ h, hn]
  · obtain ⟨G, ds, e, tb, r, h⟩ := h
    have hl := len _ _ _ h
    have fzk : ∀ {v G' H' d}, Stp U.K G H G' H' → Rep U.K G' H' d v → KM U.K G H Q (.fz d) → Q v H' := fun {v G' H' d} s' r' q => q v [] G' H' s' (by unfold MRep; exact ⟨rfl, r'⟩) (by simp) (fun _ z => by cases z)
    refine ⟨_, wSs_pss, (body G H ds _ _ h).run _ ⟨so, rfl, rfl, rfl, rfl, rfl, rfl, sc.symm, fun _ => rfl, fun _ => hr, L2H.roomH_of hr, (fun _ z => by cases z), fun _ _ => .inl rfl, fun _ => ⟨rfl, rfl, rfl, passes_of rfl⟩, ?_, tb, (fun _ _ _ z => by cases z)⟩ _ G H _ (.refl e) (EnvOk.start r _ (by omega)) ⟨?_, ?_, ?_, ?_, ?_⟩⟩
    · refine L2N.Takes.imp (L2N.takes_of rfl rfl rfl rfl) ?_
      rintro cls d σ' H' ⟨G', δ', ns, es, s', ev', x', q⟩
      exact q d G' H' s' x'
    · exact fun σ' G' H' δ' s' _ _ q => fzk s' rep_non q
    · exact fun _ _ _ _ _ _ _ q => q.elim
    · exact fun _ _ _ _ _ _ _ q => q.elim
    · exact fun v G' H' d s' r' q => fzk s' r' q
    · exact fun v as t G' H' s' hm nd ha q => q v as G' H' s' hm nd ha
theorem def_okM (F : FunAt U x st dvs) (so : S.Ok) (sc : S.sc = defScope st) (fs : FnScope S.N ps (defScope st)) (hn : ps.length = n) (hN : n ≤ S.N.length)
    (hb : ∀ f fd, FunD U.K x x (defArgs st) (defBody st) (defScope st) dvs [] f fd → ∃ ds, Vals (dvs.drop j) ds ∧ Binds U.K fd ps ds) (hdf : ∀ G H, RepL U.K G H df (dvs.drop j)) (len : ∀ ds P E, c ds P E → ds.length = n) (mono : MonoM c)
    (body : ∀ (G H : Hp) ds P E, c ds P E → JSs S (U.cgF G H (fun _ => E) P) (defBody st) (startD S.N ds) { nx := fun _ => P (.fz .non), rt := fun d => P (.fz d) }) : U.DefM x (S.lv + 1) df c := by
  obtain ⟨f, fd, Fu, hm⟩ := F.ex
  obtain ⟨ds, hv, hbi⟩ := hb f fd Fu
  exact ⟨mono, f, fd, ps, ds, dvs.drop j, fn_okMM ⟨(), Fu⟩ so sc fs hn hN len body, hm, Fu.kp, hbi, hv, hdf⟩
end
end Z
set_option Elab.async false
set_option linter.all false
set_option maxRecDepth 100000
set_option maxHeartbeats 4000000
/-! Z36: set(a list of ints), sorted(set(..)). -/
namespace Z
open PySem L2
variable [tabsI : TabsT]
end Z
set_option Elab.async false
set_option linter.all false
set_option maxRecDepth 100000
set_option maxHeartbeats 4000000
/-! Z37: the rules of Z33 to Z36 in the form that the walk takes. -/
namespace Z
open PySem L2
variable [tabsI : TabsT]
section
variable {S S' : Scp} {Γ Γ' : Cg} {δ δ' : List Sl} {N B C : List Sl → Prop} {R : D → Prop} {P : D → Prop} {PB : Bool → Prop} {PM PM' : MT → Prop} {PT : List MT → Prop} {tg elt e o k : Expr} {es as : List Expr} {ks : List Keyword} {ifs : List Expr} {own : List Nat} {body : List Stmt} {α : Type} {xs : List α} {g : α → D} {n : Nat} {f : Nat → D} {pos : Pos} {st : Stmt}
theorem JM.imp (h : JM S Γ e δ PM) (k : ∀ t, PM t → PM' t) : JM S Γ e δ PM' := ⟨fun X hX σ G H s ev Q q => h.run X hX σ G H s ev Q fun v G' H' t as s' r nd f p => q v G' H' t as s' r nd f (k t p)⟩
/-- a comprehension of data with own lists in it -/
theorem lcFM (F : α → Option MT) (sr : Src n f xs g) (hl : xs.length ≤ 1000000)
    (step : ∀ x, x ∈ xs → JGW S' Γ' own tg (g x) δ' fun δ2 => JTs S' Γ' ifs δ2 fun t => if t = true then JM S' Γ' elt δ2 fun d => F x = some d else F x = none) (fin : PT (xs.filterMap F)) :
    ∃ A : Nat → List MT → Prop, A 0 [] ∧ (∀ i acc, i < n → A i acc → JGW S' Γ' own tg (f i) δ' fun δ2 => JTs S' Γ' ifs δ2 fun t => if t = true then JM S' Γ' elt δ2 fun d => acc.length < sizeLine ∧ A (i + 1) (acc ++ [d]) else A (i + 1) acc) ∧ ∀ acc, A n acc → PT acc := by
  have hs : 1000000 < sizeLine := by decide
  refine ⟨fun i acc => acc = (xs.take i).filterMap F, by simp, fun i acc hi ha => ?_, fun acc ha => ?_⟩
  · rw [sr.len] at hi
    rw [sr.at_ i hi]
    have e2 : xs.take (i + 1) = xs.take i ++ [xs[i]] := by rw [List.take_add_one, List.getElem?_eq_getElem hi]; rfl
    refine (step _ (List.getElem_mem _)).imp fun δ2 h => h.imp fun b h => ?_
    cases b with
    | false =>
      have h : F xs[i] = none := by simpa using h
      refine L2.iteF ?_
      show acc = _
      rw [e2, List.filterMap_append, ha]
      simp [h]
    | true =>
      have h : JM S' Γ' elt δ2 fun d => F xs[i] = some d := by simpa using h
      refine L2.iteT (h.imp fun d hd => ⟨?_, ?_⟩)
      · have l1 := List.length_filterMap_le F (xs.take i)
        have l2 : (xs.take i).length ≤ xs.length := List.length_take_le' i xs
        rw [ha]
        omega
      · show acc ++ [d] = _
        rw [e2, List.filterMap_append, ha]
        simp [hd]
  · have e2 : xs.take n = xs := List.take_of_length_le (by rw [sr.len]; exact Nat.le_refl _)
    simp only [e2] at ha
    rw [ha]
    exact fin
theorem lcMM (F : α → MT) (sr : Src n f xs g) (hl : xs.length ≤ 1000000) (step : ∀ x, x ∈ xs → JGW S' Γ' own tg (g x) δ' fun δ2 => JM S' Γ' elt δ2 fun d => d = F x) (fin : PT (xs.map F)) :
    ∃ A : Nat → List MT → Prop, A 0 [] ∧ (∀ i acc, i < n → A i acc → JGW S' Γ' own tg (f i) δ' fun δ2 => JTs S' Γ' [] δ2 fun t => if t = true then JM S' Γ' elt δ2 fun d => acc.length < sizeLine ∧ A (i + 1) (acc ++ [d]) else A (i + 1) acc) ∧ ∀ acc, A n acc → PT acc :=
  lcFM (fun x => some (F x)) sr hl (fun x hx => (step x hx).imp fun δ2 h => jts_nil (L2.iteT (h.imp fun d e => by rw [e]))) (by rw [show xs.filterMap (fun x => some (F x)) = xs.map F by simp]; exact fin)
theorem flat_fzs {ds : List D} : (MT.fzs ds).flat = .lst ds := by
  unfold MT.flat
  rw [flatL_fz]
end
theorem flat_obj2 {C : Addr} {ns : List Str} {xs ys : List (List Int)} : flatD (.obj C ns [.tup (xs.map fun r => .tup (r.map .int)), .tup (ys.map fun r => .tup (r.map .int))]) := by
  unfold flatD flatL flatL flatL
  refine ⟨?_, ?_, trivial⟩
  · unfold flatD
    exact flat_rows fun x _ => flat_tup
  · unfold flatD
    exact flat_rows fun x _ => flat_tup
end Z
set_option Elab.async false
set_option linter.all false
set_option maxRecDepth 100000
set_option maxHeartbeats 4000000
/-! Z38: name = a comprehension of two clauses. -/
namespace Z
open PySem L2
variable [tabsI : TabsT]
section
variable {S S' : Scp} {Γ : Cg} {δ : List Sl} {N B C : List Sl → Prop} {R : D → Prop} {tg tg1 elt iter iter1 : Expr} {ifs ifs1 : List Expr} {scope : Scope} {own : List (Str × Nat)} {x : Str} {i : Nat} {py sp pos : Pos}
end
section
variable {S' : Scp} {Γ' : Cg} {δ' : List Sl} {tg elt : Expr} {ifs : List Expr} {own : List Nat} {α : Type} {xs : List α} {g : α → D} {n : Nat} {f : Nat → D}
end
end Z
set_option Elab.async false
set_option linter.all false
set_option maxRecDepth 100000
set_option maxHeartbeats 4000000
/-! Z39: in and not in, of encoded data. -/
namespace Z
open PySem L2
variable [tabsI : TabsT]
section
variable {α : Type} [DecidableEq α] {f : α → D} {k : Nat} {S : Scp} {Γ : Cg} {P : D → Prop}
end
section
variable {S : Scp} {Γ : Cg} {P : D → Prop}
abbrev pairD (p : Int × Int) : D := .tup [.int p.1, .int p.2]
end
end Z
set_option Elab.async false
set_option linter.all false
set_option maxRecDepth 100000
set_option maxHeartbeats 4000000
/-! Z40: for x in own lists: its body changes them; fresh lists out of a look; methods that hand back own lists; changes in the form that the walk takes. -/
namespace Z
open PySem L2
variable [tabsI : TabsT]
structure MethOkM (P : Program) (w : World) (K : PySem.W.Frag) (mg : Str → Option Value) (base : Heap) (C : Addr) (m : Str) (lv : Nat) (c : CtM) : Prop where
  mono : MonoM c
  ex : ∃ f fd ps, FnOk P w K mg base (L2N.CX P w) lv f fd ps (spCM K c) ∧ Meth K C m f ∧ Binds K fd ps []
section
variable {S S' : Scp} {Γ : Cg} {δ : List Sl} {P : D → Prop} {PM : MT → Prop} {PL : List D → Prop} {N B C : List Sl → Prop} {R : D → Prop} {Kp0 : Kp} {a b c e o k tg : Expr} {es : List Expr} {pos : Pos} {st : Stmt} {sts : List Stmt}
end
section
variable {U : Env1} {m qual : Str} {st : Stmt} {S : Scp} {ps : List Str} {n : Nat} {f C : Addr} {fd : FuncData} {c : CtM}
end
section
variable {S : Scp} {Γ : Cg} {P : D → Prop} {PL : List D → Prop}
end
end Z
set_option Elab.async false
set_option linter.all false
set_option maxRecDepth 100000
set_option maxHeartbeats 4000000
/-! Z41: sorted(xs, key=lambda z: (.., ..)) of pairs of ints: the key at work. -/
namespace Z
open PySem L2
section
open PySem.Spec PyProof.Rows
variable {prog : Program} {w : World} {A : Around} {env : Env} {zn : Str} {pa : Addr} {a b n n1 n2 : Int} {e1 e2 : Expr} {p1 p2 p3 : Pos}
/-- the pair that the lambda got -/
structure AtP (env : Env) (zn : Str) (pa : Addr) (a b : Int) (h : Heap) : Prop where
  ns : ∃ m, h.Ns env.locals m ∧ m zn = some (.ref pa)
  tp : ∃ ta tb, IsTup h pa #[.int a ta, .int b tb]
/-- an int of its members -/
def EvI (prog : Program) (w : World) (A : Around) (env : Env) (zn : Str) (pa : Addr) (a b : Int) (e : Expr) (n : Int) : Prop :=
  ∀ (s : Shared) (Q E : Value → Shared → Prop), AtP env zn pa a b s.heap → (∀ t k, Q (.int n t) { s with toks := k }) → wpAny (model prog w) A (eval e env) Q E s
end
variable [tabsI : TabsT]
/-! ### the lambda made -/
section
open PySem.Spec PyProof.Rows LamX
variable {X : Cx} {pins : List (Addr × Obj)} {σ : L2.St} {G H : Hp} {s : Shared} {c P : Addr} {q : Str} {params : Arguments} {body : Expr} {scope : Scope} {pos : Pos}
/-- a function object that the heap has, apart from all that is told of it -/
def FnAt (X : Cx) (params : Arguments) (body : Expr) (scope : Scope) (q : Str) (H : Hp) (s : Shared) (f c' : Addr) : Prop :=
  ∃ pm ctv, s.heap.get? f = some (PySem.W.kla_obj "<lambda>" q params body scope [] pm c' ctv) ∧ s.heap.CodeRec (.ref c') q
theorem codeRec_of {h : Heap} {c' : Addr} {q : Str} {P2 : Program} {w2 : World} (e : ∃ oc vs t, h.get? c' = some oc ∧ oc.data = .fields vs ∧ vs[1]? = some (.str q t)) : h.CodeRec (.ref c') q := by
  obtain ⟨oc, vs, t, h1, h2, h3⟩ := e
  exact ⟨c', oc, vs, t, rfl, h1, h2, h3⟩
end
/-! ### sorted(xs, key=lambda z: (.., ..)) -/
abbrev prD (z : Int × Int) : D := .tup [.int z.1, .int z.2]
section
open PySem.Spec PyProof.Rows
/-- the lambda gives the pair (k1 z, k2 z) -/
structure KeyB (params : Arguments) (body : Expr) (scope : Scope) (zn : Str) (k1 k2 : Int × Int → Int) : Prop where
  bind : ∀ (q : Str) (pm cv ctv v : Value), bindArgs (PySem.W.kla_fn "<lambda>" q params body scope [] pm cv ctv) ⟨[v], []⟩ = pure [(zn, v)]
  loc : scope.names.lookup zn = some .local
  cell : ∀ y ∈ scope.names, y.2 ≠ .cell
  kind : scope.kind = .function
  co : scope.isCoroutine = false
  gen : scope.isGenerator = false
  clo : ∀ env, closureFor scope env = pure []
  dfl : ∀ env, defaultsOf params env = ([], [])
  run : ∀ (prog : Program) (w : World) (A : Around) (env : Env) (pa : Addr) (z : Int × Int) (s : Shared) (Q E : Value → Shared → Prop), env.scope = scope → AtP env zn pa z.1 z.2 s.heap → (∀ t1 t2 k, Q (.ref s.heap.objs.size) { s with heap := s.heap.push { cls := .type "tuple", data := .seq #[.int (k1 z) t1, .int (k2 z) t2] }, toks := k }) → wpAny (model prog w) A (eval body env) Q E s
variable {X : Cx} {pins : List (Addr × Obj)} {σ : L2.St} {G H : Hp} {s : Shared}
/-- a value that is a pair of ints -/
def PairAt (K : PySem.W.Frag) (G : Hp) (h : Heap) (v : Value) (z : Int × Int) : Prop := ∃ pa ta tb, v = .ref pa ∧ IsTup h pa #[.int z.1 ta, .int z.2 tb] ∧ G pa = some (.tup [.int z.1, .int z.2])
variable {S : Scp} {Γ : Cg} {δ : List Sl} {PL : List D → Prop} {e : Expr} {pos p lpos kpos : Pos} {c P : Addr} {q zn : Str} {params : Arguments} {body : Expr} {scope : Scope} {k1 k2 : Int × Int → Int}
end
end Z
set_option Elab.async false
set_option linter.all false
set_option maxRecDepth 100000
set_option maxHeartbeats 4000000
/-! Z42: defs with a lambda in them; the law's walk with tables of code objects. -/
namespace Z
open PySem L2
variable [tabsI : TabsT]
abbrev Env1.cgL (U : Env1) (cd : Addr × Addr × Str) (G H : Hp) (ex : List Sl → Value → List Str → List D → Prop) : Cg := { U.cg G H ex with cd := some cd }
instance calm_L {U : Env1} {cd : Addr × Addr × Str} {G H : Hp} {ex : List Sl → Value → List Str → List D → Prop} : Calm (U.cgL cd G H ex) := ⟨rfl⟩
/-- .. of the def x: its code object, its table -/
structure LamC (U : Env1) (x : Str) (c P : Addr) : Prop where
  tb : LamX.TabB U.base U.mg c P
  mem : (P, (x ++ ".<locals>.") ++ "<lambda>") ∈ tabsI.T
  uq : ∀ y ∈ tabsI.T, y.1 = P → y.2 = (x ++ ".<locals>.") ++ "<lambda>"
structure FunAtC (U : Env1) (x : Str) (st : Stmt) (c : Addr) : Prop where
  ex : ∃ f fd, FunD U.K x x (defArgs st) (defBody st) (defScope st) [] [] f fd ∧ U.mg x = some (.ref f) ∧ fd.code = .ref c
/-- the name of the code objects that a def's lambdas bear -/
abbrev lamQ (x : Str) : Str := (x ++ ".<locals>.") ++ "<lambda>"
end Z
set_option linter.all false
set_option maxRecDepth 100000
namespace Z
open PySem L2
variable [tabsI : TabsT]
variable {S : Scp} {Γ : Cg} {δ : List Sl} {P : D → Prop}
end Z
set_option Elab.async false
set_option linter.all false
set_option maxRecDepth 100000
set_option maxHeartbeats 4000000
/-! Z44: for y in o: y.append(e), at any path of own lists. -/
namespace Z
open PySem L2
variable [tabsI : TabsT]
/-- e put behind a list -/
def apM (d : D) : MT → MT
  | .ls us => .ls (us ++ [.fz d])
  | t => t
def spK (d : D) (k : Nat) (ts : List MT) : List MT := (ts.take k).map (apM d) ++ ts.drop k
section
variable {S : Scp} {Γ : Cg} {δ : List Sl} {N B C : List Sl → Prop} {R : D → Prop} {o e : Expr}
end
end Z
set_option Elab.async false
set_option linter.all false
set_option maxRecDepth 100000
set_option maxHeartbeats 4000000
/-! Z45: an object beside a list or a tuple: ==, !=. -/
namespace Z
open PySem L2
variable [tabsI : TabsT]
/-- a list or a tuple: its class -/
def seqT (x : D) (T : String) : Prop := (∃ ds, x = .lst ds ∧ T = "list") ∨ (∃ ds, x = .tup ds ∧ T = "tuple")
section
variable {S : Scp} {Γ : Cg} {P : D → Prop}
end
section
variable {S : Scp} {Γ : Cg} {δ : List Sl} {N B C : List Sl → Prop} {R : D → Prop} {o e : Expr} {pos : Pos}
end
end Z
set_option Elab.async false
set_option linter.all false
set_option maxRecDepth 100000
set_option maxHeartbeats 4000000
/-! Z46: name = [..] where a comprehension takes the name (a cell). -/
namespace Z
open PySem L2
variable [tabsI : TabsT]
end Z
set_option Elab.async false
set_option linter.all false
set_option maxRecDepth 100000
set_option maxHeartbeats 4000000
/-! Z47: defs called within a suite, that may be passed the exception that is handled. -/
namespace Z
open PySem PySem.Spec PyProof.Rows L2 L2H
variable [tabsI : TabsT]
/-- what is known of the exception that is handled -/
def pxOf (hx : Addr × Addr × Option Addr) (p : Addr × Obj) : Prop := p.1 = hx.1 ∧ p.2.cls = .ref hx.2.1 ∧ p.2.dict = hx.2.2 ∧ ∃ vs, p.2.data = .fields vs
/-- what a def promises there -/
structure FnX (P : Program) (w : World) (K : PySem.W.Frag) (mg : Str → Option Value) (base : Heap) (CX : CXT) (k : Nat) (f : Addr) (fd : FuncData) (ps : List Str) (px : Addr × Obj → Prop) (sp : Sp) : Prop where
  len : ∀ vs H Q E, sp vs H Q E → vs.length = ps.length
  run : ∀ (A : Around) (outer : List Env) (s : Shared) (H : Hp) (args : Args) (us : List Value) (vs : List V) (Q : VK) (E : XK) (p : Addr × Obj), RoomH k A → Hot1 A p → PinOk outer H s p → px p → Env0 P w K mg base A outer s H → BindsTo s fd args (ps.zip us) → Vals vs us → sp vs H Q E →
    codeAny (model P w) A (.call (.ref f) args) (CR CX outer P w H s Q E) s
/-! ### contracts -/
abbrev CtX := Addr × Addr × Option Addr → List D → (D → Prop) → Prop
/-- a def of the module, called while an exception is handled; it raises nothing -/
structure DefOkX (P : Program) (w : World) (K : PySem.W.Frag) (mg : Str → Option Value) (base : Heap) (x : Str) (lv : Nat) (c : CtX) : Prop where
  mono : ∀ hx ds (P P' : D → Prop), (∀ d, P d → P' d) → c hx ds P → c hx ds P'
  ex : ∃ f fd ps, (∀ hx, FnX P w K mg base (L2N.CX P w) lv f fd ps (pxOf hx) (spC K fun ds P _ => c hx ds P)) ∧ mg x = some (.ref f) ∧ PySem.W.keepIn K (.ref f) = true ∧ Binds K fd ps []
abbrev Env1.DefX (U : Env1) (x : Str) (lv : Nat) (c : CtX) : Prop := DefOkX U.P U.w U.K U.mg U.base x lv c
section
variable {S : Scp} {Γ : Cg} {δ : List Sl} {e : Expr} {es : List Expr} {P : D → Prop} {pos : Pos}
end
end Z
set_option Elab.async false
set_option linter.all false
set_option maxRecDepth 100000
set_option maxHeartbeats 4000000
/-! Z48: own results frozen at once; defs with a lambda that hand back an own result. -/
namespace Z
open PySem L2
variable [tabsI : TabsT]
variable {S : Scp} {Γ : Cg} {δ : List Sl} {P : D → Prop} {e : Expr} {es : List Expr} {pos : Pos}
theorem je_M (h : JM S Γ e δ fun t => P t.flat) : JE S Γ e δ P := by
  refine ⟨fun X hX σ G H st ev Q k => ?_⟩
  refine h.run X hX σ G H st ev _ fun v G1 H1 t as s1 r nd f q => ?_
  have o : OwnL G1 H1 as := fun a ha => ⟨(f a ha).2, r.own a ha⟩
  exact k v _ H1 t.flat (s1.frz o fun a ha => (f a ha).1) (r.flat o.mo fun a ha u hu => by rw [frz_in ha]; exact hu) q
abbrev Env1.cgFL (U : Env1) (cd : Addr × Addr × Str) (G H : Hp) (ex : List Sl → Value → List Str → List D → Prop) (RM : MT → Prop) : Cg := { U.cgF G H ex RM with cd := some cd }
instance calm_FL {U : Env1} {cd : Addr × Addr × Str} {G H : Hp} {ex : List Sl → Value → List Str → List D → Prop} {RM : MT → Prop} : Calm (U.cgFL cd G H ex RM) := ⟨rfl⟩
section
variable {N B C : List Sl → Prop} {R : D → Prop} {δ : List Sl} {U : Env1} {cd : Addr × Addr × Str} {G H : Hp} {ex : List Sl → Value → List Str → List D → Prop} {RM : MT → Prop}
end
end Z
set_option Elab.async false
set_option linter.all false
set_option maxRecDepth 100000
set_option maxHeartbeats 4000000
/-! Z49: texts: one sign in a text, +, *, slices, len, count, join, enumerate. -/
namespace Z
open PySem L2
variable [tabsI : TabsT]
section
variable {S : Scp} {Γ : Cg} {δ : List Sl} {P : D → Prop} {e o a : Expr} {es : List Expr} {pos : Pos}
end
def ItES (x : Str) : It :=
  ⟨fun i _ => i < x.cps.size, fun i H v H' => ∃ T c, v = .ref T ∧ H T = none ∧ x.cps[i]? = some c ∧ H' = upd H T (.tup [.int (i : Nat), .str ⟨#[c]⟩]), fun i _ => i = x.cps.size⟩
def iEnumS (ta : TA) : TI := fun σ H R => ta σ H fun vs H1 => ∃ x, vs = [.str x] ∧ R (ItES x) H1
abbrev signD (x : Str) (i : Nat) : D := .str ⟨#[x.cps.toList.getD i 0]⟩
section
variable {S : Scp} {Γ : Cg} {δ : List Sl} {a : Expr} {pos : Pos} {PI' : Nat → (Nat → D) → Prop}
end
end Z
set_option Elab.async false
set_option linter.all false
set_option maxRecDepth 100000
set_option maxHeartbeats 4000000
/-! Z50: dicts whose keys are pairs of ints: read, asked, laid, put, frozen. -/
namespace Z
open PySem L2
variable [tabsI : TabsT]
/-! ### tables of keys and data -/
abbrev KD := List (List Key × D)
abbrev D.dict (l : KD) : D := .dic (l.map (·.1)) (l.map (·.2))
abbrev kp (a b : Int) : List Key := [Sum.inl a, Sum.inl b]
def lookD (l : KD) (k : List Key) : Option D := (l.find? fun kv => decide (kv.1 = k)).map (·.2)
def putD (l : KD) (k : List Key) (d : D) : KD := if (l.any fun kv => decide (kv.1 = k)) = true then l.map fun kv => if kv.1 = k then (kv.1, d) else kv else l ++ [(k, d)]
structure DicV (K : PySem.W.Frag) (G H : Hp) (l : KD) (kvs : List (List Key × V)) : Prop where
  ks : kvs.map (·.1) = l.map (·.1)
  vs : RepL K G H (l.map (·.2)) (kvs.map (·.2))
section
variable {K : PySem.W.Frag} {G H G' H' : Hp}
end
section
variable {K : PySem.W.Frag} {G H G' H' : Hp} {p : Addr} {od : Obj} {vs : List (List Key × V)}
mutual
theorem Rep.ersD (g : G p = some (.frz od (.dT vs))) : ∀ {d : D} {v : V}, flatD d → Rep K G H d v → Rep K (ers G p) H d v
  | .non, v, _, h => by unfold Rep at h ⊢; exact h
  | .bl b, v, _, h => by unfold Rep at h ⊢; exact h
  | .int i, v, _, h => by unfold Rep at h ⊢; exact h
  | .str x, v, _, h => by unfold Rep at h ⊢; exact h
  | .tup ds, v, f, h => by
    unfold Rep at h ⊢
    unfold flatD at f
    obtain ⟨a, vs, e, h1, h2⟩ := h
    refine ⟨a, vs, e, ?_, RepL.ersD g f h2⟩
    rw [ers_ne (fun z => by subst z; rw [g] at h1; cases h1)]
    exact h1
  | .lst ds, v, f, h => by unfold flatD at f; exact f.elim
  | .obj C ns ds, v, f, h => by
    unfold Rep at h ⊢
    unfold flatD at f
    obtain ⟨a, dx, fs, e, h1, h2, h3⟩ := h
    refine ⟨a, dx, fs, e, ?_, h2, RepL.ersD g f h3⟩
    rw [ers_ne (fun z => by subst z; rw [g] at h1; cases h1)]
    exact h1
  | .cls a, v, _, h => by unfold Rep at h ⊢; exact h
  | .ty n, v, _, h => by unfold Rep at h ⊢; exact h
  | .sto cells, v, f, h => by unfold flatD at f; exact f.elim
  | .scr ns, v, f, h => by unfold flatD at f; exact f.elim
  | .exc a d ns ds, v, f, h => by unfold flatD at f; exact f.elim
  | .dic ks ds, v, f, h => by unfold flatD at f; exact f.elim
theorem RepL.ersD (g : G p = some (.frz od (.dT vs))) : ∀ {ds : List D} {vs : List V}, flatL ds → RepL K G H ds vs → RepL K (ers G p) H ds vs
  | [], vs, _, h => by unfold RepL at h ⊢; exact h
  | d :: ds, vs, f, h => by
    unfold RepL at h ⊢
    unfold flatL at f
    obtain ⟨v, r, e, h1, h2⟩ := h
    exact ⟨v, r, e, Rep.ersD g f.1 h1, RepL.ersD g f.2 h2⟩
end
end
/-! ### rules -/
section
variable {X : Cx}
end
section
variable {S : Scp} {Γ : Cg} {δ : List Sl} {P : D → Prop} {e o k f : Expr} {pos : Pos} {st : Stmt} {sts : List Stmt}
/-! ### a dict of one's own -/
abbrev Sl.dict (l : KD) : Sl := .dc (l.map (·.1)) (l.map (·.2))
mutual
/-- flat data do not lean on H -/
theorem Rep.flatH {K : PySem.W.Frag} {G H H' : Hp} : ∀ {d : D} {v : V}, Rep K G H d v → flatD d → Rep K G H' d v
  | .non, v, h, _ => by unfold Rep at h ⊢; exact h
  | .bl b, v, h, _ => by unfold Rep at h ⊢; exact h
  | .int i, v, h, _ => by unfold Rep at h ⊢; exact h
  | .str x, v, h, _ => by unfold Rep at h ⊢; exact h
  | .tup ds, v, h, f => by
    unfold Rep at h ⊢
    unfold flatD at f
    obtain ⟨a, vs, e, h1, h2⟩ := h
    exact ⟨a, vs, e, h1, RepL.flatH h2 f⟩
  | .lst ds, v, h, f => by unfold flatD at f; exact f.elim
  | .obj C ns ds, v, h, f => by
    unfold Rep at h ⊢
    unfold flatD at f
    obtain ⟨a, dx, fs, e, h1, h2, h3⟩ := h
    exact ⟨a, dx, fs, e, h1, h2, RepL.flatH h3 f⟩
  | .cls a, v, h, _ => by unfold Rep at h ⊢; exact h
  | .ty n, v, h, _ => by unfold Rep at h ⊢; exact h
  | .sto cells, v, h, f => by unfold flatD at f; exact f.elim
  | .scr ns, v, h, f => by unfold flatD at f; exact f.elim
  | .exc a d ns ds, v, h, f => by unfold flatD at f; exact f.elim
  | .dic ks ds, v, h, f => by unfold flatD at f; exact f.elim
theorem RepL.flatH {K : PySem.W.Frag} {G H H' : Hp} : ∀ {ds : List D} {vs : List V}, RepL K G H ds vs → flatL ds → RepL K G H' ds vs
  | [], vs, h, _ => by unfold RepL at h ⊢; exact h
  | d :: ds, vs, h, f => by
    unfold RepL at h ⊢
    unfold flatL at f
    obtain ⟨v, r, e, h1, h2⟩ := h
    exact ⟨v, r, e, Rep.flatH h1 f.1, RepL.flatH h2 f.2⟩
end
end
end Z
set_option Elab.async false
set_option linter.all false
set_option maxRecDepth 100000
set_option maxHeartbeats 4000000
/-! Z51: a dict of one's own: put, made by a display, handed back. -/
namespace Z
open PySem L2
variable [tabsI : TabsT]
section
variable {KK : PySem.W.Frag} {G H G' H' H0 : Hp} {σ : St} {δ : List Sl}
end
section
variable {S : Scp} {Γ : Cg} {δ : List Sl} {P : D → Prop} {e o k f : Expr} {pos : Pos} {st : Stmt} {sts : List Stmt} {N B C' : List Sl → Prop} {R : D → Prop}
end
/-! ### {k: v}, its key a pair -/
section
open PySem PySem.Spec PyProof.Rows
def tDisp1 (tk tv : TE) : TE := fun σ H Q => ∀ p, H p = none → tPairs [(tk, tv)] σ (upd H p (.dT [])) fun ps H2 => H2 p = some (.dT []) ∧ ∃ b k x, ps = [(.ref b, x)] ∧ H2 b = some (.tup (k.map kV)) ∧ Q (.ref p) (upd H2 p (.dT [(k, x)]))
end
section
variable {S : Scp} {Γ : Cg} {δ : List Sl} {k v : Expr} {N B C' : List Sl → Prop} {R : D → Prop}
end
end Z
set_option Elab.async false
set_option linter.all false
set_option maxRecDepth 100000
set_option maxHeartbeats 4000000
/-! Z52: the keys of a dict, one by one. -/
namespace Z
open PySem L2
variable [tabsI : TabsT]
section
variable {S : Scp} {Γ : Cg} {δ : List Sl} {e : Expr} {PI' : Nat → (Nat → D) → Prop} {tg : Expr}
/-- the keys of the table, pairs -/
def KeysAre (l : KD) (ks : List (Int × Int)) : Prop := l.map (·.1) = ks.map fun z => kp z.1 z.2
end
section
variable {S : Scp} {Γ : Cg} {δ : List Sl} {e : Expr} {PB : Bool → Prop}
end
end Z
set_option Elab.async false
set_option linter.all false
set_option maxRecDepth 100000
set_option maxHeartbeats 4000000
/-! Z53: dicts of counts: from places to whole numbers. -/
namespace Z
open PySem L2
variable [tabsI : TabsT]
abbrev Cnt := List ((Int × Int) × Int)
def cD (c : Cnt) : KD := c.map fun z => (kp z.1.1 z.1.2, .int z.2)
def cG : Cnt → Int × Int → Option Int
  | [], _ => none
  | x :: c, z => if x.1 = z then some x.2 else cG c z
def cPut (c : Cnt) (z : Int × Int) (v : Int) : Cnt := if z ∈ c.map (·.1) then c.map fun x => if x.1 = z then (x.1, v) else x else c ++ [(z, v)]
abbrev D.cnt (c : Cnt) : D := D.dict (cD c)
abbrev Sl.cnt (c : Cnt) : Sl := Sl.dict (cD c)
section
variable {S : Scp} {Γ : Cg} {δ : List Sl} {P : D → Prop} {e o k f : Expr} {pos : Pos} {N B C' : List Sl → Prop} {R : D → Prop} {PI' : Nat → (Nat → D) → Prop}
end
end Z
set_option Elab.async false
set_option linter.all false
set_option maxRecDepth 100000
set_option maxHeartbeats 4000000
/-! Z54: a list times a number; < of pairs of ints; a def called without arguments. -/
namespace L2
open PySem PySem.Spec PyProof.Rows
section
variable {X : Cx} {CX : CXT} {k : Nat} {f : Addr} {fd : FuncData} {ps : List Str} {sp : Sp} {dvs : List V} {ds : List Value} {E : St → XK} {x : Str} {p pos : Pos}
theorem pe_callSD0 (F : FnOk X.prog X.w X.K X.mg X.base CX k f fd ps sp) (hr : Room k X.A) (hg : Gl X x) (hm : X.mg x = some (.ref f)) (hk : PySem.W.keepIn X.K (.ref f) = true) (hb : Binds X.K fd ps ds) (hd : Vals dvs ds) (hx : ∀ σ, PassesAt CX X σ (E σ))
    (hdb : (x == ("__debug__" : Str)) = false := by decide) : PE X (.Call (.Name x p) [] [] pos) (tCallSD sp dvs E tNil) := by
  refine ⟨fun pins s σ H Q I h => ?_⟩
  refine wpAny_Call_Name_kw (ld_glob I hg hm ?_ hdb)
  exact PySem.W.callWith_K0 I.kIn hk (run_fnSD (us := []) F hr hb hd (hx σ) I .nil h)
end
end L2
namespace Z
open PySem L2
variable [tabsI : TabsT]
section
variable {S : Scp} {Γ : Cg} {P : D → Prop} {PL : List D → Prop}
theorem RepL.rep {KK : PySem.W.Frag} {G H : Hp} {xs : List D} {vs : List V} (h : RepL KK G H xs vs) : ∀ n : Nat, RepL KK G H (List.replicate n xs).flatten (List.replicate n vs).flatten
  | 0 => .nil
  | n + 1 => by
    rw [List.replicate_succ, List.replicate_succ, List.flatten_cons, List.flatten_cons]
    exact h.append (RepL.rep h n)
theorem of_rep {xs : List D} {n : Int} (h0 : -(2 ^ 63) ≤ n) (h1 : n < 2 ^ 63) (hl : xs.length * n.toNat ≤ sizeLine) (h : PL (List.replicate n.toNat xs).flatten) : OpF S Γ (binaryOp .Mult) (.lst xs) (.int n) PL := by
  refine ⟨fun X hX v u G H st r1 r2 Q k => ?_⟩
  unfold Rep at r1 r2
  obtain ⟨p, vs, rfl, e1, e2⟩ := r1
  subst r2
  refine OpRw op_rep ⟨p, n, vs, rfl, rfl, st.sub _ _ e1, h0, h1, by rw [e2.length]; exact hl, fun q hq => ?_⟩
  have s2 : Stp Γ.K G H G (upd H q (.lst (List.replicate n.toNat vs).flatten)) := .newM st.sub hq
  exact k q _ G _ _ s2 hq (st.sub.free hq) upd_same ((e2.rep n.toNat).mono s2) h
theorem od_ltP {a b c d : Int} (p : P (.bl (decide (a < c ∨ (a = c ∧ b < d))))) : OpD S Γ (compareOp .Lt) (.tup [.int a, .int b]) (.tup [.int c, .int d]) P := by
  refine ⟨fun X hX v u G H st r1 r2 Q k => ?_⟩
  unfold Rep at r1 r2
  obtain ⟨q1, vs, rfl, e1, f1⟩ := r1
  obtain ⟨q2, us, rfl, e2, f2⟩ := r2
  obtain ⟨v1, v2, rfl, g1, g2⟩ := repL2 f1
  obtain ⟨u1, u2, rfl, g3, g4⟩ := repL2 f2
  unfold Rep at g1 g2 g3 g4
  subst g1 g2 g3 g4
  have e : HT.lexLt [a, b] [c, d] = decide (a < c ∨ (a = c ∧ b < d)) := by
    rw [HT.lexLt_cons, HT.lexLt_cons, HT.lexLt_nil_nil]
    by_cases q : a = c
    · subst q
      by_cases w : b = d
      · subst w
        simp
      · simp [w]
    · simp [q]
  refine OpRw (op_ltT (by have := hX.roomH.un; omega)) ⟨q1, q2, [a, b], [c, d], rfl, rfl, ?_, ?_, ?_⟩
  · rw [hX.K]; exact Same.tup st.sub e1
  · rw [hX.K]; exact Same.tup st.sub e2
  · rw [e]
    exact k _ G H _ (.refl st.sub) rep_bl p
theorem je_call0 [Calm Γ] {x : Str} {lv : Nat} {df : List D} {ct : Ct} {p pos : Pos} (F : DefOk Γ.P Γ.w Γ.K Γ.mg Γ.base x lv df ct) (hl : lv ≤ S.lv) (hg : HasG S.gl x) {δ : List Sl} (h : ct df P (Γ.ex δ)) (hdb : (x == ("__debug__" : Str)) = false := by decide) :
    JE S Γ (.Call (.Name x p) [] [] pos) δ P := by
  refine ⟨fun X hX σ G H st ev Q k => ?_⟩
  have hk : Gl X x := by show X.env.scope.names.lookup x = _; rw [hX.sc]; exact hX.so.gl x hg.mem
  obtain ⟨f, fd, ps, ds, dvs, F1, F2, F3, F4, F5, F6⟩ := F.ex
  have F1' : FnOk X.prog X.w X.K X.mg X.base (L2N.CX X.prog X.w) lv f fd ps (spC Γ.K ct) := by rw [hX.prog, hX.w, hX.K, hX.mg, hX.base]; exact F1
  refine PEw (pe_callSD0 (E := WE (wx Γ)) F1' ((hX.room Calm.hx).mono hl) hk (by rw [hX.mg]; exact F2) (by rw [hX.K]; exact F3) (by rw [hX.K]; exact F4) F5 (fun σ => L2N.passAt hX.tk σ) hdb) ?_
  refine ⟨G, df, st.sub, st.tab hX.tb, F6 _ _, F.mono _ _ _ _ _ (fun d p v G' H' s r => k v G' H' d s r p) (fun cls ns es q d G' H' s x => ?_) h⟩
  exact ⟨G', δ, ns, es, st.trans s, ev.mono s, x, q⟩
end
end Z
set_option Elab.async false
set_option linter.all false
set_option maxRecDepth 100000
set_option maxHeartbeats 4000000
namespace Z
open PySem L2
variable [tabsI : TabsT]
def top (i : Nat) : Stmt := PySem.Challenge.pw_onetelling_k21_listing_of_gapless_plans.main.body.getD i (.Pass ⟨0, 0, 0, 0⟩)
def clsBody : Stmt → List Stmt
  | .ClassDef _ _ _ b _ _ _ _ _ _ _ => b
  | _ => []
def mtop (i j : Nat) : Stmt := (clsBody (top i)).getD j (.Pass ⟨0, 0, 0, 0⟩)
abbrev EK := Value → List Str → List D → Prop
end Z
set_option Elab.async false
set_option linter.all false
set_option maxRecDepth 100000
set_option maxHeartbeats 4000000
namespace Z
open PySem L2
variable [tabsI : TabsT]
local macro_rules | `(tactic| lsm_bools) => `(tactic| fail)
local macro_rules | `(tactic| ktu_offI) => `(tactic| with_reducible (first | exact Has.head | (apply Has.tail; ktu_offI)))
local macro_rules | `(tactic| ktu_offL) => `(tactic| with_reducible (first | exact HasG.head | (apply HasG.tail; ktu_offL)))
local macro_rules | `(tactic| lcg_off) => `(tactic| exact Blt.h (by assumption) _ (by ktu_offL))
local macro_rules | `(tactic| lcg_sub) => `(tactic| first | assumption | omega | decide +kernel)
local macro_rules | `(tactic| lcg_src) => `(tactic| first | exact Bd.ok (n := 3000) (m := 3000) (by unfold Bd; decide +kernel) (by unfold Bd; decide +kernel) (by decide) | exact mulok_r (by omega) | exact mulok_l (by omega) | exact Bd.ok (by mem_news) (by mem_news) (by omega))
local macro_rules | `(tactic| mem_news) => `(tactic| with_reducible (first | assumption | exact Bd.neg (by mem_news) | exact Bd.mul (by mem_news) (by mem_news) | exact Bd.add (by mem_news) (by mem_news) | exact Bd.sub (by mem_news) (by mem_news)))
local macro_rules | `(tactic| nest_cls) => `(tactic| first | exact PyProof.noPylong_small (by decide) | exact nopy_i (by mem_news) (by omega) | exact nopy_j (by mem_news) (by omega))
local macro_rules | `(tactic| kt_len) => `(tactic| first
  | refine zt_int (by ktu_offL) (by lcg_off) ?_
  | refine zt_bool (by ktu_offL) (by lcg_off) ?_
  | refine zt_str (by ktu_offL) (by lcg_off) ?_
  | refine zt_tuple (by ktu_offL) (by lcg_off) ?_
  | refine zt_list (by ktu_offL) (by lcg_off) ?_
  | refine zt_dict (by ktu_offL) (by lcg_off) ?_
  | refine zt_VE (by ktu_offL) (by lcg_off) ?_)
local macro_rules | `(tactic| tlg_ne) => `(tactic| first
  | refine ze_own (by ktu_offI) (by rfl) ?_
  | refine ze_viewA (by ktu_offI) (by rfl) (by kcj_has) ?_
  | refine ze_call (by assumption) (by first | decide | exact Nat.le_refl _) (by ktu_offL) ?_
  | refine jf_je (jf_callF (by assumption) (by first | decide | exact Nat.le_refl _) (by ktu_offL) ?_)
  | refine je_M (jm_callM (by assumption) (by first | decide | exact Nat.le_refl _) (by ktu_offL) ?_)
  | refine je_callX rfl (by assumption) (by first | decide | exact Nat.le_refl _) (by ktu_offL) ?_
  | refine je_make (by assumption) (by decide) (by ktu_offL) ?_
  | refine zb_len (by ktu_offL) (by lcg_off) ?_
  | refine zb_isi (by ktu_offL) (by lcg_off) ?_
  | refine zb_int (by ktu_offL) (by lcg_off) ?_
  | refine jf_je (jf_rg1 (by ktu_offL) (by lcg_off) (by ktu_offL) (by lcg_off) ?_)
  | refine jf_je (jf_rg2 (by ktu_offL) (by lcg_off) (by ktu_offL) (by lcg_off) ?_)
  | refine zb_list (by ktu_offL) (by lcg_off) ?_
  | refine jf_je (jf_sortedSet (by ktu_offL) (by lcg_off) (by ktu_offL) (by lcg_off) ?_)
  | refine zb_tuple (by ktu_offL) (by lcg_off) ?_
  | refine zb_max (by ktu_offL) (by lcg_off) ?_
  | refine zb_min (by ktu_offL) (by lcg_off) ?_
  | refine zb_abs (by ktu_offL) (by lcg_off) ?_
  | refine zb_sum (by ktu_offL) (by lcg_off) ?_
  | refine zb_all (by ktu_offL) (by lcg_off) ?_
  | refine zb_any (by ktu_offL) (by lcg_off) ?_
  | refine zb_bool (by ktu_offL) (by lcg_off) ?_)
local macro_rules | `(tactic| k_offL) => `(tactic| first
  | ((with_reducible show JE _ _ (Expr.Name _ _) _ _); first | refine ze_name (by ktu_offI) (by rfl) ?_ | refine je_globA (HasG.mem (by ktu_offL)) (by assumption) ?_ | refine je_globI (HasG.mem (by ktu_offL)) (by assumption) ?_ | refine ze_err (by assumption) rfl (by ktu_offL) (by decide +kernel) ?_ (by decide +kernel) | kt_len)
  | ((with_reducible show JE _ _ (Expr.Constant _ _ _) _ _); first | refine je_int ?_ | refine je_str ?_ | refine je_bl ?_ | refine je_non ?_)
  | ((with_reducible show JE _ _ (Expr.Call _ _ _ _) _ _); first
     | ((with_reducible show JE _ _ (Expr.Call (Expr.Name _ _) _ _ _) _ _); tlg_ne)
     | ((with_reducible show JE _ _ (Expr.Call (Expr.Attribute _ "count" _) [_] _ _) _ _); refine je_count ?_)
     | ((with_reducible show JE _ _ (Expr.Call (Expr.Attribute _ "join" _) [_] _ _) _ _); refine je_join ?_)
     | ((with_reducible show JE _ _ (Expr.Call (Expr.Attribute _ "get" _) [_, _] _ _) _ _); first | refine ze_cgetO (by ktu_offI) (by rfl) ?_ | refine je_cget ?_)
     | refine je_meth0 (by assumption) (by assumption) (by decide) ?_
     | refine je_meth (by assumption) (by assumption) (by decide) ?_
     | refine jf_je (jf_meth0F (by assumption) (by assumption) (by decide) ?_)
     | refine jf_je (jf_methF (by assumption) (by assumption) (by decide) ?_))
  | ((with_reducible show JE _ _ (Expr.Subscript _ _ _) _ _); first
     | refine je_ixOw (by ktu_offI) (by rfl) ?_ (fun _ _ => rfl)
     | ((with_reducible show JE _ _ (Expr.Subscript (Expr.Name _ _) _ _) _ _); refine je_cixO (by ktu_offI) (by rfl) ?_)
     | refine je_stoGet ?_
     | refine je_ix (fun _ _ => rfl) ?_
     | refine je_cutA ?_)
  | ((with_reducible show JE _ _ (Expr.BinOp _ _ _ _) _ _); refine je_bin ?_)
  | ((with_reducible show JE _ _ (Expr.Compare _ _ _ _) _ _); first | refine je_ownC (by ktu_offI) (by rfl) ?_ | refine je_cmpO (by ktu_offI) (by rfl) ?_ | refine je_cmp (by rfl) ?_ | refine je_cmp (nomark _) ?_ | refine je_chain (by with_unfolding_all rfl) ?_)
  | ((with_reducible show JE _ _ (Expr.Attribute _ _ _) _ _); first | refine ze_excF (by assumption) rfl rfl (by decide +kernel) (by decide +kernel) (by decide +kernel) ?_ | refine je_fld (by assumption) (by assumption) ?_ | refine je_prop (by assumption) (by assumption) (by decide) ?_ | refine jf_je (jf_propF (by assumption) (by assumption) (by decide) ?_))
  | ((with_reducible show JE _ _ (Expr.Tuple _ _ _) _ _); refine je_tup ?_)
  | ((with_reducible show JE _ _ (Expr.List _ _) _ _); refine jf_je (jf_lst ?_))
  | ((with_reducible show JE _ _ (Expr.UnaryOp _ _ _) _ _); first | refine je_not ?_ | refine je_un ?_)
  | ((with_reducible show JE _ _ (Expr.BoolOp _ _ _) _ _); first | refine je_one ?_ | refine je_and ?_ | refine je_or ?_)
  | ((with_reducible show JE _ _ (Expr.IfExp _ _ _ _) _ _); refine je_if ?_))
local macro_rules | `(tactic| nest_fact) => `(tactic| first
  | ((with_reducible show JF _ _ (Expr.Call _ _ _ _) _ _); first
     | ((with_reducible show JF _ _ (Expr.Call (Expr.Name _ _) _ _ _) _ _); first
        | refine jf_callF (by assumption) (by first | decide | exact Nat.le_refl _) (by ktu_offL) ?_
        | refine jf_rg1 (by ktu_offL) (by lcg_off) (by ktu_offL) (by lcg_off) ?_
        | refine jf_rg2 (by ktu_offL) (by lcg_off) (by ktu_offL) (by lcg_off) ?_
        | refine zf_list (by ktu_offL) (by lcg_off) ?_
        | refine jf_sortedSet (by ktu_offL) (by lcg_off) (by ktu_offL) (by lcg_off) ?_
        | refine zf_sorted (by ktu_offL) (by lcg_off) ?_)
     | refine jf_meth0F (by assumption) (by assumption) (by decide) ?_
     | refine jf_methF (by assumption) (by assumption) (by decide) ?_)
  | ((with_reducible show JF _ _ (Expr.Attribute _ _ _) _ _); refine jf_propF (by assumption) (by assumption) (by decide) ?_)
  | ((with_reducible show JF _ _ (Expr.List _ _) _ _); refine jf_lst ?_)
  | ((with_reducible show JF _ _ (Expr.Subscript _ (Expr.Slice _ _ _ _) _) _ _); refine jf_cut ?_)
  | ((with_reducible show JF _ _ (Expr.BinOp _ _ _ _) _ _); refine jf_bin ?_))
local macro_rules | `(tactic| k_subL) => `(tactic| first
  | ((with_reducible show JT _ _ (Expr.Compare _ _ _ _) _ _); first | refine jt_ownC (by ktu_offI) (by rfl) ?_ | refine jt_cmpO (by ktu_offI) (by rfl) ?_ | refine jt_cmp (by rfl) ?_ | refine jt_cmp (nomark _) ?_ | refine jt_chain (by with_unfolding_all rfl) ?_)
  | ((with_reducible show JT _ _ (Expr.BoolOp _ _ _) _ _); refine jw_t ?_)
  | ((with_reducible show JT _ _ (Expr.UnaryOp _ _ _) _ _); refine jt_not ?_)
  | ((with_reducible show JT _ _ (Expr.Name _ _) _ _); first | refine jt_truOw (by ktu_offI) (by rfl) ?_ | refine jt_tru ?_ (fun _ _ => rfl))
  | refine jt_val ?_ (fun _ _ => rfl))
local macro_rules | `(tactic| k_clsL) => `(tactic| first
  | refine jw_and1 ?_
  | refine jw_or1 ?_
  | refine jw_and ?_
  | refine jw_or ?_)
local macro_rules | `(tactic| kct_strs) => `(tactic| first
  | (with_reducible refine od_add ?_)
  | (with_reducible refine od_sub ?_)
  | (with_reducible refine od_eq ?_)
  | (with_reducible refine od_ne ?_)
  | (with_reducible refine od_lt ?_)
  | (with_reducible refine od_le ?_)
  | (with_reducible refine od_gt ?_)
  | (with_reducible refine od_ge ?_)
  | (with_reducible refine od_eqS ?_)
  | (with_reducible refine od_neS ?_)
  | (with_reducible refine od_eqB ?_)
  | (with_reducible refine od_neB ?_)
  | (with_reducible refine od_isN ?_)
  | (with_reducible refine od_inS ?_)
  | (with_reducible refine od_ninS ?_)
  | ((with_reducible show OpD _ _ (binaryOp Operator.Add) (D.str _) (D.str _) _); refine od_addS (by first | omega | (simp only [Str.length_append]; omega)) ?_)
  | ((with_reducible show OpD _ _ (binaryOp Operator.Mult) (D.str _) (D.int _) _); refine od_mulS (by omega) (by omega) (by first | assumption | omega | decide) ?_)
  | (with_reducible refine od_notN ?_)
  | (with_reducible refine od_inC ?_)
  | (with_reducible refine od_ninC ?_)
  | (with_reducible refine od_inL ?_)
  | (with_reducible refine od_ninL ?_)
  | (with_reducible refine od_inT ?_)
  | (with_reducible refine od_ninT ?_)
  | ((with_reducible show OpD _ _ (binaryOp _) (D.int _) (D.int _) _); first
     | ((with_reducible show OpD _ _ (binaryOp Operator.Mult) _ _ _); refine od_mul (by lcg_src) ?_)
     | ((with_reducible show OpD _ _ (binaryOp Operator.Mod) _ _ _); refine od_mod (by lcg_sub) ?_)
     | ((with_reducible show OpD _ _ (binaryOp Operator.FloorDiv) _ _ _); refine od_fdiv (by lcg_sub) (by nest_cls) ?_)
     | ((with_reducible show OpD _ _ (binaryOp Operator.Pow) _ _ _); first | (with_reducible refine od_p2_32 ?_) | (with_reducible refine od_p10_3 ?_) | (with_reducible refine od_p10_6 ?_) | (with_reducible refine od_p10_9 ?_) | (with_reducible refine od_p10_12 ?_) | (with_reducible refine od_p10_18 ?_) | (with_reducible refine od_p10_19 ?_) | (with_reducible refine od_p10_20 ?_) | (with_reducible refine od_p10_30 ?_) | (with_reducible refine od_p10_39 ?_) | (with_reducible refine od_p10_40 ?_) | (with_reducible refine od_p10_64 ?_)))
  | ((with_reducible show OpD _ _ (binaryOp Operator.Add) (D.lst _) (D.lst _) _); refine of_od (of_cat (by lcg_sub) ?_))
  | (with_reducible refine od_iadd ?_)
  | (with_reducible refine od_isub ?_)
  | ((with_reducible show OpD _ _ (compareOp _) _ (D.obj _ _ _) _); first
     | (refine od_inO (by assumption) (by decide) ?_)
     | (refine od_ninO (by assumption) (by decide) ?_)
     | (refine od_eqO (by assumption) (by decide) ?_)
     | (refine od_neO (by assumption) (by assumption) (by assumption) (by decide) ?_)))
local macro_rules | `(tactic| kd_addB) => `(tactic| first
  | (with_reducible refine cd_lenL ?_)
  | (with_reducible refine cd_lenT ?_)
  | (with_reducible refine cd_int ?_)
  | (with_reducible refine cd_intB ?_)
  | (with_reducible refine cd_abs ?_)
  | (with_reducible refine cd_max ?_)
  | (with_reducible refine cd_min ?_)
  | (with_reducible refine ci_bool (by with_unfolding_all rfl) ?_)
  | (with_reducible refine ci_int (by with_unfolding_all rfl) ?_)
  | (with_reducible refine ci_str (by with_unfolding_all rfl) ?_)
  | (with_reducible refine ci_tup (by with_unfolding_all rfl) ?_)
  | (with_reducible refine ci_lst (by with_unfolding_all rfl) ?_)
  | (with_reducible refine ci_dict (by with_unfolding_all rfl) ?_)
  | (with_reducible refine cd_tupL ?_)
  | (with_reducible refine cd_tupT ?_)
  | (with_reducible refine cd_sumL ?_)
  | (with_reducible refine cd_allL ?_)
  | (with_reducible refine cd_anyL ?_)
  | (with_reducible refine cd_lenScr ?_)
  | ((with_reducible show CallD _ _ (Value.builtin "len") [D.str _] _); refine cd_lenS (by first | assumption | omega) ?_)
  | (with_reducible refine cd_sumH ?_)
  | ((with_reducible show CallD _ _ (Value.builtin "len") [D.obj _ _ _] _); refine cd_lenO (by assumption) (by decide) ?_)
  | ((with_reducible show CallD _ _ _ [D.exc _ _ _ _, _] _); first | refine cd_isEF (by assumption) rfl rfl (by decide +kernel) (by decide +kernel) (by decide +kernel) ?_ | refine cd_isET (by assumption) rfl rfl (by decide +kernel) (by decide +kernel) (by decide +kernel) ?_ | refine cd_isEV (by assumption) rfl rfl (by decide +kernel) ?_)
  | (refine cd_isO (by assumption) ?_))
local macro_rules | `(tactic| kd_addW) => `(tactic| first
  | ((with_reducible show JS _ (Env1.cgF _ _ _ _ _) (Stmt.Return _ _) _ _); first | refine zs_retOwF (by ktu_offI) (by rfl) ?_ | refine zs_retJF ?_ | refine zs_retMv (by ktu_offI) (by rfl) ?_ | refine zs_retMo (by ktu_offI) (by rfl) ?_ | refine zs_retJM ?_)
  | ((with_reducible show JS _ (Env1.cgFL _ _ _ _ _ _) (Stmt.Return _ _) _ _); refine zs_retJML ?_)
  | ((with_reducible show JS _ (Cg.tr (Env1.cgF _ _ _ _ _) _) (Stmt.Return _ _) _ _); refine zs_retJMt ?_)
  | ((with_reducible show JS _ _ (Stmt.Return _ _) _ _); first | refine zs_retOw (by ktu_offI) (by rfl) ?_ | refine zs_ret ?_ | refine zs_retN ?_)
  | refine zs_if ?_
  | ((with_reducible show JS _ _ (Stmt.Raise (some (Expr.Call (Expr.Name _ _) [] _ _)) _ _) _ _); refine zs_raise0 (by assumption) rfl rfl (by decide +kernel) (by decide +kernel) (by ktu_offL) ?_)
  | ((with_reducible show JS _ _ (Stmt.Raise _ _ _) _ _); refine zs_raise (by assumption) rfl rfl rfl (by decide +kernel) (by decide) (by ktu_offL) ?_)
  | ((with_reducible show JS _ _ (Stmt.Try _ _ _ _ _) _ _); refine zs_try (by assumption) rfl rfl (by ktu_offI) (by decide +kernel) (by ktu_offL) (by decide +kernel) (by decide +kernel) ?_)
  | ((with_reducible show JS _ _ (Stmt.Assign [Expr.Name _ _] (Expr.List _ _) _) _ _); refine zs_setFL (by ktu_offI) (jf_lst ?_))
  | ((with_reducible show JS _ _ (Stmt.Assign [Expr.Attribute _ _ _] _ _) _ _); refine zs_fld (by ktu_offI) (by rfl) (oneOb (by first | rfl | (simp only [List.all_cons, *]; rfl))) (by assumption) (by assumption) (by first | decide +kernel | simp) (by simp) ?_)
  | ((with_reducible show JS _ _ (Stmt.Assign [Expr.Name _ _] (Expr.Dict [some _] [_] _) _) _ _); refine zs_cdisp (by ktu_offI) ?_)
  | refine zs_set (by ktu_offI) ?_
  | ((with_reducible show JS _ _ (Stmt.Expr (Expr.Call (Expr.Attribute _ _ _) [Expr.Name _ _] _ _) _) _ _); refine zs_appendF (by ktu_offI) (by ktu_offI) (by decide) (by rfl) (by rfl) ?_)
  | refine zs_append (by ktu_offI) (by rfl) ?_
  | ((with_reducible show JS _ _ (Stmt.Expr (Expr.Call (Expr.Attribute _ "append" _) [_] _ _) _) _ _); refine zs_app ?_)
  | ((with_reducible show JS _ _ (Stmt.Expr (Expr.Call (Expr.Attribute _ "reverse" _) [] _ _) _) _ _); refine zs_rev ?_)
  | ((with_reducible show JS _ _ (Stmt.Expr (Expr.Call (Expr.Attribute _ "clear" _) [] _ _) _) _ _); refine zs_clr ?_)
  | ((with_reducible show JS _ _ (Stmt.Expr (Expr.Call (Expr.Attribute _ "extend" _) [_] _ _) _) _ _); refine zs_ext ?_)
  | ((with_reducible show JS _ _ (Stmt.Expr (Expr.Call (Expr.Attribute _ "insert" _) [_, _] _ _) _) _ _); refine zs_ins ?_)
  | ((with_reducible show JS _ _ (Stmt.For _ (Expr.Name _ _) _ _ _) _ _); refine zs_fzN (by ktu_offI) (by rfl) ?_)
  | refine zs_for rfl ?_
  | refine zs_pop (by ktu_offI) (by rfl) (by first | assumption | omega | (simp; done) | (simp; omega)) ?_
  | refine zs_expr ?_
  | refine zs_break ?_
  | refine zs_aug (by ktu_offI) (by rfl) ?_
  | refine zs_par (by ktu_offI) (by ktu_offI) (by decide) (by decide +kernel) (by decide +kernel) ?_ (fun env h => by cases env; cases h; rfl)
  | refine zs_setIx (by ktu_offI) (by rfl) ?_
  | ((with_reducible show JS _ _ (Stmt.Assign [Expr.Subscript (Expr.Name _ _) _ _] _ _) _ _); refine zs_cput (by ktu_offI) (by rfl) ?_)
  | refine zs_stoPut ?_
  | ((with_reducible show JS _ _ (Stmt.Assign [Expr.Subscript _ _ _] _ _) _ _); refine zs_setAt ?_)
  | refine zs_asg ?_)
local macro_rules | `(tactic| one_place) => `(tactic| first
  | refine zi_rng1 (by ktu_offL) (by lcg_off) (fun _ => rfl) ?_
  | refine zi_rng2 (by ktu_offL) (by lcg_off) (fun _ => rfl) (fun _ => rfl) ?_
  | refine ji_enumA (by ktu_offL) (by lcg_off) ?_
  | refine ji_zipA (by ktu_offL) (by lcg_off) ?_
  | refine ji_seq ?_
  | refine ji_list ?_)
local macro_rules | `(tactic| kcj_in) => `(tactic| first
  | refine zg_name (by ktu_offI) ?_
  | refine jg_tup (by rfl) ?_)
local macro_rules | `(tactic| krn_off) => `(tactic| first
  | refine L2.iteT ?_
  | refine L2.iteF ?_
  | refine ite_dT (by lcg_sub) ?_
  | refine ite_dF (by lcg_sub) ?_
  | refine ite_ndT (by lcg_sub) ?_
  | refine ite_ndF (by lcg_sub) ?_)
local macro_rules | `(tactic| kcj_has) => `(tactic| first | exact flat_fzs | (simp only [MT.flat, MT.flatL, flatL_fz, flatL_app, flatL_map]; rfl) | rfl)
local macro_rules | `(tactic| kcu_rest) => `(tactic| first
  | refine jp_name (by ktu_offI) (by rfl) ?_
  | refine jp_ix (fun _ _ => rfl) ?_)
local macro_rules | `(tactic| kcu_lt) => `(tactic| first
  | ((with_reducible show JM _ _ (Expr.List _ _) _ _); refine jm_lst ?_)
  | ((with_reducible show JM _ _ (Expr.Tuple _ _ _) _ _); refine jm_tup ?_)
  | ((with_reducible show JM _ _ (Expr.Call (Expr.Name _ _) _ _ _) _ _); refine jm_callM (by assumption) (by first | decide | exact Nat.le_refl _) (by ktu_offL) ?_)
  | ((with_reducible show JM _ _ (Expr.Call (Expr.Attribute _ _ _) [] _ _) _ _); refine jm_meth0M (by assumption) (by assumption) (by decide) ?_)
  | ((with_reducible show JM _ _ (Expr.Call (Expr.Attribute _ _ _) _ _ _) _ _); refine jm_methM (by assumption) (by assumption) (by decide) ?_)
  | ((with_reducible show JM _ _ (Expr.Call _ _ _ _) _ _); refine jm_f ?_; nest_fact)
  | ((with_reducible show JM _ _ (Expr.Subscript _ (Expr.Slice _ _ _ _) _) _ _); refine jm_f ?_; nest_fact)
  | ((with_reducible show JM _ _ (Expr.Attribute _ _ _) _ _); refine jm_f ?_; nest_fact)
  | ((with_reducible show JM _ _ (Expr.ListComp _ _ _ _) _ _); refine jm_f ?_; nest_fact)
  | refine jm_e ?_)
local macro_rules | `(tactic| kwd_rel) => `(tactic| first
  | ((with_reducible show OwnAt _ _ _ _); refine ownAt (by rfl) (by rfl) ?_)
  | ((with_reducible show IxM _ _ _ _ _); first | refine ixM_at (by rfl) (by rfl) (by rfl) ?_ | refine ixM_atT (by rfl) (by rfl) (by rfl) ?_)
  | ((with_reducible show Exists _); first
     | ((with_reducible show ∃ c, D.sto _ = D.sto c ∧ _); refine Exists.intro _ (And.intro rfl ?_))
     | ((with_reducible show ∃ i, D.int _ = D.int i ∧ _); refine ⟨_, rfl, ?_⟩)
     | ((with_reducible show ∃ i, D.bl _ = D.bl i ∧ _); refine ⟨_, rfl, ?_⟩)
     | ((with_reducible show ∃ c, D.cnt _ = D.cnt c ∧ _); refine ⟨_, rfl, ?_⟩)
     | ((with_reducible show ∃ a b, D.tup [D.int _, D.int _] = D.tup [D.int a, D.int b] ∧ _); refine ⟨_, _, rfl, ?_⟩)
     | ((with_reducible show ∃ i, D.lst _ = D.lst i ∧ _); refine ⟨_, rfl, ?_⟩)
     | ((with_reducible show ∃ i, D.tup _ = D.tup i ∧ _); refine ⟨_, rfl, ?_⟩)
     | ((with_reducible show ∃ i j, D.int _ = D.int i ∧ D.int _ = D.int j ∧ _); refine ⟨_, _, rfl, rfl, ?_⟩)
     | ((with_reducible show ∃ ns ds v, D.obj _ _ _ = D.obj _ ns ds ∧ _); refine ⟨_, _, _, rfl, rfl, ?_⟩)
     | ((with_reducible show ∃ ns ds v, D.exc _ _ _ _ = D.exc _ _ ns ds ∧ _); refine ⟨_, _, _, rfl, exc_look (by decide +kernel), ?_⟩))
  | ((with_reducible show And _ _); first
     | ((with_reducible show _ < sizeLine ∧ _); refine And.intro (by first | assumption | omega) ?_)
     | ((with_reducible show _ ≤ sizeLine ∧ _); refine And.intro (by first | exact (by decide : _ ≤ sizeLine) | (simp; done) | (simp; decide)) ?_)
     | ((with_reducible show flatD _ ∧ _); refine And.intro (by first | trivial | exact flat_tup | exact flat_obj2 | exact flat_rows fun x _ => flat_tup | (unfold flatD; exact flat_rows fun x _ => flat_tup) | (simp [flatD, flatL]; done)) ?_)
     | ((with_reducible show TolD _ ∧ _); refine ⟨tolI (by decide), ?_⟩)
     | ((with_reducible show ∃ _ : Str, D.str _ = D.str _ ∧ _); refine Exists.intro _ (And.intro rfl ?_))
     | ((with_reducible show (∃ ns ds, D.obj _ _ _ = D.obj _ ns ds) ∧ _); refine ⟨⟨_, _, rfl⟩, ?_⟩)
     | ((with_reducible show -(2 ^ 62) ≤ _ ∧ _ < 2 ^ 62 ∧ _); refine ⟨by omega, by omega, ?_⟩)
     | ((with_reducible show (-(2 ^ 62) ≤ _ ∧ _ < 2 ^ 62 ∧ -(2 ^ 62) ≤ _ ∧ _ < 2 ^ 62) ∧ _); refine ⟨⟨by omega, by omega, by omega, by omega⟩, ?_⟩))
  | ((with_reducible show cutA _ _ _ (D.lst _)); refine cutA_map ?_)
  | ((with_reducible show cutA _ _ _ (D.str _)); refine And.intro (by first | assumption | omega) ?_)
  | ((with_reducible show seqD _ _); first | refine seq_lst ?_ | refine seq_tup ?_ | refine seq_scr ?_ | refine seq_cnt ?_)
  | ((with_reducible show enumD _ _); first | refine enum_lst ?_ | refine enum_tup ?_)
  | ((with_reducible show zipD _ _); first | refine zip_lst ?_ | refine zip_tup ?_)
  | ((with_reducible show ObjC _ _ _ _); refine ⟨_, _, rfl, by decide, ?_⟩)
  | ((with_reducible show ansB _ _); refine ⟨_, rfl, ?_⟩)
  | ((with_reducible show ansL _ _); refine ⟨_, rfl, ⟨by omega, by omega⟩, ?_⟩)
  | ((with_reducible show StoGet _ _ _); first | refine sg_restB (fun r h1 h2 => ?_) | refine sg_left (fun r h1 => ?_) | refine sg_at (fun r h1 h2 => ?_) | refine sg_turn (fun r => ?_) | refine sg_seed (fun r => ?_) | refine sg_cells ?_))
local macro_rules | `(tactic| kas_types) => `(tactic| first
  | ((with_reducible show JE _ _ _ _ _); k_offL)
  | ((with_reducible show OpD _ _ _ _ _ _); kct_strs)
  | ((with_reducible show JF _ _ _ _ _); nest_fact)
  | ((with_reducible show OpF _ _ _ _ _ _); refine of_cat (by lcg_sub) ?_)
  | ((with_reducible show JM _ _ _ _ _); kcu_lt)
  | ((with_reducible show JP _ _ _ _ _); kcu_rest)
  | ((with_reducible show JMA _ _ _ _ _); first | refine jma_nil ?_ | refine jma_cons (fun _ => rfl) ?_)
  | ((with_reducible show JSs _ _ [Stmt.Return (some (Expr.Name _ _)) _] _ _); refine zs_retD (by ktu_offI) (by rfl) ?_)
  | ((with_reducible show JSs _ _ _ _ _); first | refine zs_one ?_ | refine zs_cons ?_ | refine zs_nil ?_)
  | ((with_reducible show JS _ _ _ _ _); kd_addW)
  | ((with_reducible show JT _ _ _ _ _); k_subL)
  | ((with_reducible show JW _ _ _ _ _); k_clsL)
  | ((with_reducible show IxD _ _ _ _ _); first | refine ixd_tup (by rfl) ?_ | refine ixd_cnt (by assumption) ?_ | refine ixd_lst (by rfl) ?_)
  | ((with_reducible show UnD _ _ _ _ _); refine ud_neg ?_)
  | ((with_reducible show JA _ _ _ _ _); first | refine ja_nil ?_ | refine ja_cons (fun _ => rfl) ?_)
  | ((with_reducible show isBl _ _); refine isBl_mk ?_)
  | ((with_reducible show CallD _ _ _ _ _); kd_addB)
  | ((with_reducible show CallF _ _ _ _ _); first | refine cf_list ?_ | refine cf_listT ?_)
  | ((with_reducible show JG _ _ _ _ _ _); kcj_in)
  | ((with_reducible show JGs _ _ _ _ _ _); first | refine jgs_nil ?_ | refine jgs_cons ?_)
  | ((with_reducible show JTs _ _ _ _ _); first | refine jts_nil ?_ | refine jts_one ?_)
  | ((with_reducible show JGW _ _ _ _ _ _ _); first | refine jgw_name (Has.mem (by ktu_offI)) (by decide) ?_ | refine jgw_tup rfl ?_)
  | ((with_reducible show JGWs _ _ _ _ _ _ _); first | refine jgws_nil ?_ | refine jgws_cons ?_)
  | ((with_reducible show JI _ _ _ _ _ _); one_place)
  | ((with_reducible show JO _ _ _ _ _); first | refine jo_none ?_ | refine jo_some ?_)
  | ((with_reducible show (if _ then _ else _ : Prop)); krn_off)
  | kwd_rel
  | lsm_bools)
local macro_rules | `(tactic| kat_tups) => `(tactic| repeat kas_types)
local macro_rules | `(tactic| leaf_len) => `(tactic| repeat ((fail_if_success (with_reducible show JSs _ _ (Stmt.If _ _ _ _ :: _ :: _) _ _)); kas_types))
section

/-! ### the drawing -/
theorem atI_some {α : Type} {ds : List α} {k : Int} (h1 : -(ds.length : Int) ≤ k) (h2 : k < ds.length) : ∃ d ∈ ds, L2.atI ds k = some d := by
  unfold L2.atI ixN
  by_cases h : 0 ≤ k
  · rw [if_pos h, if_pos h2]
    have hl : k.toNat < ds.length := by omega
    exact ⟨ds[k.toNat], List.getElem_mem _, by simp [hl]⟩
  · rw [if_neg h, if_pos h1]
    have hl : (k + ds.length).toNat < ds.length := by omega
    exact ⟨ds[(k + ds.length).toNat], List.getElem_mem _, by simp [hl]⟩
theorem atI_ints {cells : List Int} {k : Int} (h1 : -(cells.length : Int) ≤ k) (h2 : k < cells.length) : ∃ c, L2.atI (cells.map D.int) k = some (.int c) := by
  obtain ⟨d, hd, e⟩ := atI_some (ds := cells.map D.int) (k := k) (by simpa using h1) (by simpa using h2)
  obtain ⟨c, _, rfl⟩ := List.mem_map.mp hd
  exact ⟨c, e⟩
/-! _law_mixed -/
inductive cMixed : List D → (D → Prop) → EK → Prop
  | mk {P : D → Prop} {E : EK} (number turn many : Int) (hm : 1 ≤ many) (k : ∀ v : Int, 0 ≤ v → v < many → P (.int v)) : cMixed [.int number, .int turn, .int many] P E
theorem mo_cMixed : ∀ (ds : List D) (P P' : D → Prop) (E E' : EK), (∀ d, P d → P' d) → (∀ v ns es, E v ns es → E' v ns es) → cMixed ds P E → cMixed ds P' E' := by
  intro ds P P' E E' hp he h
  cases h with
  | mk number turn many hm k => exact .mk number turn many hm (by first | exact hp _ k | exact k.imp hp | (intros; apply hp; apply k <;> assumption))
abbrev S__law_mixed : Scp := { N := ["number", "turn", "many", "first", "value", "size", "k", "again"], sc := defScope (top 39), vs := [("number", 0), ("turn", 1), ("many", 2), ("first", 3), ("value", 4), ("size", 5), ("k", 6), ("again", 7)], ss := [("number", 0), ("turn", 1), ("many", 2), ("first", 3), ("value", 4), ("size", 5), ("k", 6), ("again", 7)], gl := ["int", "range"], lv := 1 }
theorem b__law_mixed {U : Env1} (hB : Blt U ["int", "range"])  (G H : Hp) (ds) (P) (E) (h : cMixed ds P E) : JSs S__law_mixed (U.cg G H fun _ => E) (defBody (top 39)) (startD S__law_mixed.N ds) { nx := fun _ => P .non, rt := P } := by
  obtain ⟨number, turn, many, hm, k⟩ := h
  kat_tups
  refine ⟨fun i δ' => ∃ f v s : Int, ∃ sk sa : Sl, 0 ≤ f ∧ f < 2147483648 ∧ δ' = [.fz (.int number), .fz (.int turn), .fz (.int many), .fz (.int f), .fz (.int v), .fz (.int s), sk, sa], ⟨_, 0, 1, .no, .no, ?_, ?_, rfl⟩, ?_, ?_⟩
  · exact Int.emod_nonneg _ (by decide)
  · have := Int.emod_lt_of_pos (number % 2147483647 * 48271 + turn * 69621 + 101) (show (0 : Int) < 2147483647 by decide)
    omega
  · intro i hi
    refine turns_of ?_
    rintro δ' ⟨f, v, s, sk, sa, f1, f2, rfl⟩
    kat_tups
    refine ite_d (fun h1 => ?_) (fun h1 => ?_)
    · kat_tups
      refine ⟨_, _, _, _, _, Int.emod_nonneg _ (by decide), ?_, rfl⟩
      have := Int.emod_lt_of_pos (f * f + f / 5 + turn * 16807 + (0 + (i : Int)) * 7919 + 13) (show (0 : Int) < 2147483629 by decide)
      omega
    · kat_tups
      exact ⟨f, v, s, _, _, f1, f2, rfl⟩
  · rintro δ' ⟨f, v, s, sk, sa, f1, f2, rfl⟩
    kat_tups
    exact k _ (Int.emod_nonneg _ (by omega)) (Int.emod_lt_of_pos _ (by omega))
/-! _law_draws -/
inductive cDraws : List D → (D → Prop) → EK → Prop
  | mk {P : D → Prop} {E : EK} (ns : List Int) (hl : ns.length ≤ 63) (k : P (.sto ns)) : cDraws [.scr ns] P E
theorem mo_cDraws : ∀ (ds : List D) (P P' : D → Prop) (E E' : EK), (∀ d, P d → P' d) → (∀ v ns es, E v ns es → E' v ns es) → cDraws ds P E → cDraws ds P' E' := by
  intro ds P P' E E' hp he h
  cases h with
  | mk ns hl k => exact .mk ns hl (by first | exact hp _ k | exact k.imp hp | (intros; apply hp; apply k <;> assumption))
abbrev S__law_draws : Scp := { N := ["script", "seed", "cell"], sc := defScope (top 40), vs := [("script", 0), ("seed", 1), ("cell", 2)], ss := [("script", 0), ("seed", 1), ("cell", 2)], gl := ["int", "len", "list"], lv := 1 }
theorem b__law_draws {U : Env1} (hB : Blt U ["len", "int", "list"])  (G H : Hp) (ds) (P) (E) (h : cDraws ds P E) : JSs S__law_draws (U.cg G H fun _ => E) (defBody (top 40)) (startD S__law_draws.N ds) { nx := fun _ => P .non, rt := P } := by
  obtain ⟨ns, hl, k⟩ := h
  kat_tups
  refine ⟨fun i δ' => ∃ f : Int, ∃ sk : Sl, δ' = [.fz (.scr ns), .fz (.int f), sk], ⟨_, .no, rfl⟩, ?_, ?_⟩
  · intro i hi
    refine turns_of ?_
    rintro δ' ⟨f, sk, rfl⟩
    kat_tups
    exact ⟨_, _, rfl⟩
  · rintro δ' ⟨f, sk, rfl⟩
    kat_tups
    refine je_stoNew ?_
    kat_tups
    refine cf_listScr ⟨ns, rfl, hl, ?_⟩
    kat_tups
    try exact k

/-! _law_opened -/
theorem bd_mod {n : Nat} {c w : Int} (h0 : 0 < w) (h : Bd n w) : Bd n (c % w) := by
  have h1 := Int.emod_nonneg c (show w ≠ 0 by omega)
  have h2 := Int.emod_lt_of_pos c h0
  exact h.le (by omega)
theorem bd_div {n : Nat} {c w : Int} (h : Bd n c) : Bd n (c / w) := h.le (Int.natAbs_ediv_le_natAbs _ _)
inductive cOpened : List D → (D → Prop) → EK → Prop
  | mk {P : D → Prop} {E : EK} (cells : List Int) (hl : cells.length ≤ 63) (k : P .non) : cOpened [.sto cells] P E
theorem mo_cOpened : ∀ (ds : List D) (P P' : D → Prop) (E E' : EK), (∀ d, P d → P' d) → (∀ v ns es, E v ns es → E' v ns es) → cOpened ds P E → cOpened ds P' E' := by
  intro ds P P' E E' hp he h
  cases h with
  | mk cells hl k => exact .mk cells hl (by first | exact hp _ k | exact k.imp hp | (intros; apply hp; apply k <;> assumption))
abbrev S__law_opened : Scp := { N := ["store", "wide", "cells", "k", "cell"], sc := defScope (top 41), vs := [("store", 0), ("wide", 1), ("cells", 2), ("k", 3), ("cell", 4)], ss := [("store", 0), ("wide", 1), ("cells", 2), ("k", 3), ("cell", 4)], gl := ["int", "len", "range"], lv := 1 }
theorem b__law_opened {U : Env1} (hB : Blt U ["range", "len", "int"])  (G H : Hp) (ds) (P) (E) (h : cOpened ds P E) : JSs S__law_opened (U.cg G H fun _ => E) (defBody (top 41)) (startD S__law_opened.N ds) { nx := fun _ => P .non, rt := P } := by
  obtain ⟨cells, hl, k⟩ := h
  kat_tups
  rename_i at0 a0 a1
  rw [List.length_map]
  refine ⟨⟨by omega, by omega, by omega, by omega⟩, fun i δ' => ∃ sk sc : Sl, δ' = [.fz (.sto cells), .fz (.int _), .fz (.lst (cells.map D.int)), sk, sc], ⟨.no, .no, rfl⟩, ?_, ?_⟩
  · intro i hi
    refine turns_of ?_
    rintro δ' ⟨sk, sc, rfl⟩
    kat_tups
    rename_i r0 _ _
    refine ite_d (fun h1 => ?_) (fun h1 => ?_)
    · kat_tups
      rename_i l0 _
      refine ite_d (fun h2 => ?_) (fun h2 => ?_)
      · kat_tups
        obtain ⟨c, hc⟩ := atI_ints (cells := cells) (k := at0 + i) (by omega) (by omega)
        refine ixd_lst hc ?_
        kat_tups
        refine ⟨spp_at (by omega) (by omega), ?_⟩
        kat_tups
        refine ite_d (fun h3 => ?_) (fun h3 => ?_)
        · kat_tups
          refine ⟨spp_left fun _ => ?_, ?_⟩
          · intro z
            subst z
            simp at hi
            omega
          · kat_tups
            exact ⟨_, _, rfl⟩
        · kat_tups
          refine ⟨spp_restB (Int.emod_nonneg _ (by decide +kernel)) (bd_mod (by decide +kernel) (by unfold Bd; decide +kernel)), ?_⟩
          kat_tups
          exact ⟨_, _, rfl⟩
      · kat_tups
        exact ⟨_, _, rfl⟩
    · kat_tups
      exact ⟨_, _, rfl⟩
  · rintro δ' ⟨sk, sc, rfl⟩
    kat_tups
    try exact k

/-! _law_take -/
inductive cTake : List D → (D → Prop) → EK → Prop
  | mk {P : D → Prop} {E : EK} (cells : List Int) (hl : cells.length ≤ 63) (many : Int) (k : ∀ v : Int, 0 ≤ v → (v < many ∨ v = 0) → P (.int v)) : cTake [.sto cells, .int many] P E
theorem mo_cTake : ∀ (ds : List D) (P P' : D → Prop) (E E' : EK), (∀ d, P d → P' d) → (∀ v ns es, E v ns es → E' v ns es) → cTake ds P E → cTake ds P' E' := by
  intro ds P P' E E' hp he h
  cases h with
  | mk cells hl many k => exact .mk cells hl many (by first | exact hp _ k | exact k.imp hp | (intros; apply hp; apply k <;> assumption))
abbrev S__law_take : Scp := { N := ["store", "many", "value", "number"], sc := defScope (top 42), vs := [("store", 0), ("many", 1), ("value", 2), ("number", 3)], ss := [("store", 0), ("many", 1), ("value", 2), ("number", 3)], gl := ["_law_mixed", "_law_opened", "int"], lv := 2 }
local macro_rules | `(tactic| lsm_bools) => `(tactic| first | refine cOpened.mk _ (by first | assumption | omega | decide) ?_ | refine cMixed.mk _ _ _ (by first | assumption | omega | decide) (fun v hk1 hk2 => ?_))
theorem b__law_take {U : Env1} (hB : Blt U ["int"]) (F__law_opened : U.Def "_law_opened" 2 [] cOpened) (F__law_mixed : U.Def "_law_mixed" 2 [] cMixed) (G H : Hp) (ds) (P) (E) (h : cTake ds P E) : JSs S__law_take (U.cg G H fun _ => E) (defBody (top 42)) (startD S__law_take.N ds) { nx := fun _ => P .non, rt := P } := by
  obtain ⟨cells, hl, many, k⟩ := h
  -- behind the opening
  have rest : ∀ δ, δ = startD S__law_take.N [.sto cells, .int many] → ¬ many < 2 → JSs S__law_take (U.cg G H fun _ => E) ((defBody (top 42)).drop 2) δ { nx := fun _ => P .non, rt := P } := by
    rintro δ rfl hm
    show JSs _ _ (_ :: _ :: _ :: _ :: _ :: []) _ _
    kat_tups
    rename_i r0 _ _
    refine ite_d (fun h1 => ?_) (fun h1 => ?_)
    · kat_tups
      rename_i r1 _ _ r2 g1 g2
      refine ⟨spp_restB (Int.ediv_nonneg g1 (by omega)) (bd_div g2), ?_⟩
      kat_tups
      exact k _ (Int.emod_nonneg _ (by omega)) (.inl (Int.emod_lt_of_pos _ (by omega)))
    · kat_tups
      rename_i s0 l0 hl0
      refine ite_d (fun h2 => ?_) (fun h2 => ?_)
      · kat_tups
        rename_i a0 b1 b2
        have hne := hl0 h2
        have hpos : 0 < cells.length := List.length_pos_iff.mpr hne
        obtain ⟨c, hc⟩ := atI_ints (cells := cells) (k := a0 - 1) (by omega) (by omega)
        refine ixd_lst hc ?_
        kat_tups
        rename_i l1 hl1
        refine ⟨spp_left fun _ => hne, ?_⟩
        kat_tups
        refine ⟨spp_turn, ?_⟩
        kat_tups
        rename_i v w1 w2
        exact k v w1 (.inl w2)
      · kat_tups
        refine ⟨spp_turn, ?_⟩
        kat_tups
        rename_i v w1 w2
        exact k v w1 (.inl w2)
  refine zs_cons ?_
  kat_tups
  refine ite_d (fun h1 => ?_) (fun h1 => ?_)
  · kat_tups
    exact k 0 (by omega) (.inr rfl)
  refine zs_nil ?_
  refine zs_cut fun Q hQ => ?_
  have hq := hQ _ (rest _ rfl h1)
  kat_tups
  refine ite_d (fun h2 => ?_) (fun h2 => ?_)
  · kat_tups
    refine ite_d (fun h3 => ?_) (fun h3 => ?_)
    · kat_tups
      try exact hq
    · kat_tups
      try exact hq
  · kat_tups
    try exact hq

/-! _law_between -/
inductive cBetween : List D → (D → Prop) → EK → Prop
  | mk {P : D → Prop} {E : EK} (cells : List Int) (hl : cells.length ≤ 63) (low high : Int) (k : ∀ v : Int, low ≤ v → (v ≤ high ∨ v = low) → P (.int v)) : cBetween [.sto cells, .int low, .int high] P E
theorem mo_cBetween : ∀ (ds : List D) (P P' : D → Prop) (E E' : EK), (∀ d, P d → P' d) → (∀ v ns es, E v ns es → E' v ns es) → cBetween ds P E → cBetween ds P' E' := by
  intro ds P P' E E' hp he h
  cases h with
  | mk cells hl low high k => exact .mk cells hl low high (by first | exact hp _ k | exact k.imp hp | (intros; apply hp; apply k <;> assumption))
abbrev S__law_between : Scp := { N := ["store", "low", "high", "kind"], sc := defScope (top 43), vs := [("store", 0), ("low", 1), ("high", 2), ("kind", 3)], ss := [("store", 0), ("low", 1), ("high", 2), ("kind", 3)], gl := ["_law_take"], lv := 3 }
local macro_rules | `(tactic| lsm_bools) => `(tactic| first | refine cTake.mk _ (by first | assumption | omega | decide) _ (fun v hk1 hk2 => ?_))
theorem b__law_between {U : Env1} (F__law_take : U.Def "_law_take" 3 [] cTake) (G H : Hp) (ds) (P) (E) (h : cBetween ds P E) : JSs S__law_between (U.cg G H fun _ => E) (defBody (top 43)) (startD S__law_between.N ds) { nx := fun _ => P .non, rt := P } := by
  obtain ⟨cells, hl, low, high, k⟩ := h
  kat_tups
  refine ite_d (fun h1 => ?_) (fun h1 => ?_)
  · kat_tups
    exact k _ (by omega) (.inr rfl)
  kat_tups
  rename_i v w1 w2
  refine ite_d (fun h2 => ?_) (fun h2 => ?_)
  · kat_tups
    exact k _ (by omega) (.inr rfl)
  kat_tups
  refine ite_d (fun h3 => ?_) (fun h3 => ?_)
  · kat_tups
    exact k _ (by omega) (.inl (by omega))
  kat_tups
  rename_i u u1 u2
  exact k _ (by omega) (.inl (by omega))
end
set_option Elab.async false
set_option linter.all false
set_option maxRecDepth 100000
set_option maxHeartbeats 4000000
section
/-! _law_same, of two that are alike -/
def Fl0 : D → Prop
  | .non => True | .bl _ => True | .int _ => True | .str _ => True | _ => False
def Dp : Nat → D → Prop
  | 0, d => Fl0 d
  | k + 1, d => Fl0 d ∨ ∃ ds, (d = .tup ds ∨ d = .lst ds) ∧ ds.length ≤ 100000 ∧ ∀ e ∈ ds, Dp k e
inductive cSame (j : Nat) : List D → (D → Prop) → EK → Prop
  | mk {P : D → Prop} {E : EK} (d : D) (h : Dp j d) (k : P (.bl true)) : cSame j [d, d] P E
abbrev S_same (j : Nat) : Scp := { N := ["actual", "expected", "key", "k"], sc := defScope (top 52), vs := [("actual", 0), ("expected", 1), ("key", 2), ("k", 3)], ss := [("actual", 0), ("expected", 1), ("key", 2), ("k", 3)], gl := ["isinstance", "bool", "int", "str", "dict", "len", "_law_same", "list", "tuple", "range"], lv := j + 1 }
theorem b_same {U : Env1} (hB : Blt U ["isinstance", "bool", "int", "str", "dict", "len", "list", "tuple", "range"]) (j : Nat) (F1 : ∀ i, j = i + 1 → U.Def "_law_same" (i + 2) [] (cSame i)) (G H : Hp) (ds) (P) (E) (h : cSame j ds P E) : JSs (S_same j) (U.cg G H fun _ => E) (defBody (top 52)) (startD (S_same j).N ds) { nx := fun _ => P .non, rt := P } := by
  obtain ⟨d, hd, k⟩ := h
  have hd' : Fl0 d ∨ ∃ i ds, j = i + 1 ∧ (d = .tup ds ∨ d = .lst ds) ∧ ds.length ≤ 100000 ∧ ∀ e ∈ ds, Dp i e := by
    cases j with
    | zero => exact .inl hd
    | succ i =>
      rcases hd with hd | ⟨ds, h1, h2, h3⟩
      · exact .inl hd
      · exact .inr ⟨i, ds, rfl, h1, h2, h3⟩
  rcases hd' with hf | ⟨i, ds, rfl, h1, h2, h3⟩
  · cases d with
    | non => kat_tups; try (first | exact k | simpa using k)
    | bl b => kat_tups; try (first | exact k | simpa using k)
    | int b => kat_tups; try (first | exact k | simpa using k)
    | str b => kat_tups; try (first | exact k | simpa using k)
    | _ => exact hf.elim
  · have F := F1 i rfl
    rcases h1 with rfl | rfl
    · kat_tups
      refine ⟨fun i' δ' => ∃ s1 s2 : Sl, δ' = [.fz (.tup ds), .fz (.tup ds), s1, s2], ⟨_, _, rfl⟩, ?_, ?_⟩
      · intro i' hi
        refine turns_of ?_
        rintro δ' ⟨s1, s2, rfl⟩
        obtain ⟨d, hd1, e⟩ := atI_some (ds := ds) (k := 0 + (i' : Int)) (by omega) (by omega)
        kat_tups
        refine ixd_tup e ?_
        kat_tups
        refine ixd_tup e ?_
        kat_tups
        refine cSame.mk d (h3 d hd1) ?_
        kat_tups
        exact ⟨_, _, rfl⟩
      · rintro δ' ⟨s1, s2, rfl⟩
        kat_tups
        try exact k
    · kat_tups
      refine ⟨fun i' δ' => ∃ s1 s2 : Sl, δ' = [.fz (.lst ds), .fz (.lst ds), s1, s2], ⟨_, _, rfl⟩, ?_, ?_⟩
      · intro i' hi
        refine turns_of ?_
        rintro δ' ⟨s1, s2, rfl⟩
        obtain ⟨d, hd1, e⟩ := atI_some (ds := ds) (k := 0 + (i' : Int)) (by omega) (by omega)
        kat_tups
        refine ixd_lst e ?_
        kat_tups
        refine ixd_lst e ?_
        kat_tups
        refine cSame.mk d (h3 d hd1) ?_
        kat_tups
        exact ⟨_, _, rfl⟩
      · rintro δ' ⟨s1, s2, rfl⟩
        kat_tups
        try exact k
theorem mo_cSame {j : Nat} : ∀ (ds : List D) (P P' : D → Prop) (E E' : EK), (∀ d, P d → P' d) → (∀ v ns es, E v ns es → E' v ns es) → cSame j ds P E → cSame j ds P' E' := by
  intro ds P P' E E' hp he h
  cases h with
  | mk d h k => exact .mk d h (hp _ k)
theorem dp_int {j : Nat} {i : Int} : Dp j (.int i) := by cases j <;> first | exact trivial | exact .inl trivial
theorem dp_str {j : Nat} {i : Str} : Dp j (.str i) := by cases j <;> first | exact trivial | exact .inl trivial
theorem dp_lst {j : Nat} {ds : List D} (hl : ds.length ≤ 100000) (h : ∀ e ∈ ds, Dp j e) : Dp (j + 1) (.lst ds) := .inr ⟨_, .inr rfl, hl, h⟩
theorem dp_tup {j : Nat} {ds : List D} (hl : ds.length ≤ 100000) (h : ∀ e ∈ ds, Dp j e) : Dp (j + 1) (.tup ds) := .inr ⟨_, .inl rfl, hl, h⟩
theorem dp_lmap {j : Nat} {α : Type} {xs : List α} {f : α → D} (hl : xs.length ≤ 100000) (h : ∀ e ∈ xs, Dp j (f e)) : Dp (j + 1) (.lst (xs.map f)) := dp_lst (by simpa using hl) (fun e he => by
  obtain ⟨x, hx, rfl⟩ := List.mem_map.mp he
  exact h x hx)
theorem dp_all_nil {j : Nat} : ∀ e ∈ ([] : List D), Dp j e := by simp
theorem dp_all_cons {j : Nat} {d : D} {ds : List D} (h : Dp j d) (h2 : ∀ e ∈ ds, Dp j e) : ∀ e ∈ d :: ds, Dp j e := by
  intro e he
  rcases List.mem_cons.mp he with rfl | he
  · exact h
  · exact h2 e he
end
set_option Elab.async false
set_option linter.all false
set_option maxRecDepth 100000
set_option maxHeartbeats 4000000
section
/-! rows: plain facts -/
abbrev rowL (r : List Int) : D := .lst (r.map .int)
abbrev rowD (r : List Int) : D := .tup (r.map .int)
abbrev Asc (l : List Int) : Prop := l.Pairwise (· < ·)
/-- the goods that are reached behind a row -/
def nx : List Int → List Int
  | [] => []
  | [a] => [a, a + 1]
  | a :: b :: r => if b = a + 1 then a :: nx (b :: r) else a :: (a + 1) :: nx (b :: r)
theorem nx_head (b : Int) : ∀ r, ∃ t, nx (b :: r) = b :: t
  | [] => ⟨_, rfl⟩
  | c :: r => by
    unfold nx
    split
    · exact ⟨_, rfl⟩
    · exact ⟨_, rfl⟩
theorem nx_mem : ∀ (l : List Int) (b : Int), b ∈ nx l ↔ b ∈ l ∨ b - 1 ∈ l
  | [], b => by simp [nx]
  | [a], b => by
    simp [nx]
    omega
  | a :: c :: r, b => by
    have ih := nx_mem (c :: r) b
    unfold nx
    split
    · rename_i h
      rw [List.mem_cons, ih]
      simp only [List.mem_cons]
      constructor
      · rintro (h1 | (h1 | h1) | h1 | h1)
        · exact .inl (.inl h1)
        · exact .inl (.inr (.inl h1))
        · exact .inl (.inr (.inr h1))
        · exact .inr (.inr (.inl h1))
        · exact .inr (.inr (.inr h1))
      · rintro ((h1 | h1 | h1) | (h1 | h1 | h1))
        · exact .inl h1
        · exact .inr (.inl (.inl h1))
        · exact .inr (.inl (.inr h1))
        · exact .inr (.inl (.inl (by omega)))
        · exact .inr (.inr (.inl h1))
        · exact .inr (.inr (.inr h1))
    · rw [List.mem_cons, List.mem_cons, ih]
      simp only [List.mem_cons]
      constructor
      · rintro (h1 | h1 | (h1 | h1) | h1 | h1)
        · exact .inl (.inl h1)
        · exact .inr (.inl (by omega))
        · exact .inl (.inr (.inl h1))
        · exact .inl (.inr (.inr h1))
        · exact .inr (.inr (.inl h1))
        · exact .inr (.inr (.inr h1))
      · rintro ((h1 | h1 | h1) | (h1 | h1 | h1))
        · exact .inl h1
        · exact .inr (.inr (.inl (.inl h1)))
        · exact .inr (.inr (.inl (.inr h1)))
        · exact .inr (.inl (by omega))
        · exact .inr (.inr (.inr (.inl h1)))
        · exact .inr (.inr (.inr (.inr h1)))
theorem nx_asc : ∀ {l : List Int}, Asc l → Asc (nx l)
  | [], _ => .nil
  | [a], _ => by simp [nx, Asc]; omega
  | a :: c :: r, h => by
    have h1 := List.pairwise_cons.mp h
    have ih := nx_asc h1.2
    have hac : a < c := h1.1 c (.head _)
    have hlow : ∀ x ∈ nx (c :: r), c ≤ x := by
      intro x hx
      rcases (nx_mem _ _).mp hx with q | q
      · rcases List.mem_cons.mp q with q | q
        · omega
        · have := (List.pairwise_cons.mp h1.2).1 x q; omega
      · rcases List.mem_cons.mp q with q | q
        · omega
        · have := (List.pairwise_cons.mp h1.2).1 _ q; omega
    unfold nx
    split
    · exact List.pairwise_cons.mpr ⟨fun x hx => by have := hlow x hx; omega, ih⟩
    · refine List.pairwise_cons.mpr ⟨fun x hx => ?_, List.pairwise_cons.mpr ⟨fun x hx => by have := hlow x hx; omega, ih⟩⟩
      rcases List.mem_cons.mp hx with q | q
      · omega
      · have := hlow x q; omega
theorem nx_ne : ∀ {l : List Int}, l ≠ [] → nx l ≠ []
  | [], h => h
  | a :: r, _ => by
    obtain ⟨t, e⟩ := nx_head a r
    rw [e]
    simp
theorem asc_ext : ∀ {l m : List Int}, Asc l → Asc m → (∀ x, x ∈ l ↔ x ∈ m) → l = m
  | [], [], _, _, _ => rfl
  | [], b :: m, _, _, h => absurd ((h b).mpr (.head _)) (by simp)
  | a :: l, [], _, _, h => absurd ((h a).mp (.head _)) (by simp)
  | a :: l, b :: m, ha, hb, h => by
    have h1 := List.pairwise_cons.mp ha
    have h2 := List.pairwise_cons.mp hb
    have e : a = b := by
      rcases List.mem_cons.mp ((h a).mp (.head _)) with q | q
      · exact q
      · rcases List.mem_cons.mp ((h b).mpr (.head _)) with q' | q'
        · exact q'.symm
        · have := h1.1 b q'; have := h2.1 a q; omega
    subst e
    rw [asc_ext h1.2 h2.2 fun x => ?_]
    constructor
    · intro hx
      rcases List.mem_cons.mp ((h x).mp (.tail _ hx)) with q | q
      · subst q; have := h1.1 x hx; omega
      · exact q
    · intro hx
      rcases List.mem_cons.mp ((h x).mpr (.tail _ hx)) with q | q
      · subst q; have := h2.1 x hx; omega
      · exact q
/-! the two ways in which the goods are found -/
def stepG (out : List Int) (a : Int) : List Int := (if out.getLast? = some a then out else out ++ [a]) ++ [a + 1]
theorem foldG : ∀ (r pre : List Int) (a : Int), r.foldl stepG (pre ++ [a, a + 1]) = pre ++ nx (a :: r)
  | [], pre, a => rfl
  | b :: r, pre, a => by
    rw [List.foldl_cons]
    unfold nx
    by_cases h : b = a + 1
    · subst h
      have e : stepG (pre ++ [a, a + 1]) (a + 1) = (pre ++ [a]) ++ [a + 1, a + 1 + 1] := by
        unfold stepG
        simp
      rw [e, foldG r (pre ++ [a]) (a + 1), if_pos rfl]
      simp
    · have e : stepG (pre ++ [a, a + 1]) b = (pre ++ [a, a + 1]) ++ [b, b + 1] := by
        unfold stepG
        rw [if_neg (by simp; exact fun z => h z.symm)]
        simp
      rw [e, foldG r (pre ++ [a, a + 1]) b, if_neg h]
      simp
theorem foldG0 : ∀ (r : List Int), r.foldl stepG [] = nx r
  | [] => rfl
  | a :: r => foldG r [] a
def putN (out : List Int) (g : Int) : List Int := if g ∈ out then out else out ++ [g]
def stepN (out : List Int) (a : Int) : List Int := putN (putN out a) (a + 1)
theorem foldN : ∀ (r pre : List Int) (a : Int), (∀ x ∈ pre, x < a) → Asc (a :: r) → r.foldl stepN (pre ++ [a, a + 1]) = pre ++ nx (a :: r)
  | [], pre, a, _, _ => rfl
  | b :: r, pre, a, hp, ha => by
    have h1 := List.pairwise_cons.mp ha
    have hab : a < b := h1.1 b (.head _)
    rw [List.foldl_cons]
    unfold nx
    by_cases h : b = a + 1
    · subst h
      have e : stepN (pre ++ [a, a + 1]) (a + 1) = (pre ++ [a]) ++ [a + 1, a + 1 + 1] := by
        unfold stepN putN
        rw [if_pos (by simp : a + 1 ∈ pre ++ [a, a + 1]), if_neg]
        · simp
        · simp only [List.mem_append, List.mem_cons, List.not_mem_nil, or_false, not_or]
          exact ⟨fun z => by have := hp _ z; omega, by omega, by omega⟩
      rw [e, foldN r (pre ++ [a]) (a + 1) (fun x hx => ?_) h1.2, if_pos rfl]
      · simp
      · rcases List.mem_append.mp hx with q | q
        · have := hp x q; omega
        · simp at q; omega
    · have e : stepN (pre ++ [a, a + 1]) b = (pre ++ [a, a + 1]) ++ [b, b + 1] := by
        have n1 : b ∉ pre ++ [a, a + 1] := by
          simp only [List.mem_append, List.mem_cons, List.not_mem_nil, or_false, not_or]
          exact ⟨fun z => by have := hp _ z; omega, by omega, by omega⟩
        have n2 : b + 1 ∉ pre ++ [a, a + 1] ++ [b] := by
          simp only [List.mem_append, List.mem_cons, List.not_mem_nil, or_false, not_or]
          exact ⟨⟨fun z => by have := hp _ z; omega, by omega, by omega⟩, by omega⟩
        unfold stepN putN
        rw [if_neg n1, if_neg n2]
        simp
      rw [e, foldN r (pre ++ [a, a + 1]) b (fun x hx => ?_) h1.2, if_neg h]
      · simp
      · rcases List.mem_append.mp hx with q | q
        · have := hp x q; omega
        · simp at q; omega
theorem foldN0 : ∀ {r : List Int}, Asc r → r.foldl stepN [] = nx r
  | [], _ => rfl
  | a :: r, h => by
    have e : stepN [] a = [] ++ [a, a + 1] := by
      unfold stepN putN
      rw [if_neg (by simp : a ∉ []), if_neg (by simp only [List.nil_append, List.mem_singleton]; omega)]
      simp
    rw [List.foldl_cons, e]
    exact foldN r [] a (by simp) h
theorem stepN_len (out : List Int) (a : Int) : (stepN out a).length ≤ out.length + 2 := by
  unfold stepN putN
  split <;> split <;> simp <;> omega
theorem stepG_len (out : List Int) (a : Int) : (stepG out a).length ≤ out.length + 2 := by
  unfold stepG
  split <;> simp
/-! plans -/
/-- a row that may follow these reached goods -/
def RowOk (row goods : List Int) : Prop := row ≠ [] ∧ Asc row ∧ ∀ a ∈ row, a ∈ goods
instance {r g : List Int} : Decidable (RowOk r g) := inferInstanceAs (Decidable (_ ∧ _ ∧ _))
/-- rows that may follow these goods -/
def Pl : List Int → List (List Int) → Prop
  | _, [] => True
  | g, r :: rs => RowOk r g ∧ Pl (nx r) rs
/-- a plan's rows -/
def PlanOk (rows : List (List Int)) : Prop := rows.length ≤ 12 ∧ Pl [0] rows
/-- goods of places of the length k -/
def Gd (k : Nat) (g : List Int) : Prop := g ≠ [] ∧ Asc g ∧ ∀ a ∈ g, 0 ≤ a ∧ a ≤ k
theorem gd0 : Gd 0 [0] := ⟨by simp, by simp [Asc], by simp⟩
theorem RowOk.gd {k : Nat} {r g : List Int} (h : RowOk r g) (hg : Gd k g) : Gd k r := ⟨h.1, h.2.1, fun a ha => hg.2.2 a (h.2.2 a ha)⟩
theorem Gd.nx {k : Nat} {r : List Int} (h : Gd k r) : Gd (k + 1) (nx r) := ⟨nx_ne h.1, nx_asc h.2.1, fun a ha => by
  rcases (nx_mem _ _).mp ha with q | q
  · have := h.2.2 _ q; omega
  · have := h.2.2 _ q; omega⟩
theorem asc_len : ∀ {l : List Int} {lo : Int} {n : Nat}, Asc l → (∀ a ∈ l, lo ≤ a ∧ a < lo + n) → l.length ≤ n
  | [], _, _, _, _ => Nat.zero_le _
  | a :: l, lo, n, h, hb => by
    have h1 := List.pairwise_cons.mp h
    have b0 := hb a (.head _)
    cases n with
    | zero => omega
    | succ n =>
      have := asc_len (l := l) (lo := lo + 1) (n := n) h1.2 fun x hx => by
        have h2 := hb x (.tail _ hx)
        have h3 := h1.1 x hx
        omega
      simp; omega
theorem Gd.len {k : Nat} {r : List Int} (h : Gd k r) : r.length ≤ k + 1 := asc_len (lo := 0) h.2.1 fun a ha => by have := h.2.2 a ha; omega
theorem Pl.get : ∀ {rows : List (List Int)} {k : Nat} {g : List Int} {n : Nat} {r : List Int}, Pl g rows → Gd k g → rows[n]? = some r → Gd (k + n) r
  | [], _, _, _, _, _, _, e => by simp at e
  | r0 :: rs, k, g, 0, r, h, hg, e => by
    simp at e
    subst e
    exact h.1.gd hg
  | r0 :: rs, k, g, n + 1, r, h, hg, e => by
    have := Pl.get (n := n) (r := r) h.2 (h.1.gd hg).nx (by simpa using e)
    rwa [show k + 1 + n = k + (n + 1) by omega] at this
theorem Pl.mem {rows : List (List Int)} {r : List Int} (h : PlanOk rows) (hr : r ∈ rows) : Gd 11 r := by
  obtain ⟨n, hn, e⟩ := List.mem_iff_getElem.mp hr
  have := h.2.get gd0 (n := n) (r := r) (by rw [List.getElem?_eq_getElem hn, e])
  have hl := h.1
  exact ⟨this.1, this.2.1, fun a ha => by have := this.2.2 a ha; omega⟩
theorem pl_append : ∀ {rows : List (List Int)} {g r : List Int}, Pl g rows → RowOk r (((rows.map nx).getLast?).getD g) → Pl g (rows ++ [r])
  | [], g, r, _, h => ⟨h, trivial⟩
  | r0 :: rs, g, r, hp, h => by
    refine ⟨hp.1, pl_append hp.2 ?_⟩
    rw [List.map_cons, List.getLast?_cons] at h
    simpa using h
/-- the rows of the reached goods -/
def metR (rows : List (List Int)) : List (List Int) := [0] :: rows.map nx
abbrev plD (CP : Addr) (rows : List (List Int)) : D := .obj CP ["go_rows", "met_rows"] [.tup (rows.map rowD), .tup ((metR rows).map rowD)]
def gapsOf (n : Int) (row : List Int) : List (Int × Int × Int) := (row.zip row.tail).filterMap fun p => if p.1 + 2 ≤ p.2 then some (n, p.1, p.2) else none
abbrev gapD (g : Int × Int × Int) : D := .tup [.int g.1, .int g.2.1, .int g.2.2]
def gapsR (rows : List (List Int)) : List (Int × Int × Int) := rows.zipIdx.flatMap fun x => gapsOf x.2 x.1
def meetR : List Int → List (List Int) → List (List Int) → List (List Int)
  | g, r1 :: o, r2 :: t => if (r1.filter fun a => decide (a ∈ r2) && decide (a ∈ g)) = [] then [] else (r1.filter fun a => decide (a ∈ r2) && decide (a ∈ g)) :: meetR (nx (r1.filter fun a => decide (a ∈ r2) && decide (a ∈ g))) o t
  | _, _, _ => []
/-- the good of a place stands in its row -/
def inR (rows : List (List Int)) (a b : Int) : Bool := decide (a ∈ (rows[(a + b).toNat]?).getD [])
def goP (rows : List (List Int)) : List (Int × Int) := rows.zipIdx.flatMap fun x => x.1.map fun a => (a, x.2 - a)
abbrev plcD (p : Int × Int) : D := .tup [.int p.1, .int p.2]
theorem pairwise_of_next : ∀ {l : List Int}, (∀ i (h : i + 1 < l.length), l[i] < l[i + 1]) → Asc l
  | [], _ => .nil
  | [a], _ => by simp [Asc]
  | a :: b :: r, h => by
    have ih := pairwise_of_next (l := b :: r) fun i hi => h (i + 1) (by simp at hi ⊢; omega)
    have hab : a < b := h 0 (by simp)
    refine List.pairwise_cons.mpr ⟨fun x hx => ?_, ih⟩
    rcases List.mem_cons.mp hx with q | q
    · omega
    · have := (List.pairwise_cons.mp ih).1 x q; omega
theorem fm_if {α β : Type} {p : α → Prop} [DecidablePred p] {f : α → β} : ∀ {l : List α}, l.filterMap (fun a => if p a then some (f a) else none) = (l.filter fun a => decide (p a)).map f
  | [] => rfl
  | a :: l => by
    rw [List.filterMap_cons, List.filter_cons]
    by_cases h : p a
    · simp [h, fm_if (l := l)]
    · simp [h, fm_if (l := l)]
end
set_option Elab.async false
set_option linter.all false
set_option maxRecDepth 100000
set_option maxHeartbeats 4000000
section
/-! the class Plan: what the top has of it -/
structure PlanC (U : Env1) (C : Addr) : Prop where
  cl : Cls U.K C
  mg : U.mg "Plan" = some (.ref C)
  n1 : NoAttr U.K C "go_rows"
  n2 : NoAttr U.K C "met_rows"
  ins : C8.InsC U.K C
  ne : PySem.W.findIn U.K (.ref C) "__ne__" = some (some (.builtin "object.__ne__"))
  ob : PySem.W.subIn U.K (.ref C) (.type "object") = some true
  sf : PySem.W.selfFirst U.K C = true
  ml : ∃ t, U.mg "MOST_LOOKS" = some (.int 12 t)
  ty : PySem.W.typeIn U.K (.ref C) = some (.type "type")
/-! next_goods -/
inductive cNextG : List D → (D → Prop) → EK → Prop
  | mk {P : D → Prop} {E : EK} (row : List Int) (hl : row.length ≤ 1000) (k : P (rowD (nx row))) : cNextG [rowL row] P E
theorem mo_cNextG : ∀ (ds : List D) (P P' : D → Prop) (E E' : EK), (∀ d, P d → P' d) → (∀ v ns es, E v ns es → E' v ns es) → cNextG ds P E → cNextG ds P' E' := by
  intro ds P P' E E' hp he h
  cases h with
  | mk row hl k => exact .mk row hl (by first | exact hp _ k | exact k.imp hp | (intros; apply hp; apply k <;> assumption))
abbrev S_next_goods : Scp := { N := ["row", "out", "a"], sc := defScope (top 24), vs := [("row", 0), ("out", 1), ("a", 2)], ss := [("row", 0), ("out", 1), ("a", 2)], gl := ["tuple"], lv := 1 }
theorem b_next_goods {U : Env1} (hB : Blt U ["tuple"])  (G H : Hp) (ds) (P) (E) (h : cNextG ds P E) : JSs S_next_goods (U.cg G H fun _ => E) (defBody (top 24)) (startD S_next_goods.N ds) { nx := fun _ => P .non, rt := P } := by
  obtain ⟨row, hl, k⟩ := h
  kat_tups
  refine each (fun rest δ' => ∃ (out : List Int) (s : Sl), rest.foldl stepG out = nx row ∧ out.length + 2 * rest.length ≤ 2000 ∧ δ' = [.fz (rowL row), .ow (out.map .int), s]) src_map ⟨[], _, foldG0 row, by simp; omega, rfl⟩ ?_ ?_
  · rintro a rest δ' _ ⟨out, s, hf, hb, rfl⟩
    have hs : 5000 < sizeLine := by decide
    simp only [List.length_cons] at hb
    rw [List.foldl_cons] at hf
    have hb2 := stepG_len out a
    kat_tups
    rw [List.isEmpty_map]
    cases he : out.getLast? with
    | none =>
      rw [List.getLast?_eq_none_iff] at he
      subst he
      kat_tups
      refine ⟨by simp; omega, ?_⟩
      kat_tups
      refine ⟨by simp; omega, ?_⟩
      kat_tups
      exact ⟨stepG [] a, .fz (.int a), hf, by omega, rfl⟩
    | some b =>
      have hne : out ≠ [] := fun z => by subst z; cases he
      have hemp : out.isEmpty = false := by cases out <;> simp_all
      rw [hemp]
      kat_tups
      have hat : L2.atI (out.map D.int) (-1) = some (.int b) := by
        have hlen : 0 < out.length := List.length_pos_iff.mpr hne
        unfold L2.atI ixN
        rw [if_neg (by decide), if_pos (by rw [List.length_map]; omega)]
        rw [List.getLast?_eq_getElem?] at he
        simp only [List.length_map, Option.bind_some, List.getElem?_map]
        rw [show (-1 + (out.length : Int)).toNat = out.length - 1 by omega, he]
        rfl
      refine ⟨-1, .int b, rfl, hat, ?_⟩
      kat_tups
      refine ite_nd (fun hab => ?_) (fun hab => ?_)
      · kat_tups
        refine ⟨by simp; omega, ?_⟩
        kat_tups
        refine ⟨by simp; omega, ?_⟩
        kat_tups
        refine ⟨stepG out a, .fz (.int a), hf, by omega, ?_⟩
        unfold stepG
        rw [he, if_neg (fun z => hab (Option.some.inj z))]
        simp
      · kat_tups
        refine ⟨by simp; omega, ?_⟩
        kat_tups
        refine ⟨stepG out a, .fz (.int a), hf, by omega, ?_⟩
        unfold stepG
        rw [he, if_pos (congrArg some hab)]
        simp
  · rintro δ' ⟨out, s, hf, hb, rfl⟩
    have e : out = nx row := hf
    subst e
    kat_tups
    try exact k
/-! good_row -/
inductive cGoodRow : List D → (D → Prop) → EK → Prop
  | mk {P : D → Prop} {E : EK} (row goods : List Int) (k : P (.bl (decide (RowOk row goods)))) : cGoodRow [rowL row, rowD goods] P E
theorem mo_cGoodRow : ∀ (ds : List D) (P P' : D → Prop) (E E' : EK), (∀ d, P d → P' d) → (∀ v ns es, E v ns es → E' v ns es) → cGoodRow ds P E → cGoodRow ds P' E' := by
  intro ds P P' E E' hp he h
  cases h with
  | mk row goods k => exact .mk row goods (by first | exact hp _ k | exact k.imp hp | (intros; apply hp; apply k <;> assumption))
theorem atI_map {is : List Int} {i : Nat} (h : i < is.length) : L2.atI (is.map D.int) (i : Int) = some (.int is[i]) := by
  unfold L2.atI ixN
  rw [if_pos (by omega), if_pos (by rw [List.length_map]; omega)]
  simp [h]
theorem atI_mapG {α : Type} {g : α → D} {is : List α} {i : Int} (h0 : 0 ≤ i) (h : i < is.length) : L2.atI (is.map g) i = some (g (is[i.toNat]'(by omega))) := by
  have hl : i.toNat < is.length := by omega
  unfold L2.atI ixN
  rw [if_pos h0, if_pos (by rw [List.length_map]; omega)]
  simp [hl]
abbrev S_good_row : Scp := { N := ["row", "goods", "k", "a"], sc := defScope (top 25), vs := [("row", 0), ("goods", 1), ("k", 2), ("a", 3)], ss := [("row", 0), ("goods", 1), ("k", 2), ("a", 3)], gl := ["enumerate"], lv := 1 }
theorem b_good_row {U : Env1} (hB : Blt U ["enumerate"])  (G H : Hp) (ds) (P) (E) (h : cGoodRow ds P E) : JSs S_good_row (U.cg G H fun _ => E) (defBody (top 25)) (startD S_good_row.N ds) { nx := fun _ => P .non, rt := P } := by
  obtain ⟨row, goods, k⟩ := h
  kat_tups
  simp only [tru, List.isEmpty_map]
  cases hr : row.isEmpty with
  | true =>
    have he : row = [] := by simpa using hr
    subst he
    have : decide (RowOk [] goods) = false := by simp [RowOk]
    rw [this] at k
    kat_tups
    try exact k
  | false =>
    have hne : row ≠ [] := fun z => by subst z; cases hr
    kat_tups
    refine eachD (fun d rest δ' => ∃ s t : Sl, δ' = [.fz (rowL row), .fz (rowD goods), s, t] ∧ (∀ x ∈ d, x.1 ∈ goods) ∧ ∀ i : Nat, i + 1 < d.length → ∀ (h : i + 1 < row.length), row[i] < row[i + 1]) src_enum ⟨_, _, rfl, by simp, by simp⟩ ?_ ?_
    · rintro d ⟨a, i⟩ rest δ' hx ⟨s, t, rfl, hg, ha⟩
      have hd : d.length = i ∧ row[i]? = some a := by
        have e1 : (row.zipIdx)[d.length]? = some (a, i) := by rw [hx]; simp
        rw [List.getElem?_zipIdx] at e1
        cases q : row[d.length]? with
        | none => rw [q] at e1; cases e1
        | some z =>
          rw [q] at e1
          simp at e1
          obtain ⟨rfl, rfl⟩ := e1
          exact ⟨rfl, q⟩
      obtain ⟨hdl, hai⟩ := hd
      have hi : i < row.length := (List.getElem?_eq_some_iff.mp hai).1
      have hai' : row[i] = a := (List.getElem?_eq_some_iff.mp hai).2
      have ham : a ∈ row := List.mem_of_getElem? hai
      kat_tups
      refine ite_nd (fun h1 => ?_) (fun h1 => ?_)
      · kat_tups
        have : decide (RowOk row goods) = false := by
          simp only [decide_eq_false_iff_not]
          exact fun z => h1 (z.2.2 a ham)
        rw [this] at k
        exact k
      have hg2 : ∀ x ∈ d ++ [(a, i)], x.1 ∈ goods := by
        intro x hx
        rcases List.mem_append.mp hx with q | q
        · exact hg x q
        · simp at q; subst q; exact h1
      kat_tups
      refine ite_d (fun h2 => ?_) (fun h2 => ?_)
      · kat_tups
        have hm : i - 1 < row.length := by omega
        have e3 := atI_map hm
        rw [show ((i - 1 : Nat) : Int) = (i : Int) - 1 by omega] at e3
        refine ixd_lst e3 ?_
        kat_tups
        refine ite_d (fun h3 => ?_) (fun h3 => ?_)
        · kat_tups
          have : decide (RowOk row goods) = false := by
            simp only [decide_eq_false_iff_not]
            intro z
            have := List.pairwise_iff_getElem.mp z.2.1 (i - 1) i hm hi (by omega)
            omega
          rw [this] at k
          exact k
        · kat_tups
          refine ⟨_, _, rfl, hg2, fun j hj hjr => ?_⟩
          by_cases e : j + 1 < d.length
          · exact ha j e hjr
          · simp at hj
            have : j + 1 = i := by omega
            subst this
            have : row[j + 1 - 1] = row[j] := by congr 1
            omega
      · kat_tups
        refine ⟨_, _, rfl, hg2, fun j hj hjr => ?_⟩
        simp at hj
        omega
    · rintro δ' ⟨s, t, rfl, hg, ha⟩
      kat_tups
      have : decide (RowOk row goods) = true := by
        simp only [decide_eq_true_eq]
        refine ⟨hne, ?_, fun a ham => ?_⟩
        · refine pairwise_of_next fun i hi => ha i (by simpa using hi) hi
        · obtain ⟨n, hn, e⟩ := List.mem_iff_getElem.mp ham
          exact hg (a, n) (List.mk_mem_zipIdx_iff_getElem?.mpr (by rw [List.getElem?_eq_getElem hn, e]))
      rw [this] at k
      exact k
/-! row_gaps, row_at -/
inductive cRowGaps : List D → (D → Prop) → EK → Prop
  | mk {P : D → Prop} {E : EK} (n : Int) (row : List Int) (h0 : row ≠ []) (hl : row.length ≤ 1000) (k : P (.lst ((gapsOf n row).map gapD))) : cRowGaps [.int n, rowD row] P E
theorem mo_cRowGaps : ∀ (ds : List D) (P P' : D → Prop) (E E' : EK), (∀ d, P d → P' d) → (∀ v ns es, E v ns es → E' v ns es) → cRowGaps ds P E → cRowGaps ds P' E' := by
  intro ds P P' E E' hp he h
  cases h with
  | mk n row h0 hl k => exact .mk n row h0 hl (by first | exact hp _ k | exact k.imp hp | (intros; apply hp; apply k <;> assumption))
abbrev S_row_gaps : Scp := { N := ["n", "row", "i", "j"], sc := defScope (top 27), vs := [("n", 0), ("row", 1)], ss := [("n", 0), ("row", 1)], gl := ["zip"], lv := 1 }
local macro_rules | `(tactic| k_offL) => `(tactic| ((with_reducible show JE _ _ (Expr.ListComp _ _ _ _) _ _); first | refine jf_je (jf_lc (S' := { N := S_row_gaps.N, sc := relS _ S_row_gaps.sc, vs := [("i", 2), ("j", 3), ("n", 0)], ss := [("i", 2), ("j", 3)], gl := [], lv := 1 }) (own := [("i", 2), ("j", 3)]) (ok_B (by decide +kernel) (by decide +kernel) rfl rfl rfl (by decide +kernel)) ?_)))
theorem b_row_gaps {U : Env1} (hB : Blt U ["zip"])  (G H : Hp) (ds) (P) (E) (h : cRowGaps ds P E) : JSs S_row_gaps (U.cg G H fun _ => E) (defBody (top 27)) (startD S_row_gaps.N ds) { nx := fun _ => P .non, rt := P } := by
  obtain ⟨n, row, h0, hl, k⟩ := h
  kat_tups
  refine cutA_tup ?_ ?_
  · rintro ⟨q, _⟩
    have : 0 < row.length := List.length_pos_iff.mpr h0
    rw [show HT.sIx row.length 0 (some 1) = min 1 row.length from HT.sIx_nat _ _ 1] at q
    omega
  rw [cutL_tail]
  kat_tups
  refine lcF (fun p : Int × Int => if p.1 + 2 ≤ p.2 then some (gapD (n, p.1, p.2)) else none) src_zip (by rw [List.length_zip]; omega) ?_ ?_
  · rintro ⟨i, j⟩ _
    kat_tups
    by_cases hg : i + 2 ≤ j
    · rw [decide_eq_true hg]
      kat_tups
      exact if_pos hg
    · rw [decide_eq_false hg]
      kat_tups
      exact if_neg hg
  · have e : (row.zip row.tail).filterMap (fun p : Int × Int => if p.1 + 2 ≤ p.2 then some (gapD (n, p.1, p.2)) else none) = (gapsOf n row).map gapD := by
      unfold gapsOf
      rw [List.map_filterMap]
      congr 1
      funext p
      split <;> rfl
    rw [e]
    exact k
inductive cRowAt : List D → (D → Prop) → EK → Prop
  | mk {P : D → Prop} {E : EK} (rows : List (List Int)) (n : Int) (h0 : 0 ≤ n) (k : P (rowD ((rows[n.toNat]?).getD []))) : cRowAt [.tup (rows.map rowD), .int n] P E
/-! meet_rows -/
inductive cMeet : List D → (D → Prop) → EK → Prop
  | mk {P : D → Prop} {E : EK} (one two : List (List Int)) (hl : one.length ≤ 1000) (hm : ∀ r ∈ one, r.length ≤ 500) (k : P (.lst ((meetR [0] one two).map rowL))) : cMeet [.tup (one.map rowD), .tup (two.map rowD)] P E
def mrow (g r1 r2 : List Int) : List Int := r1.filter fun a => decide (a ∈ r2) && decide (a ∈ g)
end
set_option Elab.async false
set_option linter.all false
set_option maxRecDepth 100000
set_option maxHeartbeats 4000000
section
/-! the class Plan -/
theorem Pl.rowOk : ∀ {g : List Int} {d : List (List Int)} {r : List Int} {rest : List (List Int)}, Pl g (d ++ r :: rest) → RowOk r (((g :: d.map nx).getLast?).getD [])
  | g, [], r, rest, h => h.1
  | g, r0 :: d, r, rest, h => by
    have := Pl.rowOk (d := d) h.2
    rw [List.map_cons, List.getLast?_cons_cons]
    exact this
theorem zipIdx_split {α : Type} {xs : List α} {d rest : List (α × Nat)} {r : α} {i : Nat} (h : xs.zipIdx = d ++ (r, i) :: rest) : i = d.length ∧ xs = d.map (·.1) ++ r :: rest.map (·.1) := by
  have e1 : xs.zipIdx.map (·.1) = d.map (·.1) ++ r :: rest.map (·.1) := by rw [h]; simp
  have e2 : xs.zipIdx.map (·.1) = xs := by simp
  refine ⟨?_, e2.symm.trans e1⟩
  have e3 : (xs.zipIdx)[d.length]? = some (r, i) := by rw [h]; simp
  rw [List.getElem?_zipIdx] at e3
  cases q : xs[d.length]? with
  | none => rw [q] at e3; cases e3
  | some z =>
    rw [q] at e3
    simp at e3
    exact e3.2.symm
theorem metR_snoc (d : List (List Int)) (r : List Int) : metR (d ++ [r]) = metR d ++ [nx r] := by simp [metR]
inductive cPlan : List D → (List Str → List D → Prop) → EK → Prop
  | mk {P : List Str → List D → Prop} {E : EK} (rows : List (List Int)) (hr : PlanOk rows) (k : P ["go_rows", "met_rows"] [.tup (rows.map rowD), .tup ((metR rows).map rowD)]) : cPlan [.lst (rows.map rowL)] P E
theorem mo_cPlan : ∀ (ds : List D) (P P' : List Str → List D → Prop) (E E' : EK), (∀ ns d, P ns d → P' ns d) → (∀ v ns es, E v ns es → E' v ns es) → cPlan ds P E → cPlan ds P' E' := by
  intro ds P P' E E' hp he h
  cases h with
  | mk rows hr k => exact .mk rows hr (by first | exact hp _ _ k | (intros; apply hp; apply k <;> assumption))
abbrev S_Plan___init__ : Scp := { N := ["self", "rows", "met", "n", "row"], sc := defScope (mtop 31 0), vs := [("self", 0), ("rows", 1), ("met", 2), ("n", 3), ("row", 4)], ss := [("self", 0), ("rows", 1), ("met", 2), ("n", 3), ("row", 4)], gl := ["BadPlan", "MOST_LOOKS", "TooLong", "enumerate", "good_row", "len", "next_goods", "tuple"], lv := 2 }
local macro_rules | `(tactic| lsm_bools) => `(tactic| first | refine cGoodRow.mk _ _ ?_ | refine cNextG.mk _ (by first | assumption | omega | decide) ?_)
local macro_rules | `(tactic| k_offL) => `(tactic| ((with_reducible show JE _ _ (Expr.ListComp _ _ _ _) _ _); first | refine jf_je (jf_lc (S' := { N := S_Plan___init__.N, sc := relS _ S_Plan___init__.sc, vs := [("row", 4)], ss := [("row", 4)], gl := ["tuple"], lv := 2 }) (own := [("row", 4)]) (ok_B (by decide +kernel) (by decide +kernel) rfl rfl rfl (by decide +kernel)) ?_)))
theorem b_Plan___init__ {U : Env1} {CP : Addr} (hC : PlanC U CP) (hB : Blt U ["len", "enumerate", "tuple"]) (F_good_row : U.Def "good_row" 2 [] cGoodRow) (F_next_goods : U.Def "next_goods" 2 [] cNextG) (G H : Hp) (p : Addr) (ds) (P) (E) (h : cPlan ds P E) : JSs S_Plan___init__ (U.cg G H fun _ => E) (defBody (mtop 31 0)) (startI CP p S_Plan___init__.N ds) { nx := fun δ' => ∃ ns es r, δ' = .ob CP p ns es :: r ∧ P ns es, rt := fun _ => False } := by
  obtain ⟨hcl, hcm, hn1, hn2, hins, hne, hob, hsf, hml, hcy⟩ := hC
  obtain ⟨rows, hr, k⟩ := h
  have hl := hr.1
  have hs : 5000 < sizeLine := by decide
  kat_tups
  rw [List.length_map]
  kat_tups
  refine eachD (fun d rest δ' => ∃ s t : Sl, δ' = [.ob CP p [] [], .fz (.lst (rows.map rowL)), .ow ((metR (d.map (·.1))).map rowD), s, t] ∧ isOb s = false ∧ isOb t = false) src_enum ⟨_, _, rfl, rfl, rfl⟩ ?_ ?_
  · rintro d ⟨r, i⟩ rest δ' hx ⟨s, t, rfl, hs1, ht1⟩
    obtain ⟨rfl, e⟩ := zipIdx_split hx
    have ro := Pl.rowOk (by rw [← e]; exact hr.2)
    have hd : d.length < rows.length := by rw [e]; simp
    have hr13 : r.length ≤ 12 := by
      have := (Pl.mem hr (r := r) (by rw [e]; simp)).len
      omega
    have hlen : (metR (d.map (·.1))).length = d.length + 1 := by simp [metR]
    have hat : L2.atI ((metR (d.map (·.1))).map rowD) (d.length : Int) = some (rowD ((([0] :: (d.map (·.1)).map nx).getLast?).getD [])) := by
      rw [atI_mapG (by omega) (by rw [hlen]; omega)]
      congr 2
      rw [List.getLast?_eq_getElem?]
      simp [metR]
    kat_tups
    refine ⟨_, _, rfl, hat, ?_⟩
    dsimp only
    kat_tups
    refine ⟨by rw [List.length_map, hlen]; omega, ?_⟩
    kat_tups
    refine ⟨.fz (.int (d.length : Nat)), .fz (rowL r), ?_, rfl, rfl⟩
    rw [List.map_append, List.map_cons, List.map_nil, metR_snoc, List.map_append]
    rfl
  · rintro δ' ⟨s, t, rfl, hs1, ht1⟩
    have e : (rows.zipIdx.map (·.1)) = rows := by simp
    rw [e]
    kat_tups
    refine lcM rowD src_map (by omega) ?_ ?_
    · intro r _
      kat_tups
      try rfl
    · kat_tups
      exact ⟨_, _, _, rfl, k⟩
/-! its properties and methods -/
inductive cLongest (CP : Addr) : List D → (D → Prop) → EK → Prop
  | mk {P : D → Prop} {E : EK} (rows : List (List Int)) (k : P (.int rows.length)) : cLongest CP [plD CP rows] P E
theorem mo_cLongest {CP : Addr} : ∀ (ds : List D) (P P' : D → Prop) (E E' : EK), (∀ d, P d → P' d) → (∀ v ns es, E v ns es → E' v ns es) → (cLongest CP) ds P E → (cLongest CP) ds P' E' := by
  intro ds P P' E E' hp he h
  cases h with
  | mk rows k => exact .mk rows (by first | exact hp _ k | exact k.imp hp | (intros; apply hp; apply k <;> assumption))
abbrev S_Plan_longest : Scp := { N := ["self"], sc := defScope (mtop 31 1), vs := [("self", 0)], ss := [("self", 0)], gl := ["len"], lv := 1 }
theorem b_Plan_longest {U : Env1} {CP : Addr} (hC : PlanC U CP) (hB : Blt U ["len"])  (G H : Hp) (ds) (P) (E) (h : (cLongest CP) ds P E) : JSs S_Plan_longest (U.cg G H fun _ => E) (defBody (mtop 31 1)) (startD S_Plan_longest.N ds) { nx := fun _ => P .non, rt := P } := by
  obtain ⟨hcl, hcm, hn1, hn2, hins, hne, hob, hsf, hml, hcy⟩ := hC
  obtain ⟨rows, k⟩ := h
  kat_tups
  rw [List.length_map]
  try exact k
inductive cRows (CP : Addr) : List D → (D → Prop) → EK → Prop
  | mk {P : D → Prop} {E : EK} (rows : List (List Int)) (hl : rows.length ≤ 1000) (k : P (.lst (rows.map rowL))) : cRows CP [plD CP rows] P E
theorem mo_cRows {CP : Addr} : ∀ (ds : List D) (P P' : D → Prop) (E E' : EK), (∀ d, P d → P' d) → (∀ v ns es, E v ns es → E' v ns es) → (cRows CP) ds P E → (cRows CP) ds P' E' := by
  intro ds P P' E E' hp he h
  cases h with
  | mk rows hl k => exact .mk rows hl (by first | exact hp _ k | exact k.imp hp | (intros; apply hp; apply k <;> assumption))
abbrev S_Plan_rows : Scp := { N := ["self", "row"], sc := defScope (mtop 31 4), vs := [("self", 0)], ss := [("self", 0)], gl := [], lv := 1 }
local macro_rules | `(tactic| k_offL) => `(tactic| ((with_reducible show JE _ _ (Expr.ListComp _ _ _ _) _ _); first | refine jf_je (jf_lc (S' := { N := S_Plan_rows.N, sc := relS _ S_Plan_rows.sc, vs := [("row", 1)], ss := [("row", 1)], gl := ["list"], lv := 1 }) (own := [("row", 1)]) (ok_B (by decide +kernel) (by decide +kernel) rfl rfl rfl (by decide +kernel)) ?_)))
theorem b_Plan_rows {U : Env1} {CP : Addr} (hC : PlanC U CP) (hB : Blt U ["list"])  (G H : Hp) (ds) (P) (E) (h : (cRows CP) ds P E) : JSs S_Plan_rows (U.cg G H fun _ => E) (defBody (mtop 31 4)) (startD S_Plan_rows.N ds) { nx := fun _ => P .non, rt := P } := by
  obtain ⟨hcl, hcm, hn1, hn2, hins, hne, hob, hsf, hml, hcy⟩ := hC
  obtain ⟨rows, hl, k⟩ := h
  kat_tups
  refine lcM rowL src_map (by omega) ?_ ?_
  · intro r _
    kat_tups
    try rfl
  · try exact k
inductive cGaps (CP : Addr) : List D → (D → Prop) → EK → Prop
  | mk {P : D → Prop} {E : EK} (rows : List (List Int)) (hr : PlanOk rows) (k : P (.lst ((gapsR rows).map gapD))) : cGaps CP [plD CP rows] P E
theorem mo_cGaps {CP : Addr} : ∀ (ds : List D) (P P' : D → Prop) (E E' : EK), (∀ d, P d → P' d) → (∀ v ns es, E v ns es → E' v ns es) → (cGaps CP) ds P E → (cGaps CP) ds P' E' := by
  intro ds P P' E E' hp he h
  cases h with
  | mk rows hr k => exact .mk rows hr (by first | exact hp _ k | exact k.imp hp | (intros; apply hp; apply k <;> assumption))
theorem gapsOf_len (n : Int) (r : List Int) : (gapsOf n r).length ≤ r.length := by
  unfold gapsOf
  refine Nat.le_trans (List.length_filterMap_le _ _) ?_
  rw [List.length_zip]
  omega
theorem flat_len {α β : Type} {f : α → List β} {k : Nat} : ∀ {l : List α}, (∀ x ∈ l, (f x).length ≤ k) → (l.flatMap f).length ≤ k * l.length
  | [], _ => by simp
  | a :: l, h => by
    have ih := flat_len (l := l) fun x hx => h x (.tail _ hx)
    have h0 := h a (.head _)
    rw [List.flatMap_cons, List.length_append, List.length_cons, Nat.mul_succ]
    omega
abbrev S_Plan_gaps : Scp := { N := ["self", "n", "row", "gap"], sc := defScope (mtop 31 2), vs := [("self", 0)], ss := [("self", 0)], gl := ["enumerate"], lv := 2 }
local macro_rules | `(tactic| lsm_bools) => `(tactic| first | refine cRowGaps.mk _ _ (by first | assumption | omega | decide) (by first | assumption | omega | decide) ?_)
local macro_rules | `(tactic| k_offL) => `(tactic| ((with_reducible show JE _ _ (Expr.ListComp _ _ _ _) _ _); first | refine jf_je (jf_lc2 (S' := { N := S_Plan_gaps.N, sc := relS _ S_Plan_gaps.sc, vs := [("n", 1), ("row", 2), ("gap", 3)], ss := [("n", 1), ("row", 2), ("gap", 3)], gl := ["row_gaps"], lv := 2 }) (own := [("n", 1), ("row", 2), ("gap", 3)]) [3] (ok_B (by decide +kernel) (by decide +kernel) rfl rfl rfl (by decide +kernel)) (by rfl) ?_)))
theorem b_Plan_gaps {U : Env1} {CP : Addr} (hC : PlanC U CP) (hB : Blt U ["enumerate"]) (F_row_gaps : U.Def "row_gaps" 2 [] cRowGaps) (G H : Hp) (ds) (P) (E) (h : (cGaps CP) ds P E) : JSs S_Plan_gaps (U.cg G H fun _ => E) (defBody (mtop 31 2)) (startD S_Plan_gaps.N ds) { nx := fun _ => P .non, rt := P } := by
  obtain ⟨hcl, hcm, hn1, hn2, hins, hne, hob, hsf, hml, hcy⟩ := hC
  obtain ⟨rows, hr, k⟩ := h
  have hl := hr.1
  kat_tups
  refine lc2F (fun x : List Int × Nat => (gapsOf x.2 x.1).map gapD) src_enum ?_ ?_ ?_
  · refine Nat.le_trans (flat_len (k := 12) fun x hx => ?_) ?_
    · rw [List.length_map]
      have := gapsOf_len x.2 x.1
      have := (Pl.mem hr (List.mem_of_getElem? (List.mk_mem_zipIdx_iff_getElem?.mp (show (x.1, x.2) ∈ _ from hx)))).len
      omega
    · simp
      omega
  · rintro ⟨r, n⟩ hx acc kk hl2 hk
    have hrm : r ∈ rows := by
      have := List.mk_mem_zipIdx_iff_getElem?.mp hx
      exact List.mem_of_getElem? this
    have hg := Pl.mem hr hrm
    have hg1 := hg.len
    have hg2 := hg.1
    dsimp only
    kat_tups
    refine lcI some src_ds (by simpa using hl2) ?_ (by simpa using hk)
    intro d _
    kat_tups
    try rfl
  · have e : (rows.zipIdx.flatMap fun x : List Int × Nat => (gapsOf x.2 x.1).map gapD) = (gapsR rows).map gapD := by
      unfold gapsR
      rw [List.map_flatMap]
    rw [e]
    exact k
inductive cGapless (CP : Addr) : List D → (D → Prop) → EK → Prop
  | mk {P : D → Prop} {E : EK} (rows : List (List Int)) (hr : PlanOk rows) (k : P (.bl (decide (gapsR rows = [])))) : cGapless CP [plD CP rows] P E
theorem mo_cGapless {CP : Addr} : ∀ (ds : List D) (P P' : D → Prop) (E E' : EK), (∀ d, P d → P' d) → (∀ v ns es, E v ns es → E' v ns es) → (cGapless CP) ds P E → (cGapless CP) ds P' E' := by
  intro ds P P' E E' hp he h
  cases h with
  | mk rows hr k => exact .mk rows hr (by first | exact hp _ k | exact k.imp hp | (intros; apply hp; apply k <;> assumption))
abbrev S_Plan_gapless : Scp := { N := ["self"], sc := defScope (mtop 31 3), vs := [("self", 0)], ss := [("self", 0)], gl := ["len"], lv := 4 }
local macro_rules | `(tactic| lsm_bools) => `(tactic| first | refine cGaps.mk _ (by first | assumption | omega | decide) ?_)
theorem b_Plan_gapless {U : Env1} {CP : Addr} (hC : PlanC U CP) (hB : Blt U ["len"]) (F_Plan_gaps : PropOk U.P U.w U.K U.mg U.base CP "gaps" 3 (cGaps CP)) (G H : Hp) (ds) (P) (E) (h : (cGapless CP) ds P E) : JSs S_Plan_gapless (U.cg G H fun _ => E) (defBody (mtop 31 3)) (startD S_Plan_gapless.N ds) { nx := fun _ => P .non, rt := P } := by
  obtain ⟨hcl, hcm, hn1, hn2, hins, hne, hob, hsf, hml, hcy⟩ := hC
  obtain ⟨rows, hr, k⟩ := h
  kat_tups
  rw [List.length_map]
  have e : decide (((gapsR rows).length : Int) = 0) = decide (gapsR rows = []) := by
    refine decide_eq_decide.mpr ?_
    rw [← List.length_eq_zero_iff]
    omega
  rw [e]
  try exact k
inductive cGoPlaces (CP : Addr) : List D → (D → Prop) → EK → Prop
  | mk {P : D → Prop} {E : EK} (rows : List (List Int)) (hr : PlanOk rows) (k : P (.lst ((goP rows).map plcD))) : cGoPlaces CP [plD CP rows] P E
inductive cContains (CP : Addr) : List D → (D → Prop) → EK → Prop
  | mk {P : D → Prop} {E : EK} (rows : List (List Int)) (a b : Int) (h0 : 0 ≤ a + b) (k : P (.bl (inR rows a b))) : cContains CP [plD CP rows, plcD (a, b)] P E
inductive cWithin (CP : Addr) : List D → (D → Prop) → EK → Prop
  | mk {P : D → Prop} {E : EK} (one two : List (List Int)) (hr : PlanOk one) (k : P (.bl ((goP one).all fun p => inR two p.1 p.2))) : cWithin CP [plD CP one, plD CP two] P E
inductive cEq (CP : Addr) : List D → (D → Prop) → EK → Prop
  | mk {P : D → Prop} {E : EK} (one two : List (List Int)) (h1 : PlanOk one) (h2 : PlanOk two) (k : P (.bl (decide (one = two)))) : cEq CP [plD CP one, plD CP two] P E
theorem mo_cEq {CP : Addr} : ∀ (ds : List D) (P P' : D → Prop) (E E' : EK), (∀ d, P d → P' d) → (∀ v ns es, E v ns es → E' v ns es) → (cEq CP) ds P E → (cEq CP) ds P' E' := by
  intro ds P P' E E' hp he h
  cases h with
  | mk one two h1 h2 k => exact .mk one two h1 h2 (by first | exact hp _ k | exact k.imp hp | (intros; apply hp; apply k <;> assumption))
abbrev S_Plan___eq__ : Scp := { N := ["self", "other"], sc := defScope (mtop 31 15), vs := [("self", 0), ("other", 1)], ss := [("self", 0), ("other", 1)], gl := ["Plan", "isinstance"], lv := 1 }
theorem b_Plan___eq__ {U : Env1} {CP : Addr} (hC : PlanC U CP) (hB : Blt U ["isinstance"])  (G H : Hp) (ds) (P) (E) (h : (cEq CP) ds P E) : JSs S_Plan___eq__ (U.cg G H fun _ => E) (defBody (mtop 31 15)) (startD S_Plan___eq__.N ds) { nx := fun _ => P .non, rt := P } := by
  obtain ⟨hcl, hcm, hn1, hn2, hins, hne, hob, hsf, hml, hcy⟩ := hC
  obtain ⟨one, two, h1, h2, k⟩ := h
  kat_tups
  refine od_eqE (enc_tup (enc_tup enc_int)) (by decide) (x := one) (y := two) ?_
  try exact k
inductive cAnd (CP : Addr) : List D → (D → Prop) → EK → Prop
  | mk {P : D → Prop} {E : EK} (one two : List (List Int)) (h1 : PlanOk one) (hm : PlanOk (meetR [0] one two)) (k : P (plD CP (meetR [0] one two))) : cAnd CP [plD CP one, plD CP two] P E
/-! fill -/
def fillRow (r : List Int) : List Int := rgD (r.headD 0) (r.getLastD 0 + 1)
def fillR (rows : List (List Int)) : List (List Int) := rows.map fillRow
theorem rgD_mem {a b x : Int} : x ∈ rgD a b ↔ a ≤ x ∧ x < b := by
  unfold rgD
  simp only [List.mem_map, List.mem_range]
  constructor
  · rintro ⟨i, h, rfl⟩
    omega
  · rintro ⟨h1, h2⟩
    exact ⟨(x - a).toNat, by omega, by omega⟩
theorem rgD_asc {a b : Int} : Asc (rgD a b) := by
  refine pairwise_of_next fun i hi => ?_
  rw [rgD_get, rgD_get]
  omega
theorem rgD_ne {a b : Int} : rgD a b ≠ [] ↔ a < b := by
  rw [← List.length_pos_iff, rgD_len]
  omega
theorem nx_rgD {a b : Int} (h : a < b) : nx (rgD a b) = rgD a (b + 1) := by
  refine asc_ext (nx_asc rgD_asc) rgD_asc fun x => ?_
  rw [nx_mem, rgD_mem, rgD_mem, rgD_mem]
  omega
theorem headD_mem {r : List Int} (h : r ≠ []) : r.headD 0 ∈ r := by
  cases r with
  | nil => exact absurd rfl h
  | cons a r => exact .head _
theorem getLastD_mem {r : List Int} (h : r ≠ []) : r.getLastD 0 ∈ r := by
  have e : r.getLastD 0 = r.getLast h := by rw [List.getLastD_eq_getLast?, List.getLast?_eq_getLast h]; rfl
  rw [e]
  exact List.getLast_mem h
theorem headD_le {r : List Int} (ha : Asc r) {x : Int} (hx : x ∈ r) : r.headD 0 ≤ x := by
  cases r with
  | nil => cases hx
  | cons a r =>
    rcases List.mem_cons.mp hx with q | q
    · subst q; exact Int.le_refl _
    · have := (List.pairwise_cons.mp ha).1 x q
      show a ≤ x
      omega
theorem le_getLastD : ∀ {r : List Int}, Asc r → ∀ {x : Int}, x ∈ r → x ≤ r.getLastD 0
  | [], _, _, h => by cases h
  | [a], _, x, h => by simp at h; subst h; simp
  | a :: b :: r, ha, x, h => by
    have h1 := List.pairwise_cons.mp ha
    have e : (a :: b :: r).getLastD 0 = (b :: r).getLastD 0 := by simp [List.getLastD_eq_getLast?]
    rw [e]
    rcases List.mem_cons.mp h with q | q
    · subst q
      have h2 := le_getLastD h1.2 (x := b) (.head _)
      have h3 := h1.1 b (.head _)
      omega
    · exact le_getLastD h1.2 q
theorem fillRow_mem {r : List Int} {x : Int} : x ∈ fillRow r ↔ r.headD 0 ≤ x ∧ x ≤ r.getLastD 0 := by
  unfold fillRow
  rw [rgD_mem]
  omega
theorem sub_fillRow {r : List Int} (ha : Asc r) {x : Int} (hx : x ∈ r) : x ∈ fillRow r := fillRow_mem.mpr ⟨headD_le ha hx, le_getLastD ha hx⟩
theorem fillRow_asc {r : List Int} : Asc (fillRow r) := rgD_asc
inductive cFill (CP : Addr) : List D → (D → Prop) → EK → Prop
  | mk {P : D → Prop} {E : EK} (rows : List (List Int)) (hr : PlanOk rows) (k : P (plD CP (fillR rows))) : cFill CP [plD CP rows] P E
theorem atI_last {α : Type} {g : α → D} {xs : List α} {x : α} (h : xs.getLast? = some x) : L2.atI (xs.map g) (-1) = some (g x) := by
  have hne : xs ≠ [] := fun z => by subst z; cases h
  have hlen : 0 < xs.length := List.length_pos_iff.mpr hne
  unfold L2.atI ixN
  rw [if_neg (by decide), if_pos (by rw [List.length_map]; omega)]
  rw [List.getLast?_eq_getElem?] at h
  simp only [List.length_map, Option.bind_some, List.getElem?_map]
  rw [show (-1 + (xs.length : Int)).toNat = xs.length - 1 by omega, h]
  rfl
theorem atI_snoc {xs : List D} {d : D} : L2.atI (xs ++ [d]) (-1) = some d := by
  have := atI_last (g := id) (xs := xs ++ [d]) (x := d) (by simp)
  simpa using this
theorem atI_head {α : Type} {g : α → D} {xs : List α} {x : α} (h : xs.head? = some x) : L2.atI (xs.map g) 0 = some (g x) := by
  cases xs with
  | nil => cases h
  | cons y xs =>
    cases h
    unfold L2.atI ixN
    rw [if_pos (by decide), if_pos (by rw [List.length_map, List.length_cons]; omega)]
    rfl
theorem PlanOk.bnd {rows : List (List Int)} (h : PlanOk rows) {r : List Int} (hr : r ∈ rows) : r ≠ [] ∧ Asc r ∧ 0 ≤ r.headD 0 ∧ r.getLastD 0 ≤ 11 ∧ r.head? = some (r.headD 0) ∧ r.getLast? = some (r.getLastD 0) := by
  have g := Pl.mem h hr
  refine ⟨g.1, g.2.1, (g.2.2 _ (headD_mem g.1)).1, (g.2.2 _ (getLastD_mem g.1)).2, ?_, ?_⟩
  · cases r with
    | nil => exact absurd rfl g.1
    | cons a r => rfl
  · rw [List.getLastD_eq_getLast?, List.getLast?_eq_getLast g.1]
    rfl
end
set_option Elab.async false
set_option linter.all false
set_option maxRecDepth 100000
set_option maxHeartbeats 4000000
section
/-! the error classes that this row asks -/
abbrev xMade : List Str := ["TooLong", "TooMany", "HasGap"]
abbrev xRaised : List Str := ["TooLong", "TooMany", "HasGap"]
abbrev xNames : List Str := ["TooLong", "TooMany", "HasGap", "BadText", "BadEnds", "BadPlan", "BadTelling", "BadVerdict", "BadCourse", "NotStop", "BadLot", "BadShare", "BadPoly", "BadFraction", "BadDesign", "Untold", "TooDeep", "BadPage", "Refused", "TrialError"]
end
set_option Elab.async false
set_option linter.all false
set_option maxRecDepth 100000
set_option maxHeartbeats 4000000
section
/-! the drawing of rows -/
/-- rows that are drawn, and the goods that they reach -/
structure PS (rs : List (List Int)) (g : List Int) : Prop where
  pl : Pl [0] rs
  gd : Gd rs.length g
  la : ((metR rs).getLast?).getD [] = g
theorem PS.nil : PS [] [0] := ⟨trivial, gd0, rfl⟩
theorem PS.snoc {rs : List (List Int)} {g r : List Int} (h : PS rs g) (hr : RowOk r g) : PS (rs ++ [r]) (nx r) := by
  refine ⟨pl_append h.pl ?_, ?_, ?_⟩
  · have e := h.la
    unfold metR at e
    rw [List.getLast?_cons] at e
    simp only [Option.getD_some] at e
    rw [e]
    exact hr
  · have := (hr.gd h.gd).nx
    simpa using this
  · simp [metR, List.getLast?_cons]
theorem PS.ok {rs : List (List Int)} {g : List Int} (h : PS rs g) (hl : rs.length ≤ 12) : PlanOk rs := ⟨hl, h.pl⟩
/-- all rows are runs -/
def Runs (rs : List (List Int)) : Prop := ∀ r ∈ rs, fillRow r = r
def GapPl (m : Int) (rs : List (List Int)) : Prop := PlanOk rs ∧ (rs.length : Int) ≤ max m 0 ∧ Runs rs
theorem fillRow_rgD {a b : Int} (h : a < b) : fillRow (rgD a b) = rgD a b := by
  refine asc_ext fillRow_asc rgD_asc fun x => ?_
  constructor
  · intro hx
    have hx := fillRow_mem.mp hx
    have hn := rgD_ne.mpr h
    have a1 := rgD_mem.mp (headD_mem hn)
    have a2 := rgD_mem.mp (getLastD_mem hn)
    exact rgD_mem.mpr (by omega)
  · exact sub_fillRow rgD_asc
theorem Runs.snoc {rs : List (List Int)} {r : List Int} (h : Runs rs) (hr : fillRow r = r) : Runs (rs ++ [r]) := by
  intro x hx
  rcases List.mem_append.mp hx with q | q
  · exact h x q
  · simp at q
    subst q
    exact hr
theorem runs_nil : Runs [] := fun _ h => by cases h
/-! _law_some -/
inductive cSome : List D → (List D → Prop) → EK → Prop
  | mk {P : List D → Prop} {E : EK} (cells : List Int) (hl : cells.length ≤ 63) (items : List Int) (hi : items.length ≤ 100) (k : ∀ out : List Int, out.Sublist items → (items ≠ [] → out ≠ []) → P (out.map .int)) : cSome [.sto cells, rowL items] P E
theorem mo_cSome : ∀ (ds : List D) (P P' : List D → Prop) (E E' : EK), (∀ d, P d → P' d) → (∀ v ns es, E v ns es → E' v ns es) → cSome ds P E → cSome ds P' E' := by
  intro ds P P' E E' hp he h
  cases h with
  | mk cells hl items hi k => exact .mk cells hl items hi (by first | exact hp _ k | exact k.imp hp | (intros; apply hp; apply k <;> assumption))
abbrev S__law_some : Scp := { N := ["store", "items", "out", "item"], sc := defScope (top 45), vs := [("store", 0), ("items", 1), ("out", 2), ("item", 3)], ss := [("store", 0), ("items", 1), ("out", 2), ("item", 3)], gl := ["_law_take", "len"], lv := 3 }
local macro_rules | `(tactic| lsm_bools) => `(tactic| first | refine cTake.mk _ (by first | assumption | omega | decide) _ (fun v hk1 hk2 => ?_))
theorem b__law_some {U : Env1} (hB : Blt U ["len"]) (F__law_take : U.Def "_law_take" 3 [] cTake) (G H : Hp) (ds) (P) (E) (h : cSome ds P E) : JSs S__law_some (U.cgF G H (fun _ => E) (RfL P)) (defBody (top 45)) (startD S__law_some.N ds) { nx := fun _ => False, rt := fun _ => False } := by
  obtain ⟨cells, hl, items, hi, k⟩ := h
  have hs : 5000 < sizeLine := by decide
  kat_tups
  refine eachD (fun d rest δ' => ∃ (out : List Int) (s : Sl), out.Sublist d ∧ δ' = [.fz (.sto cells), .fz (rowL items), .ow (out.map .int), s]) src_map ⟨[], _, List.nil_sublist _, rfl⟩ ?_ ?_
  · rintro d x rest δ' hx ⟨out, s, ho, rfl⟩
    have h1 : out.length ≤ d.length := ho.length_le
    have h2 : d.length < items.length := by rw [hx]; simp
    kat_tups
    refine ite_d (fun h3 => ?_) (fun h3 => ?_)
    · kat_tups
      refine ⟨by simp; omega, ?_⟩
      kat_tups
      exact ⟨out ++ [x], .fz (.int x), ho.append (List.Sublist.refl _), by rw [List.map_append]; rfl⟩
    · kat_tups
      exact ⟨out, .fz (.int x), ho.trans (List.sublist_append_left _ _), rfl⟩
  · rintro δ' ⟨out, s, ho, rfl⟩
    kat_tups
    simp only [List.length_map]
    refine ite_d (fun h3 => ?_) (fun h3 => ?_)
    · have ho0 : out = [] := List.length_eq_zero_iff.mp (by omega)
      subst ho0
      kat_tups
      simp only [List.length_map]
      refine ite_d (fun h4 => ?_) (fun h4 => ?_)
      · kat_tups
        rename_i v hv1 hv2
        simp only [List.length_map] at hv2
        have hv3 : v.toNat < items.length := by omega
        refine ixd_lst (atI_mapG hv1 (by omega)) ?_
        kat_tups
        refine ⟨by simp; omega, ?_⟩
        kat_tups
        exact k [items[v.toNat]] (List.singleton_sublist.mpr (List.getElem_mem _)) (fun _ => by simp)
      · kat_tups
        exact k [] (List.nil_sublist _) (fun z => absurd (List.length_pos_iff.mpr z) (by omega))
    · kat_tups
      exact k out ho (fun _ z => h3 (by subst z; rfl))
/-! _law_next_goods -/
inductive cNextL : List D → (List D → Prop) → EK → Prop
  | mk {P : List D → Prop} {E : EK} (goods : List Int) (ha : Asc goods) (hl : goods.length ≤ 1000) (k : P ((nx goods).map .int)) : cNextL [rowL goods] P E
theorem mo_cNextL : ∀ (ds : List D) (P P' : List D → Prop) (E E' : EK), (∀ d, P d → P' d) → (∀ v ns es, E v ns es → E' v ns es) → cNextL ds P E → cNextL ds P' E' := by
  intro ds P P' E E' hp he h
  cases h with
  | mk goods ha hl k => exact .mk goods ha hl (by first | exact hp _ k | exact k.imp hp | (intros; apply hp; apply k <;> assumption))
abbrev S__law_next_goods : Scp := { N := ["goods", "out", "a", "g"], sc := defScope (top 46), vs := [("goods", 0), ("out", 1), ("a", 2), ("g", 3)], ss := [("goods", 0), ("out", 1), ("a", 2), ("g", 3)], gl := [], lv := 1 }
theorem b__law_next_goods {U : Env1}  (G H : Hp) (ds) (P) (E) (h : cNextL ds P E) : JSs S__law_next_goods (U.cgF G H (fun _ => E) (RfL P)) (defBody (top 46)) (startD S__law_next_goods.N ds) { nx := fun _ => False, rt := fun _ => False } := by
  obtain ⟨goods, ha, hl, k⟩ := h
  have hs : 5000 < sizeLine := by decide
  kat_tups
  refine each (fun rest δ' => ∃ (out : List Int) (s t : Sl), rest.foldl stepN out = nx goods ∧ out.length + 2 * rest.length ≤ 2000 ∧ δ' = [.fz (rowL goods), .ow (out.map .int), s, t]) src_map ⟨[], _, _, foldN0 ha, by simp; omega, rfl⟩ ?_ ?_
  · rintro a rest δ' _ ⟨out, s, t, hf, hb, rfl⟩
    simp only [List.length_cons] at hb
    rw [List.foldl_cons] at hf
    have hb2 := stepN_len out a
    kat_tups
    refine each (fun r2 δ' => ∃ (o : List Int) (t : Sl), r2.foldl putN o = stepN out a ∧ o.length + r2.length ≤ out.length + 2 ∧ δ' = [.fz (rowL goods), .ow (o.map .int), .fz (.int a), t]) (src_map (xs := [a, a + 1]) (g := D.int)) ⟨out, _, rfl, by simp, rfl⟩ ?_ ?_
    · rintro g r2 δ' _ ⟨o, t, hf2, hb3, rfl⟩
      simp only [List.length_cons] at hb3
      rw [List.foldl_cons] at hf2
      kat_tups
      refine ite_nd (fun h3 => ?_) (fun h3 => ?_)
      · kat_tups
        refine ⟨by simp; omega, ?_⟩
        kat_tups
        rw [show putN o g = o ++ [g] from if_neg h3] at hf2
        exact ⟨o ++ [g], .fz (.int g), hf2, by simp; omega, by rw [List.map_append]; rfl⟩
      · kat_tups
        rw [show putN o g = o from if_pos h3] at hf2
        exact ⟨o, .fz (.int g), hf2, by omega, rfl⟩
    · rintro δ' ⟨o, t, hf2, hb3, rfl⟩
      have e : o = stepN out a := hf2
      subst e
      exact ⟨_, _, _, hf, by omega, rfl⟩
  · rintro δ' ⟨out, s, t, hf, hb, rfl⟩
    have e : out = nx goods := hf
    subst e
    kat_tups
    try exact k
/-! _law_fixed_rows, _law_until_rows -/
def fixedR (m : Int) : List (List Int) := (rgD 0 m).map fun n => rgD 0 (n + 1)
theorem ps_range {m : Nat} {f : Int → List Int} {g : Nat → List Int} (h0 : g 0 = [0]) (h : ∀ n : Nat, n < m → RowOk (f n) (g n) ∧ nx (f n) = g (n + 1)) : ∀ j, j ≤ m → PS ((rgD 0 j).map f) (g j)
  | 0, _ => by rw [h0]; exact .nil
  | j + 1, hj => by
    have e : rgD 0 ((j + 1 : Nat) : Int) = rgD 0 (j : Int) ++ [(j : Int)] := by
      refine asc_ext rgD_asc ?_ fun x => ?_
      · refine List.pairwise_append.mpr ⟨rgD_asc, by simp, fun x hx y hy => ?_⟩
        have := rgD_mem.mp hx
        simp at hy
        omega
      · rw [List.mem_append, rgD_mem, rgD_mem]
        simp
        omega
    rw [e, List.map_append]
    have := (ps_range h0 h j (by omega)).snoc (h j (by omega)).1
    rwa [(h j (by omega)).2] at this
theorem fixed_ps (m : Nat) : PS (fixedR m) (rgD 0 (m + 1)) := by
  refine ps_range (m := m) (f := fun n => rgD 0 (n + 1)) (g := fun n => rgD 0 (n + 1)) rfl (fun n _ => ⟨⟨rgD_ne.mpr (by omega), rgD_asc, fun a h => h⟩, ?_⟩) m (Nat.le_refl _)
  rw [nx_rgD (by omega)]
  rfl
inductive cFixed : List D → (List D → Prop) → EK → Prop
  | mk {P : List D → Prop} {E : EK} (m : Int) (h1 : m ≤ 100) (h2 : -100 ≤ m) (k : P ((fixedR (max m 0)).map rowL)) : cFixed [.int m] P E
theorem mo_cFixed : ∀ (ds : List D) (P P' : List D → Prop) (E E' : EK), (∀ d, P d → P' d) → (∀ v ns es, E v ns es → E' v ns es) → cFixed ds P E → cFixed ds P' E' := by
  intro ds P P' E E' hp he h
  cases h with
  | mk m h1 h2 k => exact .mk m h1 h2 (by first | exact hp _ k | exact k.imp hp | (intros; apply hp; apply k <;> assumption))
theorem rgD_neg {m : Int} : rgD 0 m = rgD 0 (max m 0) := by
  unfold rgD
  congr 2
  omega
abbrev S__law_fixed_rows : Scp := { N := ["m", "n"], sc := defScope (top 47), vs := [("m", 0)], ss := [("m", 0)], gl := ["range"], lv := 1 }
local macro_rules | `(tactic| nest_fact) => `(tactic| ((with_reducible show JF _ _ (Expr.ListComp _ _ _ _) _ _); first | refine jf_lc (S' := { N := S__law_fixed_rows.N, sc := relS _ S__law_fixed_rows.sc, vs := [("n", 1)], ss := [("n", 1)], gl := ["list", "range"], lv := 1 }) (own := [("n", 1)]) (ok_B (by decide +kernel) (by decide +kernel) rfl rfl rfl (by decide +kernel)) ?_))
local macro_rules | `(tactic| k_offL) => `(tactic| ((with_reducible show JE _ _ (Expr.ListComp _ _ _ _) _ _); first | refine jf_je (jf_lc (S' := { N := S__law_fixed_rows.N, sc := relS _ S__law_fixed_rows.sc, vs := [("n", 1)], ss := [("n", 1)], gl := ["list", "range"], lv := 1 }) (own := [("n", 1)]) (ok_B (by decide +kernel) (by decide +kernel) rfl rfl rfl (by decide +kernel)) ?_)))
theorem b__law_fixed_rows {U : Env1} (hB : Blt U ["list", "range"])  (G H : Hp) (ds) (P) (E) (h : cFixed ds P E) : JSs S__law_fixed_rows (U.cgF G H (fun _ => E) (RfL P)) (defBody (top 47)) (startD S__law_fixed_rows.N ds) { nx := fun _ => False, rt := fun _ => False } := by
  obtain ⟨m, h1, h2, k⟩ := h
  kat_tups
  refine lcM (fun n : Int => rowL (rgD 0 (n + 1))) src_rg1 (by rw [rgD_len]; omega) ?_ ?_
  · intro n hn
    have := rgD_mem.mp hn
    kat_tups
    refine ⟨.of_le (by omega) (by omega) (by omega) (by omega), ?_⟩
    rfl
  · have e : ((rgD 0 m).map fun n : Int => rowL (rgD 0 (n + 1))) = (fixedR (max m 0)).map rowL := by
      unfold fixedR
      rw [List.map_map, rgD_neg]
      rfl
    rw [e]
    exact k
def untilR (a b : Int) : List (List Int) := (rgD 0 (a + b - 1)).map fun n => rgD (max 0 (n - b + 1)) (min (a - 1) n + 1)
inductive cUntil : List D → (List D → Prop) → EK → Prop
  | mk {P : List D → Prop} {E : EK} (a b : Int) (h1 : 1 ≤ a) (h2 : 1 ≤ b) (h3 : a + b ≤ 100) (k : P ((untilR a b).map rowL)) : cUntil [.int a, .int b] P E
/-! _law_band_rows -/
def bandRow (s t low high : Int) (k : Int) (g : List Int) : List Int := g.filter fun a => decide (low < s * a - t * (k - a) ∧ s * a - t * (k - a) < high)
inductive cBand : List D → (List D → Prop) → EK → Prop
  | mk {P : List D → Prop} {E : EK} (s t low high n : Int) (h1 : -1000 ≤ s ∧ s ≤ 1000) (h2 : -1000 ≤ t ∧ t ≤ 1000) (h3 : n ≤ 12) (h4 : 0 ≤ n) (k : ∀ rows : List (List Int), PlanOk rows → (rows.length : Int) ≤ n → P (rows.map rowL)) : cBand [.int s, .int t, .int low, .int high, .int n] P E
/-! _law_gapless_rows -/
theorem cutL_rgD {c d j k : Int} (h0 : 0 ≤ j) (h1 : j < k) (h2 : k ≤ d - c) : cutL (rgD c d) (some j) (some k) = rgD (c + j) (c + k) := by
  have hl : ((rgD c d).length : Int) = d - c := by rw [rgD_len]; omega
  rw [cutL_fromto h0 (by omega) (by omega) (by omega)]
  refine List.ext_getElem ?_ fun i g1 g2 => ?_
  · rw [List.length_take, List.length_drop, rgD_len, rgD_len]
    omega
  · rw [List.getElem_take, List.getElem_drop, rgD_get, rgD_get]
    omega
inductive cGapless0 : List D → (List D → Prop) → EK → Prop
  | mk {P : List D → Prop} {E : EK} (cells : List Int) (hl : cells.length ≤ 63) (many : Int) (h1 : many ≤ 12) (h2 : -100 ≤ many) (k : ∀ rows : List (List Int), GapPl many rows → (rows.length : Int) = max many 0 → P (rows.map rowL)) : cGapless0 [.sto cells, .int many] P E
theorem mo_cGapless0 : ∀ (ds : List D) (P P' : List D → Prop) (E E' : EK), (∀ d, P d → P' d) → (∀ v ns es, E v ns es → E' v ns es) → cGapless0 ds P E → cGapless0 ds P' E' := by
  intro ds P P' E E' hp he h
  cases h with
  | mk cells hl many h1 h2 k => exact .mk cells hl many h1 h2 (by first | exact hp _ k | exact k.imp hp | (intros; apply hp; apply k <;> assumption))
abbrev S__law_gapless_rows : Scp := { N := ["store", "many", "rows", "goods", "k", "low", "high", "kind"], sc := defScope (top 48), vs := [("store", 0), ("many", 1), ("rows", 2), ("goods", 3), ("k", 4), ("low", 5), ("high", 6), ("kind", 7)], ss := [("store", 0), ("many", 1), ("rows", 2), ("goods", 3), ("k", 4), ("low", 5), ("high", 6), ("kind", 7)], gl := ["_law_next_goods", "_law_take", "len", "range"], lv := 3 }
local macro_rules | `(tactic| lsm_bools) => `(tactic| first | refine cTake.mk _ (by first | assumption | omega | decide) _ (fun v hk1 hk2 => ?_) | refine cNextL.mk _ (by first | assumption | omega | decide) (by first | assumption | omega | decide) ?_)
local macro_rules | `(tactic| kd_addW) => `(tactic| first | ((with_reducible show JS _ _ (Stmt.Assign [Expr.Name "goods" _] (Expr.List _ _) _) _ _); refine zs_set (by ktu_offI) ?_))
theorem b__law_gapless_rows {U : Env1} (hB : Blt U ["range", "len"]) (F__law_take : U.Def "_law_take" 3 [] cTake) (F__law_next_goods : U.DefF "_law_next_goods" 2 [] cNextL) (G H : Hp) (ds) (P) (E) (h : cGapless0 ds P E) : JSs S__law_gapless_rows (U.cgF G H (fun _ => E) (RfL P)) (defBody (top 48)) (startD S__law_gapless_rows.N ds) { nx := fun _ => False, rt := fun _ => False } := by
  obtain ⟨cells, hl, many, h1, h2, k⟩ := h
  have hs : 5000 < sizeLine := by decide
  kat_tups
  refine each (fun rest δ' => ∃ (rs : List (List Int)) (c d : Int) (s1 s2 s3 s4 : Sl), PS rs (rgD c d) ∧ c < d ∧ Runs rs ∧ rs.length + rest.length = many.toNat ∧ δ' = [.fz (.sto cells), .fz (.int many), .ow (rs.map rowL), .fz (rowL (rgD c d)), s1, s2, s3, s4]) src_rg1 ?_ ?_ ?_
  · exact ⟨[], 0, 1, _, _, _, _, .nil, by omega, runs_nil, by rw [rgD_len]; simp, rfl⟩
  · rintro kk rest δ' _ ⟨rs, c, d, s1, s2, s3, s4, hp, hcd, hru, hb, rfl⟩
    simp only [List.length_cons] at hb
    have hgl : ((rgD c d).length : Int) = d - c := by rw [rgD_len]; omega
    have fin : ∀ {j k : Int} {P' : List D → Prop} {E' : EK}, 0 ≤ j → j < k → k ≤ d - c → (cutL (rgD c d) (some j) (some k) = rgD (c + j) (c + k) → PS (rs ++ [rgD (c + j) (c + k)]) (rgD (c + j) (c + k + 1)) → Runs (rs ++ [rgD (c + j) (c + k)]) → P' ((rgD (c + j) (c + k + 1)).map .int)) → cNextL [.lst ((cutL (rgD c d) (some j) (some k)).map .int)] P' E' := by
      intro j k P' E' q1 q2 q3 q
      have hr : RowOk (rgD (c + j) (c + k)) (rgD c d) := ⟨rgD_ne.mpr (by omega), rgD_asc, fun a ha => by rw [rgD_mem] at *; omega⟩
      have h14 := hp.snoc hr
      rw [nx_rgD (by omega)] at h14
      have h13 := (hr.gd hp.gd).len
      have e := cutL_rgD q1 q2 q3
      rw [e]
      refine .mk _ rgD_asc (by omega) ?_
      rw [nx_rgD (by omega)]
      exact q e h14 (hru.snoc (fillRow_rgD (by omega)))
    kat_tups
    simp only [List.length_map, hgl]
    rename_i v hv1 hv2
    iterate 3 (all_goals (try (refine ite_d (fun h => ?_) (fun h => ?_) <;> kat_tups)))
    all_goals
      refine ⟨by rw [List.length_map]; omega, ?_⟩
      kat_tups
      refine ⟨_, _, rfl, atI_snoc, ?_⟩
      kat_tups
      refine fin ?_ ?_ ?_ ?_
      · omega
      · omega
      · omega
      intro e f1 f2
      rw [e]
      exact ⟨_, _, _, _, _, _, _, f1, by omega, f2, by simp; omega, by rw [List.map_append]; rfl⟩
  · rintro δ' ⟨rs, c, d, s1, s2, s3, s4, hp, hcd, hru, hb, rfl⟩
    simp only [List.length_nil] at hb
    kat_tups
    exact k rs ⟨hp.ok (by omega), by omega, hru⟩ (by omega)
end
set_option Elab.async false
set_option linter.all false
set_option maxRecDepth 100000
set_option maxHeartbeats 4000000
section
/-! _law_any_rows -/
inductive cAny : List D → (List D → Prop) → EK → Prop
  | mk {P : List D → Prop} {E : EK} (cells : List Int) (hl : cells.length ≤ 63) (many : Int) (h1 : many ≤ 12) (h2 : -100 ≤ many) (k : ∀ rows : List (List Int), PlanOk rows → (rows.length : Int) = max many 0 → P (rows.map rowL)) : cAny [.sto cells, .int many] P E
theorem sub_ok {out g : List Int} {k : Nat} (h : out.Sublist g) (hn : out ≠ []) (hg : Gd k g) : RowOk out g := ⟨hn, hg.2.1.sublist h, fun a ha => h.subset ha⟩
/-! _law_gapped_rows -/
inductive cGapped : List D → (List D → Prop) → EK → Prop
  | mk {P : List D → Prop} {E : EK} (cells : List Int) (hl : cells.length ≤ 63) (many : Int) (h1 : many ≤ 12) (h2 : -100 ≤ many) (k : ∀ rows : List (List Int), PlanOk rows → (rows.length : Int) = max many 3 → gapsR rows ≠ [] → P (rows.map rowL)) : cGapped [.sto cells, .int many] P E
theorem mo_cGapped : ∀ (ds : List D) (P P' : List D → Prop) (E E' : EK), (∀ d, P d → P' d) → (∀ v ns es, E v ns es → E' v ns es) → cGapped ds P E → cGapped ds P' E' := by
  intro ds P P' E E' hp he h
  cases h with
  | mk cells hl many h1 h2 k => exact .mk cells hl many h1 h2 (by first | exact hp _ k | exact k.imp hp | (intros; apply hp; apply k <;> assumption))
theorem GapPl.ps {m : Int} {rs : List (List Int)} (h : GapPl m rs) : PS rs (((metR rs).getLast?).getD []) := by
  have key : ∀ (rs : List (List Int)) (d : List (List Int)) (g : List Int), PS d g → Pl g rs → PS (d ++ rs) (((metR (d ++ rs)).getLast?).getD []) := by
    intro rs
    induction rs with
    | nil =>
      intro d g hd _
      rw [List.append_nil]
      exact ⟨hd.pl, by rw [hd.la]; exact hd.gd, rfl⟩
    | cons r rs ih =>
      intro d g hd hp
      have := ih (d ++ [r]) (nx r) (hd.snoc hp.1) hp.2
      rwa [List.append_assoc] at this
  exact key rs [] [0] .nil h.1.2
theorem metR_last {rs : List (List Int)} (h : rs ≠ []) : ((metR rs).getLast?).getD [] = nx (rs.getLast h) := by
  cases h2 : rs.reverse with
  | nil => exact absurd (List.reverse_eq_nil_iff.mp h2) h
  | cons x xs =>
    have e : rs = xs.reverse ++ [x] := by
      rw [← List.reverse_reverse rs, h2]
      simp
    subst e
    simp [metR, List.getLast?_cons]
/-- a hole in a row -/
def HoleR (r : List Int) : Prop := ∃ a b, a ∈ r ∧ b ∈ r ∧ a + 2 ≤ b ∧ ∀ x ∈ r, x ≤ a ∨ b ≤ x
theorem HoleR.zip : ∀ {r : List Int} {a b : Int}, Asc r → a ∈ r → b ∈ r → a + 2 ≤ b → (∀ x ∈ r, x ≤ a ∨ b ≤ x) → (a, b) ∈ r.zip r.tail
  | [], _, _, _, h, _, _, _ => by cases h
  | [x], a, b, _, h1, h2, h3, _ => by
    rw [List.mem_singleton.mp h1, List.mem_singleton.mp h2] at h3
    omega
  | x :: y :: t, a, b, hs, h1, h2, h3, h4 => by
    have hxy : x < y := (List.pairwise_cons.mp hs).1 y (.head _)
    rcases List.mem_cons.mp h1 with rfl | h1
    · rcases List.mem_cons.mp h2 with rfl | h2
      · omega
      · have hyb : y = b := by
          rcases List.mem_cons.mp h2 with rfl | h2
          · rfl
          · have := (List.pairwise_cons.mp (List.pairwise_cons.mp hs).2).1 b h2
            have := h4 y (.tail _ (.head _))
            omega
        subst hyb
        exact .head _
    · have hax := (List.pairwise_cons.mp hs).1 a h1
      rcases List.mem_cons.mp h2 with rfl | h2
      · omega
      · exact .tail _ (HoleR.zip (List.pairwise_cons.mp hs).2 h1 h2 h3 fun z hz => h4 z (.tail _ hz))
theorem gapsR_hole {rows : List (List Int)} {r : List Int} (hr : r ∈ rows) (hs : Asc r) (h : HoleR r) : gapsR rows ≠ [] := by
  obtain ⟨a, b, h1, h2, h3, h4⟩ := h
  have hz := HoleR.zip hs h1 h2 h3 h4
  intro e
  unfold gapsR at e
  rw [List.flatMap_eq_nil_iff] at e
  obtain ⟨n, hn⟩ := List.getElem?_of_mem hr
  have := e (r, n) (List.mk_mem_zipIdx_iff_getElem?.mpr hn)
  unfold gapsOf at this
  rw [List.filterMap_eq_nil_iff] at this
  have := this (a, b) hz
  dsimp only at this
  rw [if_pos h3] at this
  cases this
theorem asc_at {g : List Int} (hs : Asc g) {i j : Nat} (hj : j < g.length) (h : i ≤ j) : g[i]'(by omega) ≤ g[j] := by
  rcases Nat.lt_or_eq_of_le h with q | rfl
  · exact Int.le_of_lt (List.pairwise_iff_getElem.mp hs i j (by omega) hj q)
  · exact Int.le_refl _
theorem asc_far {g : List Int} (hs : Asc g) {i j : Nat} (hj : j < g.length) (h : i + 2 ≤ j) : g[i]'(by omega) + 2 ≤ g[j] := by
  have h1 := List.pairwise_iff_getElem.mp hs i (i + 1) (by omega) (by omega) (by omega)
  have h2 := List.pairwise_iff_getElem.mp hs (i + 1) j (by omega) hj (by omega)
  omega
abbrev S__law_gapped_rows : Scp := { N := ["store", "many", "at", "rows", "goods", "low", "high", "row", "k"], sc := defScope (top 49), vs := [("store", 0), ("many", 1), ("at", 2), ("rows", 3), ("goods", 4), ("low", 5), ("high", 6), ("row", 7), ("k", 8)], ss := [("store", 0), ("many", 1), ("at", 2), ("rows", 3), ("goods", 4), ("low", 5), ("high", 6), ("row", 7), ("k", 8)], gl := ["_law_fixed_rows", "_law_gapless_rows", "_law_next_goods", "_law_some", "_law_take", "len", "list", "max", "range"], lv := 4 }
local macro_rules | `(tactic| lsm_bools) => `(tactic| first | refine cTake.mk _ (by first | assumption | omega | decide) _ (fun v hk1 hk2 => ?_) | refine cGapless0.mk _ (by first | assumption | omega | decide) _ (by first | assumption | omega | decide) (by first | assumption | omega | decide) (fun rows hk1 hk2 => ?_) | refine cNextL.mk _ (by first | assumption | omega | decide) (by first | assumption | omega | decide) ?_ | refine cFixed.mk _ (by first | assumption | omega | decide) (by first | assumption | omega | decide) ?_ | refine cSome.mk _ (by first | assumption | omega | decide) _ (by first | assumption | omega | decide) (fun out hk1 hk2 => ?_))
local macro_rules | `(tactic| kd_addW) => `(tactic| first | ((with_reducible show JS _ _ (Stmt.Assign [Expr.Name "rows" _] (Expr.Call _ _ _ _) _) _ _); refine zs_setFL (by ktu_offI) ?_))
theorem b__law_gapped_rows {U : Env1} (hB : Blt U ["max", "len", "list", "range"]) (F__law_take : U.Def "_law_take" 3 [] cTake) (F__law_gapless_rows : U.DefF "_law_gapless_rows" 4 [] cGapless0) (F__law_next_goods : U.DefF "_law_next_goods" 2 [] cNextL) (F__law_fixed_rows : U.DefF "_law_fixed_rows" 2 [] cFixed) (F__law_some : U.DefF "_law_some" 4 [] cSome) (G H : Hp) (ds) (P) (E) (h : cGapped ds P E) : JSs S__law_gapped_rows (U.cgF G H (fun _ => E) (RfL P)) (defBody (top 49)) (startD S__law_gapped_rows.N ds) { nx := fun _ => False, rt := fun _ => False } := by
  obtain ⟨cells, hl, many, h1, h2, k⟩ := h
  have hs : 5000 < sizeLine := by decide
  kat_tups
  rename_i v hv1 hv2 rs0 hg0 hl0
  have em : (if many > 3 then many else 3) = max many 3 := by split <;> omega
  rw [em] at hv2
  rw [em]
  have hne : rs0 ≠ [] := fun z => by subst z; simp at hl0; omega
  have ps0 := hg0.ps
  rw [metR_last hne] at ps0
  have hok := Pl.mem hg0.1 (List.getLast_mem hne)
  have hok1 := hok.len
  have hok2 := hok.2.1
  refine ⟨_, _, rfl, atI_last (List.getLast?_eq_getLast hne), ?_⟩
  leaf_len
  refine zs_cut fun Q hQ => ?_
  have hq : ∀ (rs : List (List Int)) (g : List Int), PS rs g → (rs.length : Int) = 2 + v → 3 ≤ g.length → Q [.fz (.sto cells), .fz (.int (max many 3)), .fz (.int (2 + v)), .ow (rs.map rowL), .fz (rowL g), .no, .no, .no, .no] := by
    intro rs g hp hl1 hg3
    have hgl := hp.gd.len
    refine hQ _ ?_
    kat_tups
    rename_i lo hlo1 hlo2 dh hdh1 hdh2
    rw [List.length_map] at hlo2 hdh2
    rw [List.length_map]
    have hlh : lo.toNat + 2 ≤ (lo + 2 + dh).toNat := by omega
    have hhg : (lo + 2 + dh).toNat < g.length := by omega
    have hga := hp.gd.2.1
    kat_tups
    refine eachD (fun d rest δ' => ∃ (row : List Int) (s1 : Sl), row.Sublist (g.take d.length) ∧ (lo < d.length → g[lo.toNat] ∈ row) ∧ (lo + 2 + dh < d.length → g[(lo + 2 + dh).toNat] ∈ row) ∧ (∀ x ∈ row, x ≤ g[lo.toNat] ∨ g[(lo + 2 + dh).toNat] ≤ x) ∧ δ' = [.fz (.sto cells), .fz (.int (max many 3)), .fz (.int (2 + v)), .ow (rs.map rowL), .fz (rowL g), .fz (.int lo), .fz (.int (lo + 2 + dh)), .ow (row.map .int), s1]) src_rg1 ⟨[], _, List.nil_sublist _, fun z => absurd z (by simp; omega), fun z => absurd z (by simp; omega), fun x hx => (by cases hx), rfl⟩ ?_ ?_
    · rintro d kk rest δ' hx ⟨row, s1, hr1, hr2, hr3, hr4, rfl⟩
      have hk : kk = d.length ∧ d.length < g.length := by
        have e1 : (rgD 0 (g.length : Int))[d.length]? = some kk := by rw [hx]; simp
        have hi := (List.getElem?_eq_some_iff.mp e1).1
        have e2 := (List.getElem?_eq_some_iff.mp e1).2
        rw [rgD_get] at e2
        rw [rgD_len] at hi
        omega
      obtain ⟨rfl, hk2⟩ := hk
      have hrl := hr1.length_le
      rw [List.length_take] at hrl
      have et : g.take (d.length + 1) = g.take d.length ++ [g[d.length]] := by rw [List.take_add_one, List.getElem?_eq_getElem hk2]; rfl
      kat_tups
      iterate 5 (all_goals (try (refine ite_d (fun h => ?_) (fun h => ?_) <;> kat_tups)))
      all_goals first
        | refine ixd_lst (atI_mapG (by omega) (by omega)) ?_
          kat_tups
          refine ⟨by rw [List.length_map]; omega, ?_⟩
          kat_tups
          refine ⟨row ++ [g[d.length]], _, ?_, fun q => ?_, fun q => ?_, fun x hx => ?_, by rw [List.map_append]; rfl⟩
          · rw [List.length_append, List.length_singleton, et]
            exact hr1.append (List.Sublist.refl _)
          · rw [List.length_append, List.length_singleton] at q
            rcases Int.lt_or_le lo d.length with z | z
            · exact List.mem_append.mpr (.inl (hr2 z))
            · have e : lo.toNat = d.length := by omega
              simp [e]
          · rw [List.length_append, List.length_singleton] at q
            rcases Int.lt_or_le (lo + 2 + dh) d.length with z | z
            · exact List.mem_append.mpr (.inl (hr3 z))
            · have e : (lo + 2 + dh).toNat = d.length := by omega
              simp [e]
          · rcases List.mem_append.mp hx with hx | hx
            · exact hr4 x hx
            · rw [List.mem_singleton.mp hx]
              have z : d.length ≤ lo.toNat ∨ (lo + 2 + dh).toNat ≤ d.length := by omega
              rcases z with z | z
              · exact .inl (asc_at hga (by omega) z)
              · exact .inr (asc_at hga hk2 z)
        | refine ⟨row, _, ?_, fun q => hr2 (by rw [List.length_append, List.length_singleton] at q; omega), fun q => hr3 (by rw [List.length_append, List.length_singleton] at q; omega), hr4, rfl⟩
          rw [List.length_append, List.length_singleton, et]
          exact hr1.trans (List.sublist_append_left _ _)
    · rintro δ' ⟨row, s1, hr1, hr2, hr3, hr4, rfl⟩
      have hlr : (rgD 0 (g.length : Int)).length = g.length := by rw [rgD_len]; omega
      rw [hlr, List.take_length] at hr1
      rw [hlr] at hr2 hr3
      have ro := sub_ok hr1 (List.ne_nil_of_mem (hr2 (by omega))) hp.gd
      have hole : HoleR row := ⟨_, _, hr2 (by omega), hr3 (by omega), asc_far hga hhg hlh, hr4⟩
      have hasc := ro.2.1
      have h13 := (ro.gd hp.gd).len
      kat_tups
      refine ⟨by rw [List.length_map]; omega, ?_⟩
      kat_tups
      refine each (fun rest δ' => ∃ (rs : List (List Int)) (r : List Int) (s2 : Sl), row ∈ rs ++ [r] ∧ PS (rs ++ [r]) (nx r) ∧ (rs.length : Int) + 1 + rest.length = max many 3 ∧ δ' = [.fz (.sto cells), .fz (.int (max many 3)), .fz (.int (2 + v)), .ow (rs.map rowL ++ [rowL r]), .fz (rowL g), .fz (.int lo), .fz (.int (lo + 2 + dh)), .fz (rowL row), s2]) src_rg ?_ ?_ ?_
      · exact ⟨rs, row, _, by simp, hp.snoc ro, by rw [rgD_len]; omega, rfl⟩
      · rintro kk rest δ' _ ⟨rs, r, s2, hmem, hp, hb, rfl⟩
        simp only [List.length_cons] at hb
        have hgl := hp.gd.len
        rw [List.length_append, List.length_singleton] at hgl
        have hgr : Gd 12 r := by
          have := hp.pl.get gd0 (n := rs.length) (r := r) (by simp)
          exact ⟨this.1, this.2.1, fun a ha => by have := this.2.2 a ha; omega⟩
        have hr13 := hgr.len
        have hra := hgr.2.1
        kat_tups
        refine ⟨_, _, rfl, atI_snoc, ?_⟩
        kat_tups
        rename_i out ho1 ho2
        have ro := sub_ok ho1 (ho2 hp.gd.1) hp.gd
        refine ⟨by simp; omega, ?_⟩
        kat_tups
        exact ⟨rs ++ [r], out, _, List.mem_append.mpr (.inl hmem), hp.snoc ro, by simp; omega, by rw [List.map_append]; rfl⟩
      · rintro δ' ⟨rs, r, s2, hmem, hp, hb, rfl⟩
        simp only [List.length_nil] at hb
        kat_tups
        have e : rs.map rowL ++ [rowL r] = (rs ++ [r]).map rowL := by rw [List.map_append]; rfl
        rw [e]
        exact k _ (hp.ok (by simp; omega)) (by simp; omega) (gapsR_hole hmem hasc hole)
  kat_tups
  rw [List.length_map]
  refine ite_d (fun h3 => ?_) (fun h3 => ?_)
  · kat_tups
    refine ⟨.of_le (by omega) (by omega) (by omega) (by omega), ?_⟩
    have hpf := fixed_ps (2 + v).toNat
    rw [show (((2 + v).toNat : Nat) : Int) = 2 + v by omega] at hpf
    rw [show max (2 + v) 0 = 2 + v by omega]
    exact hq _ _ hpf (by unfold fixedR; rw [List.length_map, rgD_len]; omega) (by rw [rgD_len]; omega)
  · kat_tups
    exact hq _ _ ps0 (by omega) (by omega)
end
set_option Elab.async false
set_option linter.all false
set_option maxRecDepth 100000
set_option maxHeartbeats 4000000
section
/-! _law_gapless_plan, _law_rows -/
inductive cGaplessPlan : List D → (List D → Prop) → EK → Prop
  | mk {P : List D → Prop} {E : EK} (cells : List Int) (hl : cells.length ≤ 63) (most : Int) (h1 : most ≤ 12) (h2 : -100 ≤ most) (k : ∀ rows : List (List Int), GapPl most rows → P (rows.map rowL)) : cGaplessPlan [.sto cells, .int most] P E
inductive cRows0 : List D → (List D → Prop) → EK → Prop
  | mk {P : List D → Prop} {E : EK} (cells : List Int) (hl : cells.length ≤ 63) (most : Int) (h1 : most ≤ 12) (h2 : -100 ≤ most) (k : ∀ rows : List (List Int), PlanOk rows → (rows.length : Int) ≤ max most 0 → P (rows.map rowL)) : cRows0 [.sto cells, .int most] P E
inductive cCopy : List D → (List D → Prop) → EK → Prop
  | mk {P : List D → Prop} {E : EK} (rows : List (List Int)) (hl : rows.length ≤ 1000) (k : P (rows.map rowL)) : cCopy [.lst (rows.map rowL)] P E
end
set_option Elab.async false
set_option linter.all false
set_option maxRecDepth 100000
set_option maxHeartbeats 4000000
section
/-! of_places; the stops of a plan -/
def tabM (f : Nat → List Int) : MT := .ls ((List.range 12).map fun n => .fzs ((f n).map .int))
/-- the goods of the places of length n -/
def foundAt (ps : List (Int × Int)) (n : Nat) : List Int := (ps.filter fun p => decide (p.1 + p.2 = (n : Int))).map (·.1)
inductive cOfP (CP : Addr) : List D → (D → Prop) → EK → Prop
  | mk {P : D → Prop} {E : EK} (ps : List (Int × Int)) (rows : List (List Int)) (hr : PlanOk rows) (hl : ps.length ≤ 3000) (hm : ∀ p, p ∈ ps ↔ p ∈ goP rows) (k : P (plD CP rows)) : cOfP CP [.lst (ps.map plcD)] P E
end
set_option Elab.async false
set_option linter.all false
set_option maxRecDepth 100000
set_option maxHeartbeats 4000000
section
/-- the rows of a set of places of lengths below L -/
def rowsOf (M : Int → Int → Bool) (L : Nat) : List (List Int) := (List.range L).map fun n : Nat => (rgD 0 ((n : Int) + 1)).filter fun a => M a ((n : Int) - a)
structure SetOk (M : Int → Int → Bool) (L : Nat) : Prop where
  le : L ≤ 12
  bd : ∀ a b, M a b = true → 0 ≤ a ∧ 0 ≤ b ∧ a + b < L
  ne : ∀ n : Nat, n < L → ∃ a, M a ((n : Int) - a) = true
  pr : ∀ a b, M a b = true → (a = 0 ∧ b = 0) ∨ M (a - 1) b = true ∨ M a (b - 1) = true
theorem take_ok0 {rows : List (List Int)} (hr : PlanOk rows) (m : Nat) : PlanOk (rows.take m) := by
  refine ⟨Nat.le_trans (List.length_take_le' _ _) hr.1, ?_⟩
  have key : ∀ (rows : List (List Int)) (g : List Int) (m : Nat), Pl g rows → Pl g (rows.take m) := by
    intro rows
    induction rows with
    | nil => intro g m h; simpa using h
    | cons r rs ih =>
      intro g m h
      cases m with
      | zero => trivial
      | succ m => exact ⟨h.1, ih _ _ h.2⟩
  exact key _ _ _ hr.2
/-- the stops -/
def stopsP (rows : List (List Int)) : List (Int × Int) := (metR rows).zipIdx.flatMap fun x => (x.1.filter fun a => !decide (a ∈ (rows[x.2]?).getD [])).map fun a => (a, x.2 - a)
inductive cStops (CP : Addr) : List D → (D → Prop) → EK → Prop
  | mk {P : D → Prop} {E : EK} (rows : List (List Int)) (hr : PlanOk rows) (k : P (.lst ((stopsP rows).map plcD))) : cStops CP [plD CP rows] P E
end
set_option Elab.async false
set_option linter.all false
set_option maxRecDepth 100000
set_option maxHeartbeats 4000000
section
/-! small defs of the laws; tables of own lists -/
local macro_rules | `(tactic| kct_strs) => `(tactic| first | (with_reducible refine od_inP ?_) | (with_reducible refine od_ninP ?_) | (with_reducible refine od_eqP ?_) | (with_reducible refine od_neP ?_))
theorem rgD_split {m : Int} {d rest : List Int} {x : Int} {a : Int} (h : rgD a m = d ++ x :: rest) : x = a + d.length ∧ a + d.length < m := by
  have hl : (rgD a m).length = d.length + rest.length + 1 := by rw [h]; simp; omega
  rw [rgD_len] at hl
  have hd : d.length < (rgD a m).length := by rw [h]; simp
  have e := rgD_get hd
  have e2 : (rgD a m)[d.length]? = some x := by rw [h]; simp
  rw [List.getElem?_eq_getElem hd, e] at e2
  exact ⟨(Option.some.inj e2).symm, by omega⟩
theorem take_snoc {α : Type} {xs : List α} {n : Nat} {x : α} (h : xs[n]? = some x) : xs.take (n + 1) = xs.take n ++ [x] := by rw [List.take_add_one, h]; rfl
inductive cPick : List D → (D → Prop) → EK → Prop
  | mk {P : D → Prop} {E : EK} (cells : List Int) (hl : cells.length ≤ 63) (ds : List D) (hd : ds ≠ []) (hn : ds.length ≤ 1000) (k : ∀ d : D, d ∈ ds → P d) : cPick [.sto cells, .lst ds] P E
theorem mo_cPick : ∀ (ds : List D) (P P' : D → Prop) (E E' : EK), (∀ d, P d → P' d) → (∀ v ns es, E v ns es → E' v ns es) → cPick ds P E → cPick ds P' E' := by
  intro ds P P' E E' hp he h
  cases h with
  | mk cells hl ds hd hn k => exact .mk cells hl ds hd hn (by first | exact hp _ k | exact k.imp hp | (intros; apply hp; apply k <;> assumption))
abbrev S__law_pick : Scp := { N := ["store", "items"], sc := defScope (top 44), vs := [("store", 0), ("items", 1)], ss := [("store", 0), ("items", 1)], gl := ["_law_take", "len"], lv := 3 }
local macro_rules | `(tactic| lsm_bools) => `(tactic| first | refine cTake.mk _ (by first | assumption | omega | decide) _ (fun v hk1 hk2 => ?_))
theorem b__law_pick {U : Env1} (hB : Blt U ["len"]) (F__law_take : U.Def "_law_take" 3 [] cTake) (G H : Hp) (ds) (P) (E) (h : cPick ds P E) : JSs S__law_pick (U.cg G H fun _ => E) (defBody (top 44)) (startD S__law_pick.N ds) { nx := fun _ => P .non, rt := P } := by
  obtain ⟨cells, hl, ds, hd, hn, k⟩ := h
  have h0 : 0 < ds.length := List.length_pos_iff.mpr hd
  kat_tups
  rename_i v hv1 hv2
  have hv : v.toNat < ds.length := by omega
  refine ixd_lst (d := ds[v.toNat]) ?_ (k _ (List.getElem_mem _))
  unfold L2.atI ixN
  rw [if_pos hv1, if_pos (by omega)]
  simp [hv]
inductive cGo : List D → (D → Prop) → EK → Prop
  | mk {P : D → Prop} {E : EK} (rows : List (List Int)) (hr : PlanOk rows) (k : P (.lst ((goP rows).map plcD))) : cGo [.lst (rows.map rowL)] P E
/-- a table of L own lists -/
def tabL (L : Nat) (f : Nat → List Int) : MT := .ls ((List.range L).map fun n => .fzs ((f n).map .int))
theorem tabL_flat {L : Nat} {f : Nat → List Int} : (tabL L f).flat = .lst ((List.range L).map fun n => rowL (f n)) := by
  unfold tabL MT.flat
  rw [flatL_map, List.map_map]
  congr 1
  refine List.map_congr_left fun n _ => ?_
  exact flat_fzs
def rowAt (rows : List (List Int)) (n : Nat) : List Int := (rows[n]?).getD []
theorem tabL_rows {rows : List (List Int)} : MT.ls (rows.map fun r => MT.fzs (r.map .int)) = tabL rows.length (rowAt rows) := by
  unfold tabL
  congr 1
  refine List.ext_getElem (by simp) fun i h1 h2 => ?_
  have hi : i < rows.length := by simpa using h1
  simp [rowAt, List.getElem?_eq_getElem hi]
inductive cCopyM : List D → (MT → Prop) → EK → Prop
  | mk {P : MT → Prop} {E : EK} (rows : List (List Int)) (hl : rows.length ≤ 1000) (k : P (tabL rows.length (rowAt rows))) : cCopyM [.lst (rows.map rowL)] P E
theorem mo_cCopyM : ∀ (ds : List D) (P P' : MT → Prop) (E E' : EK), (∀ d, P d → P' d) → (∀ v ns es, E v ns es → E' v ns es) → cCopyM ds P E → cCopyM ds P' E' := by
  intro ds P P' E E' hp he h
  cases h with
  | mk rows hl k => exact .mk rows hl (by first | exact hp _ k | exact k.imp hp | (intros; apply hp; apply k <;> assumption))
abbrev S__law_copyM : Scp := { N := ["rows", "row"], sc := defScope (top 51), vs := [("rows", 0)], ss := [("rows", 0)], gl := [], lv := 1 }
local macro_rules | `(tactic| kcu_lt) => `(tactic| ((with_reducible show JM _ _ (Expr.ListComp _ _ _ _) _ _); first | refine jm_lc (S' := { N := S__law_copyM.N, sc := relS _ S__law_copyM.sc, vs := [("row", 1)], ss := [("row", 1)], gl := ["list"], lv := 1 }) (own := [("row", 1)]) (ok_B (by decide +kernel) (by decide +kernel) rfl rfl rfl (by decide +kernel)) ?_))
local macro_rules | `(tactic| k_offL) => `(tactic| ((with_reducible show JE _ _ (Expr.ListComp _ _ _ _) _ _); first | refine jf_je (jf_lc (S' := { N := S__law_copyM.N, sc := relS _ S__law_copyM.sc, vs := [("row", 1)], ss := [("row", 1)], gl := ["list"], lv := 1 }) (own := [("row", 1)]) (ok_B (by decide +kernel) (by decide +kernel) rfl rfl rfl (by decide +kernel)) ?_)))
theorem b__law_copyM {U : Env1} (hB : Blt U ["list"])  (G H : Hp) (ds) (P) (E) (h : cCopyM ds P E) : JSs S__law_copyM (U.cgF G H (fun _ => E) P) (defBody (top 51)) (startD S__law_copyM.N ds) { nx := fun _ => P (.fz .non), rt := fun d => P (.fz d) } := by
  obtain ⟨rows, hl, k⟩ := h
  kat_tups
  refine lcMM (fun r : List Int => .fzs (r.map .int)) src_map (by omega) ?_ ?_
  · intro r _
    kat_tups
    try rfl
  · rw [tabL_rows]
    exact k
end
set_option Elab.async false
set_option linter.all false
set_option maxRecDepth 100000
set_option maxHeartbeats 4000000
section
/-! the gaps, found pair by pair -/
theorem gapsR_snoc (rs : List (List Int)) (r : List Int) : gapsR (rs ++ [r]) = gapsR rs ++ gapsOf rs.length r := by
  unfold gapsR
  rw [List.zipIdx_append, List.flatMap_append]
  simp
def gapP (n : Int) (p : Int × Int) : Option (Int × Int × Int) := if p.1 + 2 ≤ p.2 then some (n, p.1, p.2) else none
theorem gapsOf_eq (n : Int) (r : List Int) : gapsOf n r = (r.zip r.tail).filterMap (gapP n) := rfl
theorem zip_at {r : List Int} {k : Nat} (h : k + 1 < r.length) : (r.zip r.tail)[k]? = some (r[k], r[k + 1]) := by
  rw [List.getElem?_zip_eq_some]
  refine ⟨List.getElem?_eq_getElem _, ?_⟩
  rw [List.getElem?_tail]
  exact List.getElem?_eq_getElem _
theorem zip_len (r : List Int) : (r.zip r.tail).length = r.length - 1 := by
  rw [List.length_zip, List.length_tail]
  omega
theorem gapsR_len {rows : List (List Int)} (hr : PlanOk rows) : (gapsR rows).length ≤ 144 := by
  have hl := hr.1
  unfold gapsR
  refine Nat.le_trans (flat_len (k := 12) fun x hx => ?_) ?_
  · have h1 := gapsOf_len x.2 x.1
    have := (Pl.mem hr (List.mem_of_getElem? (List.mk_mem_zipIdx_iff_getElem?.mp (show (x.1, x.2) ∈ _ from hx)))).len
    omega
  · rw [List.length_zipIdx]
    omega
inductive cLawGaps : List D → (D → Prop) → EK → Prop
  | mk {P : D → Prop} {E : EK} (rows : List (List Int)) (hr : PlanOk rows) (k : P (.lst ((gapsR rows).map gapD))) : cLawGaps [.lst (rows.map rowL)] P E
theorem mo_cLawGaps : ∀ (ds : List D) (P P' : D → Prop) (E E' : EK), (∀ d, P d → P' d) → (∀ v ns es, E v ns es → E' v ns es) → cLawGaps ds P E → cLawGaps ds P' E' := by
  intro ds P P' E E' hp he h
  cases h with
  | mk rows hr k => exact .mk rows hr (by first | exact hp _ k | exact k.imp hp | (intros; apply hp; apply k <;> assumption))
abbrev S__law_gaps : Scp := { N := ["rows", "out", "n", "k"], sc := defScope (top 50), vs := [("rows", 0), ("out", 1), ("n", 2), ("k", 3)], ss := [("rows", 0), ("out", 1), ("n", 2), ("k", 3)], gl := ["len", "range"], lv := 1 }
theorem b__law_gaps {U : Env1} (hB : Blt U ["range", "len"])  (G H : Hp) (ds) (P) (E) (h : cLawGaps ds P E) : JSs S__law_gaps (U.cg G H fun _ => E) (defBody (top 50)) (startD S__law_gaps.N ds) { nx := fun _ => P .non, rt := P } := by
  obtain ⟨rows, hr, k⟩ := h
  have hs : 5000 < sizeLine := by decide
  have hml : (rows.map rowL).length = rows.length := List.length_map _
  have a1 := hr.1
  kat_tups
  refine eachD (fun d rest δ' => ∃ s2 s3 : Sl, δ' = [.fz (.lst (rows.map rowL)), .ow ((gapsR (rows.take d.length)).map gapD), s2, s3]) src_rg1 ⟨_, _, rfl⟩ ?_ ?_
  · rintro d x rest δ' hx ⟨s2, s3, rfl⟩
    obtain ⟨e1, e2⟩ := rgD_split hx
    simp only [Int.zero_add] at e1 e2
    subst e1
    rw [hml] at e2
    have hd : d.length < rows.length := by omega
    have er := List.getElem?_eq_getElem hd
    have hg := hr.2.get gd0 er
    have hgl := hg.len
    have gl := gapsR_len (take_ok0 hr d.length)
    have atr : L2.atI (rows.map rowL) ((d.length : Nat) : Int) = some (rowL rows[d.length]) := by
      rw [atI_mapG (by omega) (by omega)]
      rfl
    generalize hw : rows[d.length] = r at *
    have zl := zip_len r
    have hrm : (r.map D.int).length = r.length := List.length_map _
    kat_tups
    refine ixd_lst atr ?_
    kat_tups
    refine eachD (fun d2 r2 δ' => ∃ s3 : Sl, δ' = [.fz (.lst (rows.map rowL)), .ow ((gapsR (rows.take d.length) ++ ((r.zip r.tail).take d2.length).filterMap (gapP d.length)).map gapD), .fz (.int (d.length : Nat)), s3]) src_rg ⟨_, by first | (rw [List.length_nil, List.take_zero, List.filterMap_nil, List.append_nil]; done) | (rw [List.length_nil, List.take_zero, List.filterMap_nil, List.append_nil]; rfl)⟩ ?_ ?_
    · rintro d2 y r2 δ' hx2 ⟨s3, rfl⟩
      obtain ⟨e3, e4⟩ := rgD_split hx2
      rw [hrm] at e4
      subst e3
      have h1 : d2.length + 1 < r.length := by omega
      have at1 : L2.atI (r.map D.int) (1 + (d2.length : Nat) : Int) = some (.int r[d2.length + 1]) := by
        have := atI_map (is := r) (i := d2.length + 1) h1
        rwa [show ((d2.length + 1 : Nat) : Int) = 1 + (d2.length : Nat) by omega] at this
      have at0 : L2.atI (r.map D.int) (1 + (d2.length : Nat) - 1 : Int) = some (.int (r[d2.length]'(by omega))) := by
        have := atI_map (is := r) (i := d2.length) (by omega)
        rwa [show ((d2.length : Nat) : Int) = 1 + (d2.length : Nat) - 1 by omega] at this
      have ez := zip_at h1
      have e5 : ((r.zip r.tail).take (d2.length + 1)).filterMap (gapP d.length) = ((r.zip r.tail).take d2.length).filterMap (gapP d.length) ++ (if r[d2.length]'(by omega) + 2 ≤ r[d2.length + 1] then [((d.length : Int), r[d2.length]'(by omega), r[d2.length + 1])] else []) := by
        rw [take_snoc ez, List.filterMap_append]
        congr 1
        unfold gapP
        by_cases q : r[d2.length]'(by omega) + 2 ≤ r[d2.length + 1]
        · simp [q]
        · simp [q]
      have fl : (((r.zip r.tail).take d2.length).filterMap (gapP d.length)).length ≤ 20 := by
        refine Nat.le_trans (List.length_filterMap_le _ _) ?_
        rw [List.length_take]
        omega
      rw [List.length_append, List.length_singleton, e5]
      kat_tups
      refine ixd_lst atr ?_
      kat_tups
      refine ixd_lst at1 ?_
      kat_tups
      refine ixd_lst atr ?_
      kat_tups
      refine ixd_lst at0 ?_
      kat_tups
      refine ite_d (fun c => ?_) (fun c => ?_)
      · kat_tups
        refine ixd_lst atr ?_
        kat_tups
        refine ixd_lst at0 ?_
        kat_tups
        refine ixd_lst atr ?_
        kat_tups
        refine ixd_lst at1 ?_
        kat_tups
        refine ⟨by rw [List.length_map, List.length_append]; omega, .fz (.int (1 + (d2.length : Nat))), ?_⟩
        rw [if_pos (by omega), ← List.append_assoc, List.map_append (l₂ := [_])]
        rfl
      · kat_tups
        refine ⟨.fz (.int (1 + (d2.length : Nat))), ?_⟩
        rw [if_neg (by omega), List.append_nil]
        rfl
    · rintro δ' ⟨s3, rfl⟩
      refine ⟨.fz (.int (d.length : Nat)), s3, ?_⟩
      rw [List.length_append, List.length_singleton, take_snoc er, gapsR_snoc, List.length_take, Nat.min_eq_left (by omega), gapsOf_eq, rgD_len, hrm, List.take_of_length_le (l := r.zip r.tail) (by omega)]
  · rintro δ' ⟨s2, s3, rfl⟩
    rw [rgD_len, hml, List.take_of_length_le (by omega)]
    kat_tups
    try exact k
end
set_option Elab.async false
set_option linter.all false
set_option maxRecDepth 100000
set_option maxHeartbeats 4000000
section
/-! the list of the gapless plans: plain law -/
/-- w(k, m) -/
def gwI : Nat → Int → Int
  | 0, _ => 1
  | k + 1, m => ((rgD 1 (m + 1)).map fun l => (m - l + 1) * gwI k (l + 1)).sum
def runsL (f l : Int) : List (Int × Int) := (rgD f (l + 1)).flatMap fun lo => (rgD lo (l + 1)).map fun hi => (lo, hi)
def wz (k : Nat) (r : Int × Int) : Int := gwI k (r.2 - r.1 + 2)
def pk (w : Int × Int → Int) : List (Int × Int) → Int → Option ((Int × Int) × Int)
  | [], _ => none
  | r :: rs, t => if t < w r then some (r, t) else pk w rs (t - w r)
def unr : Nat → Int → Int → Int → List (List Int)
  | 0, _, _, _ => []
  | k + 1, f, l, t => match pk (wz k) (runsL f l) t with
    | some (r, t') => rgD r.1 (r.2 + 1) :: unr k r.1 (r.2 + 1) t'
    | none => []
def ltP (a b : Int × Int) : Prop := a.1 < b.1 ∨ (a.1 = b.1 ∧ a.2 < b.2)
instance (a b : Int × Int) : Decidable (ltP a b) := inferInstanceAs (Decidable (_ ∨ _))
def ends (r : List Int) : Int × Int := (r.headD 0, r.getLastD 0)
def rnk : List (List Int) → Int → Int → Int
  | [], _, _ => 0
  | r :: rs, f, l => (((runsL f l).filter fun q => decide (ltP q (ends r))).map (wz rs.length)).sum + rnk rs (ends r).1 ((ends r).2 + 1)
theorem sum_nn : ∀ {xs : List Int}, (∀ x ∈ xs, 0 ≤ x) → 0 ≤ xs.sum
  | [], _ => by simp
  | a :: xs, h => by
    have h1 := sum_nn (xs := xs) fun x hx => h x (.tail _ hx)
    have h2 := h a (.head _)
    rw [List.sum_cons]
    omega
theorem gwI_nn : ∀ (k : Nat) (m : Int), 0 ≤ gwI k m
  | 0, _ => by unfold gwI; decide
  | k + 1, m => by
    unfold gwI
    refine sum_nn fun x hx => ?_
    obtain ⟨l, hl, rfl⟩ := List.mem_map.mp hx
    have := rgD_mem.mp hl
    exact Int.mul_nonneg (by omega) (gwI_nn k _)
theorem wz_nn (k : Nat) (r : Int × Int) : 0 ≤ wz k r := gwI_nn _ _
theorem runsL_mem {f l : Int} {r : Int × Int} : r ∈ runsL f l ↔ f ≤ r.1 ∧ r.1 ≤ r.2 ∧ r.2 ≤ l := by
  unfold runsL
  simp only [List.mem_flatMap, List.mem_map, rgD_mem]
  constructor
  · rintro ⟨lo, h1, hi, h2, rfl⟩
    dsimp only
    omega
  · intro h
    exact ⟨r.1, by omega, r.2, by omega, rfl⟩
theorem rgD_cons {a b : Int} (h : a < b) : rgD a b = a :: rgD (a + 1) b := by
  refine asc_ext rgD_asc (List.pairwise_cons.mpr ⟨fun x hx => ?_, rgD_asc⟩) fun x => ?_
  · have := rgD_mem.mp hx
    omega
  · rw [List.mem_cons, rgD_mem, rgD_mem]
    omega
theorem rgD_snoc {a b : Int} (h : a ≤ b) : rgD a (b + 1) = rgD a b ++ [b] := by
  refine asc_ext rgD_asc (List.pairwise_append.mpr ⟨rgD_asc, by simp, fun x hx y hy => ?_⟩) fun x => ?_
  · have := rgD_mem.mp hx
    have := List.mem_singleton.mp hy
    omega
  · rw [List.mem_append, rgD_mem, rgD_mem, List.mem_singleton]
    omega
theorem rgD_nil {a b : Int} (h : b ≤ a) : rgD a b = [] := by
  rw [← List.length_eq_zero_iff, rgD_len]
  omega
theorem sum_app {xs ys : List Int} : (xs ++ ys).sum = xs.sum + ys.sum := by
  induction xs with
  | nil => simp
  | cons a xs ih =>
    rw [List.cons_append, List.sum_cons, List.sum_cons, ih]
    omega
theorem sum_add {α : Type} {f g : α → Int} : ∀ {xs : List α}, (xs.map fun x => f x + g x).sum = (xs.map f).sum + (xs.map g).sum
  | [] => by simp
  | a :: xs => by
    simp only [List.map_cons, List.sum_cons]
    rw [sum_add (xs := xs)]
    omega
/-- sum of c over the runs of one low end -/
theorem rgD_shift {a b d : Int} : rgD (a + d) (b + d) = (rgD a b).map (· + d) := by
  refine List.ext_getElem (by rw [List.length_map, rgD_len, rgD_len]; omega) fun i h1 h2 => ?_
  rw [List.getElem_map, rgD_get, rgD_get]
  omega
theorem sum_runs (c : Int → Int) (f : Int) : ∀ (m : Nat), ((runsL f (f + m - 1)).map fun r => c (r.2 - r.1 + 2)).sum = ((rgD 1 (m + 1)).map fun l => ((m : Int) - l + 1) * c (l + 1)).sum := by
  intro m
  induction m generalizing f with
  | zero =>
    have e1 : runsL f (f + ((0 : Nat) : Int) - 1) = [] := by
      unfold runsL
      rw [rgD_nil (by omega)]
      rfl
    rw [e1, rgD_nil (by omega)]
    rfl
  | succ m ih =>
    have e1 : runsL f (f + ((m + 1 : Nat) : Int) - 1) = ((rgD f (f + ((m + 1 : Nat) : Int) - 1 + 1)).map fun hi => (f, hi)) ++ runsL (f + 1) (f + 1 + (m : Int) - 1) := by
      rw [show f + 1 + (m : Int) - 1 = f + ((m + 1 : Nat) : Int) - 1 by omega]
      unfold runsL
      rw [rgD_cons (a := f) (b := f + ((m + 1 : Nat) : Int) - 1 + 1) (by omega), List.flatMap_cons]
      rw [← rgD_cons (a := f) (b := f + ((m + 1 : Nat) : Int) - 1 + 1) (by omega)]
    rw [e1, List.map_append, sum_app, ih (f + 1), List.map_map]
    have e2 : rgD f (f + ((m + 1 : Nat) : Int) - 1 + 1) = (rgD 1 ((m + 1 : Nat) + 1)).map (· + (f - 1)) := by
      rw [← rgD_shift]
      congr 1 <;> omega
    rw [e2, List.map_map]
    have e3 : rgD 1 (((m + 1 : Nat) : Int) + 1) = rgD 1 ((m : Int) + 1) ++ [((m + 1 : Nat) : Int)] := by
      have := rgD_snoc (a := 1) (b := ((m + 1 : Nat) : Int)) (by omega)
      rw [this]
      congr 1
    have e4 : ((rgD 1 ((m : Int) + 1)).map fun l => (((m + 1 : Nat) : Int) - l + 1) * c (l + 1)) = (rgD 1 ((m : Int) + 1)).map fun l => c (l + 1) + ((m : Int) - l + 1) * c (l + 1) := by
      refine List.map_congr_left fun l _ => ?_
      rw [show (((m + 1 : Nat) : Int) - l + 1) = 1 + ((m : Int) - l + 1) by omega, Int.add_mul, Int.one_mul]
    rw [e3, List.map_append, List.map_append, sum_app, sum_app, e4, sum_add]
    simp only [List.map_cons, List.map_nil, List.sum_cons, List.sum_nil, Function.comp_def]
    have e5 : ((rgD 1 ((m : Int) + 1)).map fun l => c (l + (f - 1) - f + 2)) = (rgD 1 ((m : Int) + 1)).map fun l => c (l + 1) := List.map_congr_left fun l _ => by rw [show l + (f - 1) - f + 2 = l + 1 by omega]
    rw [e5, show ((m + 1 : Nat) : Int) + (f - 1) - f + 2 = ((m + 1 : Nat) : Int) + 1 by omega, show ((m + 1 : Nat) : Int) - ((m + 1 : Nat) : Int) + 1 = 1 by omega, Int.one_mul]
    omega
theorem sum_wz (k : Nat) {f l : Int} (h : f ≤ l + 1) : ((runsL f l).map (wz k)).sum = gwI (k + 1) (l - f + 1) := by
  obtain ⟨m, hm⟩ := Int.eq_ofNat_of_zero_le (show 0 ≤ l - f + 1 by omega)
  have := sum_runs (gwI k) f m
  rw [show f + (m : Int) - 1 = l by omega] at this
  have e : gwI (k + 1) (l - f + 1) = ((rgD 1 ((m : Int) + 1)).map fun l => ((m : Int) - l + 1) * gwI k (l + 1)).sum := by
    rw [hm]
    rfl
  rw [e, ← this]
  rfl
theorem pk_some {w : Int × Int → Int} : ∀ {rs : List (Int × Int)} {t : Int}, 0 ≤ t → t < (rs.map w).sum → ∃ r t', pk w rs t = some (r, t') ∧ r ∈ rs ∧ 0 ≤ t' ∧ t' < w r
  | [], t, h0, h => by simp at h; omega
  | r :: rs, t, h0, h => by
    unfold pk
    by_cases q : t < w r
    · rw [if_pos q]
      exact ⟨r, t, rfl, .head _, h0, q⟩
    · rw [if_neg q]
      rw [List.map_cons, List.sum_cons] at h
      obtain ⟨x, t', e, m, a, b⟩ := pk_some (w := w) (rs := rs) (t := t - w r) (by omega) (by omega)
      exact ⟨x, t', e, .tail _ m, a, b⟩
theorem pk_lt {w : Int × Int → Int} (hw : ∀ r, 0 ≤ w r) : ∀ {rs : List (Int × Int)} {t : Int} {z : (Int × Int) × Int}, pk w rs t = some z → t < (rs.map w).sum
  | [], t, z, h => by cases h
  | r :: rs, t, z, h => by
    unfold pk at h
    rw [List.map_cons, List.sum_cons]
    have hn : 0 ≤ (rs.map w).sum := sum_nn fun x hx => by
      obtain ⟨y, _, rfl⟩ := List.mem_map.mp hx
      exact hw y
    by_cases q : t < w r
    · omega
    · rw [if_neg q] at h
      have := pk_lt hw h
      omega
theorem ltP_irr {a : Int × Int} : ¬ ltP a a := by unfold ltP; omega
theorem ltP_asy {a b : Int × Int} (h : ltP a b) : ¬ ltP b a := by unfold ltP at *; omega
theorem pk_at {w : Int × Int → Int} (hw : ∀ r, 0 ≤ w r) : ∀ {rs : List (Int × Int)} {x : Int × Int} {t : Int}, rs.Pairwise ltP → x ∈ rs → 0 ≤ t → t < w x → pk w rs (((rs.filter fun q => decide (ltP q x)).map w).sum + t) = some (x, t)
  | [], x, t, _, h, _, _ => by cases h
  | y :: rs, x, t, hs, hx, h0, ht => by
    have h1 := List.pairwise_cons.mp hs
    unfold pk
    by_cases e : x = y
    · subst e
      have ef : (x :: rs).filter (fun q => decide (ltP q x)) = [] := by
        rw [List.filter_eq_nil_iff]
        intro q hq
        rcases List.mem_cons.mp hq with rfl | hq
        · simp [ltP_irr]
        · simp [ltP_asy (h1.1 q hq)]
      rw [ef, List.map_nil, List.sum_nil, Int.zero_add, if_pos ht]
    · have hx2 : x ∈ rs := by
        rcases List.mem_cons.mp hx with q | q
        · exact absurd q e
        · exact q
      have hy := h1.1 x hx2
      have hn : 0 ≤ ((rs.filter fun q => decide (ltP q x)).map w).sum := sum_nn fun z hz => by
        obtain ⟨y, _, rfl⟩ := List.mem_map.mp hz
        exact hw y
      rw [List.filter_cons_of_pos (by simpa using hy), List.map_cons, List.sum_cons, if_neg (by omega), show w y + ((rs.filter fun q => decide (ltP q x)).map w).sum + t - w y = ((rs.filter fun q => decide (ltP q x)).map w).sum + t by omega]
      exact pk_at hw h1.2 hx2 h0 ht
theorem runsL_sorted (f l : Int) : (runsL f l).Pairwise ltP := by
  unfold runsL
  rw [List.pairwise_flatMap]
  refine ⟨fun a _ => ?_, ?_⟩
  · rw [List.pairwise_map]
    exact (rgD_asc (a := a) (b := l + 1)).imp fun {x y} h => Or.inr ⟨rfl, h⟩
  · refine (rgD_asc (a := f) (b := l + 1)).imp fun {x y} h p hp q hq => ?_
    obtain ⟨_, _, rfl⟩ := List.mem_map.mp hp
    obtain ⟨_, _, rfl⟩ := List.mem_map.mp hq
    exact Or.inl h
/-- the rows made from a number -/
structure UnrOk (k : Nat) (f l t : Int) (rs : List (List Int)) : Prop where
  len : rs.length = k
  pl : Pl (rgD f (l + 1)) rs
  runs : Runs rs
theorem unr_ok : ∀ {k : Nat} {f l t : Int}, f ≤ l → 0 ≤ t → t < gwI k (l - f + 1) → UnrOk k f l t (unr k f l t)
  | 0, f, l, t, _, _, _ => ⟨rfl, trivial, runs_nil⟩
  | k + 1, f, l, t, h, h0, h1 => by
    rw [← sum_wz k (by omega)] at h1
    obtain ⟨r, t', e, m, a, b⟩ := pk_some h0 h1
    have hm := runsL_mem.mp m
    have eu : unr (k + 1) f l t = rgD r.1 (r.2 + 1) :: unr k r.1 (r.2 + 1) t' := by
      rw [unr, e]
    rw [eu]
    have ih := unr_ok (k := k) (f := r.1) (l := r.2 + 1) (t := t') (by omega) a (by
      rw [show r.2 + 1 - r.1 + 1 = r.2 - r.1 + 2 by omega]
      exact b)
    refine ⟨by rw [List.length_cons, ih.len], ⟨⟨rgD_ne.mpr (by omega), rgD_asc, fun x hx => ?_⟩, ?_⟩, fun x hx => ?_⟩
    · rw [rgD_mem] at *
      omega
    · rw [nx_rgD (by omega)]
      exact ih.pl
    · rcases List.mem_cons.mp hx with rfl | q
      · exact fillRow_rgD (by omega)
      · exact ih.runs x q
theorem unr_plan {n : Nat} {t : Int} (hn : n ≤ 12) (h0 : 0 ≤ t) (h1 : t < gwI n 1) : PlanOk (unr n 0 0 t) ∧ Runs (unr n 0 0 t) ∧ (unr n 0 0 t).length = n := by
  have := unr_ok (k := n) (f := 0) (l := 0) (Int.le_refl _) h0 h1
  exact ⟨⟨by rw [this.len]; exact hn, this.pl⟩, this.runs, this.len⟩
/-- a run row among reached goods -/
theorem row_ends {f l : Int} {r : List Int} (h : RowOk r (rgD f (l + 1))) (hr : fillRow r = r) : f ≤ (ends r).1 ∧ (ends r).1 ≤ (ends r).2 ∧ (ends r).2 ≤ l ∧ r = rgD (ends r).1 ((ends r).2 + 1) := by
  have h1 := rgD_mem.mp (h.2.2 _ (headD_mem h.1))
  have h2 := rgD_mem.mp (h.2.2 _ (getLastD_mem h.1))
  have h3 := headD_le h.2.1 (getLastD_mem h.1)
  exact ⟨h1.1, h3, by show r.getLastD 0 ≤ l; omega, hr.symm⟩
theorem rnk_ok : ∀ {rs : List (List Int)} {f l : Int}, Pl (rgD f (l + 1)) rs → Runs rs → 0 ≤ rnk rs f l ∧ (rs = [] ∨ rnk rs f l < gwI rs.length (l - f + 1)) ∧ unr rs.length f l (rnk rs f l) = rs
  | [], f, l, _, _ => ⟨Int.le_refl _, .inl rfl, rfl⟩
  | r :: rs, f, l, h, hr => by
    obtain ⟨a1, a2, a3, a4⟩ := row_ends h.1 (hr r (.head _))
    have hp : Pl (rgD (ends r).1 ((ends r).2 + 1 + 1)) rs := by
      have := h.2
      rw [a4, nx_rgD (by omega)] at this
      exact this
    have ih := rnk_ok hp fun x hx => hr x (.tail _ hx)
    have ht : rnk rs (ends r).1 ((ends r).2 + 1) < wz rs.length (ends r) := by
      rcases ih.2.1 with q | q
      · subst q
        show (0 : Int) < 1
        decide
      · unfold wz
        rw [show (ends r).2 - (ends r).1 + 2 = (ends r).2 + 1 - (ends r).1 + 1 by omega]
        exact q
    have hk := pk_at (wz_nn rs.length) (runsL_sorted f l) (runsL_mem.mpr ⟨a1, a2, a3⟩) ih.1 ht
    have hn : 0 ≤ (((runsL f l).filter fun q => decide (ltP q (ends r))).map (wz rs.length)).sum := sum_nn fun z hz => by
      obtain ⟨y, _, rfl⟩ := List.mem_map.mp hz
      exact wz_nn _ y
    refine ⟨by unfold rnk; have := ih.1; omega, .inr ?_, ?_⟩
    · have := pk_lt (wz_nn rs.length) hk
      rw [sum_wz rs.length (by omega)] at this
      exact this
    · show unr (rs.length + 1) f l (rnk (r :: rs) f l) = r :: rs
      have eu : unr (rs.length + 1) f l (rnk (r :: rs) f l) = rgD (ends r).1 ((ends r).2 + 1) :: unr rs.length (ends r).1 ((ends r).2 + 1) (rnk rs (ends r).1 ((ends r).2 + 1)) := by
        rw [unr, rnk, hk]
      rw [eu, ih.2.2, ← a4]
theorem rnk_plan {rows : List (List Int)} (h : PlanOk rows) (hr : Runs rows) : 0 ≤ rnk rows 0 0 ∧ rnk rows 0 0 < gwI rows.length 1 ∧ unr rows.length 0 0 (rnk rows 0 0) = rows := by
  have := rnk_ok (rs := rows) (f := 0) (l := 0) h.2 hr
  refine ⟨this.1, ?_, this.2.2⟩
  rcases this.2.1 with q | q
  · subst q
    show (0 : Int) < 1
    decide
  · exact q
end
set_option Elab.async false
set_option linter.all false
set_option maxRecDepth 100000
set_option maxHeartbeats 4000000
section
/-! the counts, the runs: the program's and the law's -/
local macro_rules | `(tactic| kct_strs) => `(tactic| first | (with_reducible refine od_ltP ?_) | ((with_reducible show OpD _ _ (binaryOp Operator.Mult) (D.lst _) (D.int _) _); refine of_od (of_rep (by omega) (by omega) (by simp only [List.length_cons, List.length_nil]; omega) ?_)))
def wRow (k : Nat) (a : Int) : D := .lst ((rgD 0 a).map fun m => .int (gwI k m))
def wTab (a : Int) (n : Nat) : List D := (List.range n).map fun (k : Nat) => wRow k (a - (k : Int))
theorem wTab_len {a : Int} {n : Nat} : (wTab a n).length = n := by unfold wTab; rw [List.length_map, List.length_range]
theorem wTab_at {a : Int} {n : Nat} {i : Int} (h0 : 0 ≤ i) (h1 : i < n) : L2.atI (wTab a n) i = some (wRow i.toNat (a - i)) := by
  unfold wTab
  rw [atI_mapG h0 (by rw [List.length_range]; omega), List.getElem_range, show ((i.toNat : Nat) : Int) = i by omega]
theorem wRow_at {k : Nat} {a m : Int} (h0 : 0 ≤ m) (h1 : m < a) : L2.atI ((rgD 0 a).map fun m => D.int (gwI k m)) m = some (.int (gwI k m)) := by
  rw [atI_mapG h0 (by rw [rgD_len]; omega), rgD_get, show (0 : Int) + ((m.toNat : Nat) : Int) = m by omega]
theorem wTab_snoc {a : Int} {n : Nat} : wTab a (n + 1) = wTab a n ++ [wRow n (a - n)] := by
  unfold wTab
  rw [List.range_succ, List.map_append]
  rfl
theorem rep_one {a : Int} : (List.replicate a.toNat [D.int 1]).flatten = (rgD 0 a).map fun m => D.int (gwI 0 m) := by
  refine List.ext_getElem ?_ fun i h1 h2 => ?_
  · rw [List.length_map, rgD_len]
    simp
  · rw [List.getElem_map]
    have e : (List.replicate a.toNat [D.int 1]).flatten = List.replicate a.toNat (D.int 1) := by
      induction a.toNat with
      | zero => rfl
      | succ n ih => rw [List.replicate_succ, List.flatten_cons, ih, List.replicate_succ]; rfl
    simp only [e, List.getElem_replicate]
    rfl
theorem sum_le {B : Int} : ∀ {xs : List Int}, (∀ x ∈ xs, x ≤ B) → xs.sum ≤ B * xs.length
  | [], _ => by simp
  | a :: xs, h => by
    have h1 := sum_le (xs := xs) fun x hx => h x (.tail _ hx)
    have h2 := h a (.head _)
    rw [List.sum_cons, List.length_cons, Int.natCast_add, Int.mul_add]
    simp only [Int.natCast_one, Int.mul_one]
    omega
theorem gwI_le : ∀ (k : Nat) (m : Int), m + k ≤ 15 → gwI k m ≤ 225 ^ k
  | 0, _, _ => by unfold gwI; decide
  | k + 1, m, h => by
    unfold gwI
    have hb : (0 : Int) ≤ 225 ^ k := Int.pow_nonneg (by decide)
    refine Int.le_trans (sum_le (B := 15 * 225 ^ k) fun x hx => ?_) ?_
    · obtain ⟨l, hl, rfl⟩ := List.mem_map.mp hx
      have hl := rgD_mem.mp hl
      have h1 := gwI_le k (l + 1) (by omega)
      have h2 := gwI_nn k (l + 1)
      exact Int.mul_le_mul (by omega) h1 h2 (by decide)
    · rw [List.length_map, rgD_len, Int.pow_succ, Int.mul_comm 15, Int.mul_assoc]
      exact Int.mul_le_mul_of_nonneg_left (by omega) hb
theorem tol_w {n : Nat} (h : n ≤ 12) : TolD (.int (gwI n 1)) := by
  refine tolI ?_
  have h1 := gwI_le n 1 (by omega)
  have h2 := gwI_nn n 1
  have h3 : (225 : Int) ^ n ≤ 225 ^ 12 := by
    have : (225 : Nat) ^ n ≤ 225 ^ 12 := Nat.pow_le_pow_right (by decide) h
    exact_mod_cast this
  have h4 : (gwI n 1).natAbs ≤ 225 ^ 12 := by
    have : ((gwI n 1).natAbs : Int) ≤ ((225 ^ 12 : Nat) : Int) := by
      rw [Int.natAbs_of_nonneg h2]
      exact Int.le_trans h1 (by exact_mod_cast h3)
    exact_mod_cast this
  by_cases h0 : (gwI n 1).natAbs = 0
  · rw [h0]
    decide
  · have h5 : (gwI n 1).natAbs.log2 < 100 := (Nat.log2_lt h0).mpr (Nat.lt_of_le_of_lt h4 (by decide +kernel))
    exact Nat.lt_trans h5 (by decide)
theorem wTab_one {a : Int} : wTab a 1 = [.lst ((rgD 0 a).map fun m => D.int (gwI 0 m))] := by simp [wTab, wRow]
theorem map_int {α : Type} {f : α → Int} {xs : List α} : (xs.map fun x => D.int (f x)) = (xs.map f).map D.int := by rw [List.map_map]; rfl
theorem cd_sumM {S : Scp} {Γ : Cg} {P : D → Prop} [Calm Γ] {α : Type} {f : α → Int} {xs : List α} (h : P (.int (xs.map f).sum)) : CallD S Γ (.builtin "sum") [.lst (xs.map fun x => D.int (f x))] P := by
  rw [map_int]
  exact cd_sumL h
inductive cWayC : List D → (List D → Prop) → EK → Prop
  | mk {P : List D → Prop} {E : EK} (n : Nat) (hn : n ≤ 12) (k : P (wTab (n + 2) (n + 1))) : cWayC [.int n] P E
theorem mo_cWayC : ∀ (ds : List D) (P P' : List D → Prop) (E E' : EK), (∀ d, P d → P' d) → (∀ v ns es, E v ns es → E' v ns es) → cWayC ds P E → cWayC ds P' E' := by
  intro ds P P' E E' hp he h
  cases h with
  | mk n hn k => exact .mk n hn (by first | exact hp _ k | exact k.imp hp | (intros; apply hp; apply k <;> assumption))
abbrev S_way_counts : Scp := { N := ["n", "counts", "k", "before", "m", "wide"], sc := defScope (top 33), vs := [("n", 0), ("counts", 1), ("k", 2), ("before", 3)], ss := [("n", 0), ("counts", 1), ("k", 2), ("before", 3)], gl := ["range"], lv := 1 }
local macro_rules | `(tactic| nest_fact) => `(tactic| ((with_reducible show JF _ _ (Expr.ListComp _ _ _ _) _ _); first | refine jf_lc (S' := { N := S_way_counts.N, sc := relS _ S_way_counts.sc, vs := [("m", 4), ("before", 3)], ss := [("m", 4)], gl := ["range", "sum"], lv := 1 }) (own := [("m", 4)]) (ok_B (by decide +kernel) (by decide +kernel) rfl rfl rfl (by decide +kernel)) ?_ | refine jf_lc (S' := { N := S_way_counts.N, sc := relS _ S_way_counts.sc, vs := [("wide", 5), ("before", 3), ("m", 4)], ss := [("wide", 5)], gl := [], lv := 1 }) (own := [("wide", 5)]) (ok_B (by decide +kernel) (by decide +kernel) rfl rfl rfl (by decide +kernel)) ?_))
local macro_rules | `(tactic| k_offL) => `(tactic| ((with_reducible show JE _ _ (Expr.ListComp _ _ _ _) _ _); first | refine jf_je (jf_lc (S' := { N := S_way_counts.N, sc := relS _ S_way_counts.sc, vs := [("m", 4), ("before", 3)], ss := [("m", 4)], gl := ["range", "sum"], lv := 1 }) (own := [("m", 4)]) (ok_B (by decide +kernel) (by decide +kernel) rfl rfl rfl (by decide +kernel)) ?_) | refine jf_je (jf_lc (S' := { N := S_way_counts.N, sc := relS _ S_way_counts.sc, vs := [("wide", 5), ("before", 3), ("m", 4)], ss := [("wide", 5)], gl := [], lv := 1 }) (own := [("wide", 5)]) (ok_B (by decide +kernel) (by decide +kernel) rfl rfl rfl (by decide +kernel)) ?_)))
theorem b_way_counts {U : Env1} (hB : Blt U ["range", "sum"])  (G H : Hp) (ds) (P) (E) (h : cWayC ds P E) : JSs S_way_counts (U.cgF G H (fun _ => E) (RfL P)) (defBody (top 33)) (startD S_way_counts.N ds) { nx := fun _ => False, rt := fun _ => False } := by
  obtain ⟨n, hn, k⟩ := h
  have hs : 5000 < sizeLine := by decide
  kat_tups
  rw [rep_one, ← wTab_one]
  refine eachD (fun d rest δ' => ∃ s2 s3 s4 s5 : Sl, δ' = [.fz (.int n), .ow (wTab (n + 2) (d.length + 1)), s2, s3, s4, s5]) src_rg ⟨_, _, _, _, rfl⟩ ?_ ?_
  · rintro d x rest δ' hx ⟨s2, s3, s4, s5, rfl⟩
    obtain ⟨e1, e2⟩ := rgD_split hx
    subst e1
    have wl := wTab_len (a := (n : Int) + 2) (n := d.length + 1)
    have wa : L2.atI (wTab ((n : Int) + 2) (d.length + 1)) (1 + (d.length : Int) - 1) = some (.lst ((rgD 0 ((n : Int) + 2 - d.length)).map fun m => D.int (gwI d.length m))) := by
      rw [wTab_at (by omega) (by omega), show 1 + (d.length : Int) - 1 = d.length by omega]
      rfl
    have es : wTab ((n : Int) + 2) (d.length + 1 + 1) = wTab ((n : Int) + 2) (d.length + 1) ++ [D.lst (List.map (fun m => D.int (gwI (d.length + 1) m)) (rgD 0 ((n : Int) + 2 - (1 + d.length))))] := by
      rw [wTab_snoc]
      unfold wRow
      rw [show ((d.length + 1 : Nat) : Int) = 1 + d.length by omega]
    rw [List.length_append, List.length_singleton, es]
    kat_tups
    refine ⟨_, _, rfl, wa, ?_⟩
    kat_tups
    refine lcM (fun m : Int => .int (gwI (d.length + 1) m)) (src_rg1 (b := (n : Int) + 2 - (1 + d.length))) (by rw [rgD_len]; omega) ?_ ?_
    · intro m hm
      have hm := rgD_mem.mp hm
      kat_tups
      refine jf_je (jf_lc (S' := { N := S_way_counts.N, sc := relS _ (relS _ S_way_counts.sc), vs := [("wide", 5), ("m", 4), ("before", 3)], ss := [("wide", 5)], gl := [], lv := 1 }) (own := [("wide", 5)]) (ok_B (by decide +kernel) (by decide +kernel) rfl rfl rfl (by decide +kernel)) ?_)
      kat_tups
      refine lcM (fun l : Int => .int ((m - l + 1) * gwI d.length (l + 1))) (src_rg (a := 1) (b := m + 1)) (by rw [rgD_len]; omega) ?_ ?_
      · intro l hl
        have hl := rgD_mem.mp hl
        kat_tups
        refine ixd_lst (wRow_at (by omega) (by omega)) ?_
        kat_tups
        try rfl
      · kat_tups
        refine cd_sumM ?_
        try rfl
    · kat_tups
      try exact ⟨_, _, _, _, rfl⟩
  · rintro δ' ⟨s2, s3, s4, s5, rfl⟩
    kat_tups
    rw [show (rgD 1 ((n : Int) + 1)).length + 1 = n + 1 by rw [rgD_len]; omega]
    try exact k
inductive cRunC : List D → (D → Prop) → EK → Prop
  | mk {P : D → Prop} {E : EK} (f l : Int) (h1 : 0 ≤ f) (h3 : f ≤ 20) (h4 : -1 ≤ l) (h2 : l ≤ 20) (k : P (.lst ((runsL f l).map plcD))) : cRunC [.int f, .int l] P E
theorem mo_cRunC : ∀ (ds : List D) (P P' : D → Prop) (E E' : EK), (∀ d, P d → P' d) → (∀ v ns es, E v ns es → E' v ns es) → cRunC ds P E → cRunC ds P' E' := by
  intro ds P P' E E' hp he h
  cases h with
  | mk f l h1 h3 h4 h2 k => exact .mk f l h1 h3 h4 h2 (by first | exact hp _ k | exact k.imp hp | (intros; apply hp; apply k <;> assumption))
theorem runsL_len {f l : Int} (h1 : 0 ≤ f) (h2 : l ≤ 20) : (runsL f l).length ≤ 441 := by
  unfold runsL
  refine Nat.le_trans (flat_len (k := 21) fun x hx => ?_) ?_
  · have := rgD_mem.mp hx
    rw [List.length_map, rgD_len]
    omega
  · rw [rgD_len]
    omega
theorem runsL_map {f l : Int} : ((rgD f (l + 1)).flatMap fun lo => (rgD lo (l + 1)).map fun hi => plcD (lo, hi)) = (runsL f l).map plcD := by
  unfold runsL
  rw [List.map_flatMap]
  simp only [List.map_map]
  rfl
abbrev S_run_choices : Scp := { N := ["first", "last", "lo", "hi"], sc := defScope (top 35), vs := [("first", 0), ("last", 1)], ss := [("first", 0), ("last", 1)], gl := ["range"], lv := 1 }
local macro_rules | `(tactic| k_offL) => `(tactic| ((with_reducible show JE _ _ (Expr.ListComp _ _ _ _) _ _); first | refine jf_je (jf_lc2 (S' := { N := S_run_choices.N, sc := relS _ S_run_choices.sc, vs := [("lo", 2), ("hi", 3), ("last", 1)], ss := [("lo", 2), ("hi", 3)], gl := ["range"], lv := 1 }) (own := [("lo", 2), ("hi", 3)]) [3] (ok_B (by decide +kernel) (by decide +kernel) rfl rfl rfl (by decide +kernel)) (by rfl) ?_)))
theorem b_run_choices {U : Env1} (hB : Blt U ["range"])  (G H : Hp) (ds) (P) (E) (h : cRunC ds P E) : JSs S_run_choices (U.cg G H fun _ => E) (defBody (top 35)) (startD S_run_choices.N ds) { nx := fun _ => P .non, rt := P } := by
  obtain ⟨f, l, h1, h3, h4, h2, k⟩ := h
  have hs : 5000 < sizeLine := by decide
  have hrl := runsL_len h1 h2
  kat_tups
  refine lc2F (fun lo => (rgD lo (l + 1)).map fun hi => plcD (lo, hi)) (src_rg (a := f) (b := l + 1)) (by rw [runsL_map, List.length_map]; omega) ?_ ?_
  · rintro lo hlo acc kk hl2 hk
    have := rgD_mem.mp hlo
    dsimp only at *
    kat_tups
    refine lcI (fun hi => some (plcD (lo, hi))) src_rg (by simpa using hl2) ?_ (by simpa using hk)
    intro hi _
    kat_tups
    try rfl
  · rw [runsL_map]
    kat_tups
    try exact k
inductive cLRuns : List D → (D → Prop) → EK → Prop
  | mk {P : D → Prop} {E : EK} (b m : Int) (h1 : 0 ≤ b) (h3 : 0 ≤ m) (h2 : b + m ≤ 21) (k : P (.lst ((runsL b (b + m - 1)).map plcD))) : cLRuns [.int b, .int m] P E
theorem mo_cLRuns : ∀ (ds : List D) (P P' : D → Prop) (E E' : EK), (∀ d, P d → P' d) → (∀ v ns es, E v ns es → E' v ns es) → cLRuns ds P E → cLRuns ds P' E' := by
  intro ds P P' E E' hp he h
  cases h with
  | mk b m h1 h3 h2 k => exact .mk b m h1 h3 h2 (by first | exact hp _ k | exact k.imp hp | (intros; apply hp; apply k <;> assumption))
abbrev S__law_runs : Scp := { N := ["base", "many", "out", "low", "high"], sc := defScope (top 54), vs := [("base", 0), ("many", 1), ("out", 2), ("low", 3), ("high", 4)], ss := [("base", 0), ("many", 1), ("out", 2), ("low", 3), ("high", 4)], gl := ["range"], lv := 1 }
theorem b__law_runs {U : Env1} (hB : Blt U ["range"])  (G H : Hp) (ds) (P) (E) (h : cLRuns ds P E) : JSs S__law_runs (U.cg G H fun _ => E) (defBody (top 54)) (startD S__law_runs.N ds) { nx := fun _ => P .non, rt := P } := by
  obtain ⟨b, m, h1, h3, h2, k⟩ := h
  have hs : 5000 < sizeLine := by decide
  have hrl := runsL_len (f := b) (l := b + m - 1) h1 (by omega)
  kat_tups
  refine eachD (fun d rest δ' => ∃ s3 s4 : Sl, δ' = [.fz (.int b), .fz (.int m), .ow ((d.flatMap fun lo => (rgD lo (b + m)).map fun hi => (lo, hi)).map plcD), s3, s4]) src_rg ⟨_, _, rfl⟩ ?_ ?_
  · rintro d lo rest δ' hx ⟨s3, s4, rfl⟩
    have hlo : lo ∈ rgD b (b + m) := by rw [hx]; simp
    have hlo := rgD_mem.mp hlo
    have hdl : (d.flatMap fun lo => (rgD lo (b + m)).map fun hi => (lo, hi)).length ≤ 441 := by
      refine Nat.le_trans (flat_len (k := 21) fun x hx2 => ?_) ?_
      · have hm : x ∈ rgD b (b + m) := by rw [hx]; simp [hx2]
        have := rgD_mem.mp hm
        rw [List.length_map, rgD_len]
        omega
      · have : (rgD b (b + m)).length = d.length + rest.length + 1 := by rw [hx]; simp; omega
        rw [rgD_len] at this
        omega
    rw [List.flatMap_append, List.flatMap_singleton]
    generalize (d.flatMap fun lo => (rgD lo (b + m)).map fun hi => (lo, hi)) = out at *
    kat_tups
    refine eachD (fun d2 rest2 δ' => ∃ s4 : Sl, δ' = [.fz (.int b), .fz (.int m), .ow ((out ++ d2.map fun hi => (lo, hi)).map plcD), .fz (.int lo), s4]) src_rg ⟨_, by rw [List.map_nil, List.append_nil]; rfl⟩ ?_ ?_
    · rintro d2 hi rest2 δ' hx2 ⟨s4, rfl⟩
      have hl2 : (rgD lo (b + m)).length = d2.length + rest2.length + 1 := by rw [hx2]; simp; omega
      rw [rgD_len] at hl2
      kat_tups
      refine ⟨by rw [List.length_map, List.length_append, List.length_map]; omega, ?_⟩
      kat_tups
      exact ⟨_, by rw [List.map_append (l₂ := [hi]), ← List.append_assoc, List.map_append (l₂ := List.map _ [hi])]; rfl⟩
    · rintro δ' ⟨s4, rfl⟩
      exact ⟨_, _, rfl⟩
  · rintro δ' ⟨s3, s4, rfl⟩
    have e : ((rgD b (b + m)).flatMap fun lo => (rgD lo (b + m)).map fun hi => (lo, hi)) = runsL b (b + m - 1) := by
      unfold runsL
      rw [show b + m - 1 + 1 = b + m by omega]
    rw [e]
    kat_tups
    try exact k
inductive cLCounts : List D → (D → Prop) → EK → Prop
  | mk {P : D → Prop} {E : EK}  (k : P (.lst (wTab 15 13))) : cLCounts [] P E
theorem mo_cLCounts : ∀ (ds : List D) (P P' : D → Prop) (E E' : EK), (∀ d, P d → P' d) → (∀ v ns es, E v ns es → E' v ns es) → cLCounts ds P E → cLCounts ds P' E' := by
  intro ds P P' E E' hp he h
  cases h with
  | mk  k => exact .mk  (by first | exact hp _ k | exact k.imp hp | (intros; apply hp; apply k <;> assumption))
abbrev S__law_counts : Scp := { N := ["table", "m", "n", "row", "l"], sc := defScope (top 53), vs := [("table", 0), ("m", 1), ("n", 2), ("row", 3)], ss := [("table", 0), ("m", 1), ("n", 2), ("row", 3)], gl := ["range", "sum"], lv := 1 }
local macro_rules | `(tactic| k_offL) => `(tactic| ((with_reducible show JE _ _ (Expr.ListComp _ _ _ _) _ _); first | refine jf_je (jf_lc (S' := { N := S__law_counts.N, sc := relS _ S__law_counts.sc, vs := [("l", 4), ("m", 1), ("n", 2), ("table", 0)], ss := [("l", 4)], gl := [], lv := 1 }) (own := [("l", 4)]) (ok_B (by decide +kernel) (by decide +kernel) rfl rfl rfl (by decide +kernel)) ?_) | refine jf_je (jf_lc (S' := { N := S__law_counts.N, sc := relS _ S__law_counts.sc, vs := [("m", 1)], ss := [("m", 1)], gl := [], lv := 1 }) (own := [("m", 1)]) (ok_B (by decide +kernel) (by decide +kernel) rfl rfl rfl (by decide +kernel)) ?_)))
theorem b__law_counts {U : Env1} (hB : Blt U ["range", "sum"])  (G H : Hp) (ds) (P) (E) (h : cLCounts ds P E) : JSs S__law_counts (U.cg G H fun _ => E) (defBody (top 53)) (startD S__law_counts.N ds) { nx := fun _ => P .non, rt := P } := by
  obtain ⟨k⟩ := h
  have hs : 5000 < sizeLine := by decide
  kat_tups
  refine lcM (fun m : Int => .int 1) src_rg1 (by decide) ?_ ?_
  · intro m _
    kat_tups
    try rfl
  kat_tups
  have e0 : [D.lst (List.map (fun m : Int => D.int 1) (rgD 0 15))] = wTab 15 (0 + 1) := wTab_one.symm
  rw [e0]
  refine eachD (fun d rest δ' => ∃ s1 s2 s3 s4 : Sl, δ' = [.ow (wTab 15 (d.length + 1)), s1, s2, s3, s4]) src_rg ⟨_, _, _, _, rfl⟩ ?_ ?_
  · rintro d x rest δ' hx ⟨s1, s2, s3, s4, rfl⟩
    obtain ⟨e1, e2⟩ := rgD_split hx
    subst e1
    have wl := wTab_len (a := 15) (n := d.length + 1)
    have wa : L2.atI (wTab 15 (d.length + 1)) (1 + (d.length : Int) - 1) = some (.lst ((rgD 0 (15 - (d.length : Int))).map fun m => D.int (gwI d.length m))) := by
      rw [wTab_at (by omega) (by omega), show 1 + (d.length : Int) - 1 = d.length by omega]
      rfl
    have es : wTab 15 (d.length + 1 + 1) = wTab 15 (d.length + 1) ++ [D.lst (D.int 0 :: (rgD 1 (15 - (1 + (d.length : Int)))).map fun m => D.int (gwI (d.length + 1) m))] := by
      rw [wTab_snoc]
      unfold wRow
      rw [show ((d.length + 1 : Nat) : Int) = 1 + d.length by omega, rgD_cons (a := 0) (b := 15 - (1 + (d.length : Int))) (by omega), List.map_cons, show gwI (d.length + 1) 0 = 0 from rfl]
      rfl
    rw [List.length_append, List.length_singleton, es]
    kat_tups
    refine eachD (fun d2 rest2 δ' => ∃ s2 s4 : Sl, δ' = [.ow (wTab 15 (d.length + 1)), s2, .fz (.int (1 + (d.length : Int))), .ow (D.int 0 :: d2.map fun m => D.int (gwI (d.length + 1) m)), s4]) (src_rg (a := 1) (b := 15 - (1 + (d.length : Int)))) ⟨_, _, rfl⟩ ?_ ?_
    · rintro d2 m rest2 δ' hx2 ⟨s2, s4, rfl⟩
      have hm : m ∈ rgD 1 (15 - (1 + (d.length : Int))) := by rw [hx2]; simp
      have hm := rgD_mem.mp hm
      have hl2 : (rgD 1 (15 - (1 + (d.length : Int)))).length = d2.length + rest2.length + 1 := by rw [hx2]; simp; omega
      rw [rgD_len] at hl2
      kat_tups
      refine lcM (fun l : Int => .int ((m - l + 1) * gwI d.length (l + 1))) (src_rg (a := 1) (b := m + 1)) (by rw [rgD_len]; omega) ?_ ?_
      · intro l hl
        have hl := rgD_mem.mp hl
        kat_tups
        refine ⟨_, _, rfl, wa, ?_⟩
        kat_tups
        refine ixd_lst (wRow_at (by omega) (by omega)) ?_
        kat_tups
        try rfl
      · kat_tups
        refine cd_sumM ?_
        refine ⟨by rw [List.length_cons, List.length_map]; omega, ?_⟩
        kat_tups
        try exact ⟨_, _, by rw [List.map_append]; rfl⟩
    · rintro δ' ⟨s2, s4, rfl⟩
      kat_tups
      exact ⟨_, _, _, _, rfl⟩
  · rintro δ' ⟨s1, s2, s3, s4, rfl⟩
    have e : (rgD 1 13).length + 1 = 13 := by decide
    rw [e]
    kat_tups
    try exact k
end
set_option Elab.async false
set_option linter.all false
set_option maxRecDepth 100000
set_option maxHeartbeats 4000000
section
/-! from number to plan and back -/
local macro_rules | `(tactic| kct_strs) => `(tactic| first | (with_reducible refine od_ltP ?_))
inductive cHowMany (XA : Str → Addr) : List D → (D → Prop) → EK → Prop
  | mk {P : D → Prop} {E : EK} (n : Int) (h0 : 0 ≤ n) (k : if 12 < n then E (.ref (XA "TooLong")) [fldOf "TooLong"] [.int 12] else P (.int (gwI n.toNat 1))) : cHowMany XA [.int n] P E
theorem mo_cHowMany {XA : Str → Addr} : ∀ (ds : List D) (P P' : D → Prop) (E E' : EK), (∀ d, P d → P' d) → (∀ v ns es, E v ns es → E' v ns es) → (cHowMany XA) ds P E → (cHowMany XA) ds P' E' := by
  intro ds P P' E E' hp he h
  cases h with
  | mk n h0 k => exact .mk n h0 (if q6 : 12 < n then (by rw [if_pos q6] at k ⊢; exact (by first | exact hp _ k | exact hp _ _ k | exact he _ _ _ k | (intros; apply hp; apply k <;> assumption))) else (by rw [if_neg q6] at k ⊢; exact (by first | exact hp _ k | exact hp _ _ k | exact he _ _ _ k | (intros; apply hp; apply k <;> assumption))))
abbrev S_how_many : Scp := { N := ["n"], sc := defScope (top 34), vs := [("n", 0)], ss := [("n", 0)], gl := ["MOST_LOOKS", "TooLong", "way_counts"], lv := 4 }
local macro_rules | `(tactic| lsm_bools) => `(tactic| first | refine cWayC.mk _ (by first | assumption | omega | decide) ?_ | refine cPlan.mk _ (by first | assumption | omega | decide) ?_)
theorem b_how_many {U : Env1} {CP : Addr} (hC : PlanC U CP) {XA : Str → Addr} (hE : ErrC U XA xMade xRaised xNames) (F_way_counts : U.DefF "way_counts" 2 [] cWayC) (F_Plan : MakeOk U.P U.w U.K U.mg U.base "Plan" CP 3 cPlan) (G H : Hp) (ds) (P) (E) (h : (cHowMany XA) ds P E) : JSs S_how_many (U.cg G H fun _ => E) (defBody (top 34)) (startD S_how_many.N ds) { nx := fun _ => P .non, rt := P } := by
  obtain ⟨hcl, hcm, hn1, hn2, hins, hne, hob, hsf, hml, hcy⟩ := hC
  obtain ⟨n, h0, k⟩ := h
  have hs : 5000 < sizeLine := by decide
  by_cases h : 12 < n
  · rw [if_pos h] at k
    kat_tups
    try exact k
  · rw [if_neg h] at k
    obtain ⟨j, rfl⟩ := Int.eq_ofNat_of_zero_le h0
    kat_tups
    try (refine cWayC.mk j (by omega) ?_)
    kat_tups
    have wa : L2.atI (wTab ((j : Int) + 2) (j + 1)) (j : Int) = some (.lst ((rgD 0 ((j : Int) + 2 - j)).map fun m => D.int (gwI j m))) := by
      rw [wTab_at (by omega) (by omega)]
      rfl
    refine ixd_lst wa ?_
    kat_tups
    refine ixd_lst (wRow_at (by omega) (by omega)) ?_
    kat_tups
    try exact k
inductive cGapAt (CP : Addr) (XA : Str → Addr) : List D → (D → Prop) → EK → Prop
  | mk {P : D → Prop} {E : EK} (n t : Int) (h0 : 0 ≤ n) (h1 : 0 ≤ t) (k : if 12 < n then E (.ref (XA "TooLong")) [fldOf "TooLong"] [.int 12] else if gwI n.toNat 1 ≤ t then E (.ref (XA "TooMany")) [fldOf "TooMany"] [.int (gwI n.toNat 1)] else P (plD CP (unr n.toNat 0 0 t))) : cGapAt CP XA [.int n, .int t] P E
theorem mo_cGapAt {CP : Addr} {XA : Str → Addr} : ∀ (ds : List D) (P P' : D → Prop) (E E' : EK), (∀ d, P d → P' d) → (∀ v ns es, E v ns es → E' v ns es) → (cGapAt CP XA) ds P E → (cGapAt CP XA) ds P' E' := by
  intro ds P P' E E' hp he h
  cases h with
  | mk n t h0 h1 k => exact .mk n t h0 h1 (if q6 : 12 < n then (by rw [if_pos q6] at k ⊢; exact (by first | exact hp _ k | exact hp _ _ k | exact he _ _ _ k | (intros; apply hp; apply k <;> assumption))) else (by rw [if_neg q6] at k ⊢; exact (if q17 : gwI n.toNat 1 ≤ t then (by rw [if_pos q17] at k ⊢; exact (by first | exact hp _ k | exact hp _ _ k | exact he _ _ _ k | (intros; apply hp; apply k <;> assumption))) else (by rw [if_neg q17] at k ⊢; exact (by first | exact hp _ k | exact hp _ _ k | exact he _ _ _ k | (intros; apply hp; apply k <;> assumption))))))
abbrev S_gapless_at : Scp := { N := ["n", "at", "many", "counts", "rows", "first", "last", "left", "k", "behind", "lo", "hi", "ways_on"], sc := defScope (top 36), vs := [("n", 0), ("at", 1), ("many", 2), ("counts", 3), ("rows", 4), ("first", 5), ("last", 6), ("left", 7), ("k", 8), ("behind", 9), ("lo", 10), ("hi", 11), ("ways_on", 12)], ss := [("n", 0), ("at", 1), ("many", 2), ("counts", 3), ("rows", 4), ("first", 5), ("last", 6), ("left", 7), ("k", 8), ("behind", 9), ("lo", 10), ("hi", 11), ("ways_on", 12)], gl := ["Plan", "TooMany", "how_many", "list", "range", "run_choices", "way_counts"], lv := 5 }
local macro_rules | `(tactic| lsm_bools) => `(tactic| first | refine cHowMany.mk _ (by first | assumption | omega | decide) ?_ | refine cWayC.mk _ (by first | assumption | omega | decide) ?_ | refine cRunC.mk _ _ (by first | assumption | omega | decide) (by first | assumption | omega | decide) (by first | assumption | omega | decide) (by first | assumption | omega | decide) ?_ | refine cPlan.mk _ (by first | assumption | omega | decide) ?_)
theorem b_gapless_at {U : Env1} {CP : Addr} (hC : PlanC U CP) {XA : Str → Addr} (hE : ErrC U XA xMade xRaised xNames) (hB : Blt U ["range", "list"]) (F_how_many : U.Def "how_many" 5 [] (cHowMany XA)) (F_way_counts : U.DefF "way_counts" 2 [] cWayC) (F_run_choices : U.Def "run_choices" 2 [] cRunC) (F_Plan : MakeOk U.P U.w U.K U.mg U.base "Plan" CP 3 cPlan) (G H : Hp) (ds) (P) (E) (h : (cGapAt CP XA) ds P E) : JSs S_gapless_at (U.cg G H fun _ => E) (defBody (top 36)) (startD S_gapless_at.N ds) { nx := fun _ => P .non, rt := P } := by
  obtain ⟨hcl, hcm, hn1, hn2, hins, hne, hob, hsf, hml, hcy⟩ := hC
  obtain ⟨n, t, h0, h1, k⟩ := h
  have hs : 5000 < sizeLine := by decide
  by_cases h : 12 < n
  · rw [if_pos h] at k
    kat_tups
    rw [if_pos h]
    exact k
  rw [if_neg h] at k
  obtain ⟨j, rfl⟩ := Int.eq_ofNat_of_zero_le h0
  kat_tups
  rw [if_neg h]
  have ht := tol_w (n := j) (by omega)
  simp only [Int.toNat_natCast] at k ⊢
  by_cases h2 : gwI j 1 ≤ t
  · rw [if_pos h2] at k
    kat_tups
    try exact ⟨ht, k⟩
  rw [if_neg h2] at k
  kat_tups
  have at0 : t < gwI (j - ([] : List Int).length) ((0 : Int) - 0 + 1) := by
    show t < gwI j 1
    omega
  refine eachD (fun d rest δ' => ∃ (rs : List (List Int)) (f l u : Int) (s8 s9 s10 s11 s12 : Sl), rs ++ unr (j - d.length) f l u = unr j 0 0 t ∧ rs.length = d.length ∧ d.length ≤ j ∧ 0 ≤ f ∧ f ≤ l ∧ l ≤ d.length ∧ 0 ≤ u ∧ u < gwI (j - d.length) (l - f + 1) ∧ δ' = [.fz (.int j), .fz (.int t), .fz (.int (gwI j 1)), .fz (.lst (wTab (j + 2) (j + 1))), .ow (rs.map rowL), .fz (.int f), .fz (.int l), .fz (.int u), s8, s9, s10, s11, s12]) src_rg1 ⟨[], 0, 0, t, _, _, _, _, _, rfl, rfl, Nat.zero_le _, Int.le_refl _, Int.le_refl _, Int.le_refl _, h1, at0, rfl⟩ ?_ ?_
  · rintro d x rest δ' hx ⟨rs, f, l, u, s8, s9, s10, s11, s12, he, hrs, hdj, hf0, hfl, hll, hu0, hu1, rfl⟩
    obtain ⟨e1, e2⟩ := rgD_split hx
    simp only [Int.zero_add] at e1 e2
    subst e1
    obtain ⟨q, hq⟩ : ∃ q, j - d.length = q + 1 := ⟨j - d.length - 1, by omega⟩
    rw [hq] at he hu1
    rw [← sum_wz q (by omega)] at hu1
    have hk := pk_some hu0 hu1
    have wa : L2.atI (wTab ((j : Int) + 2) (j + 1)) ((j : Int) - 1 - d.length) = some (.lst ((rgD 0 ((j : Int) + 2 - q)).map fun m => D.int (gwI q m))) := by
      rw [wTab_at (by omega) (by omega), show ((j : Int) - 1 - d.length) = (q : Int) by omega]
      rfl
    have hj12 : j ≤ 12 := by omega
    kat_tups
    refine ixd_lst wa ?_
    kat_tups
    obtain ⟨r, t', ek, hm, ht0, ht1⟩ := hk
    have eu : unr (q + 1) f l u = rgD r.1 (r.2 + 1) :: unr q r.1 (r.2 + 1) t' := by rw [unr, ek]
    rw [eu] at he
    have hm := runsL_mem.mp hm
    have hjq : j - (d ++ [((d.length : Nat) : Int)]).length = q := by rw [List.length_append, List.length_singleton]; omega
    refine each (fun rest δ' => ∃ (u' : Int) (s10 s11 s12 : Sl), pk (wz q) rest u' = some (r, t') ∧ δ' = [.fz (.int j), .fz (.int t), .fz (.int (gwI j 1)), .fz (.lst (wTab (j + 2) (j + 1))), .ow (rs.map rowL), .fz (.int f), .fz (.int l), .fz (.int u'), .fz (.int (d.length : Nat)), .fz (.lst ((rgD 0 ((j : Int) + 2 - q)).map fun m => D.int (gwI q m))), s10, s11, s12]) src_map ⟨u, _, _, _, ek, rfl⟩ ?_ ?_
    · rintro ⟨lo, hi⟩ rest2 δ' hx2 ⟨u', s10, s11, s12, ep, rfl⟩
      have hb := runsL_mem.mp hx2
      dsimp only at hb
      unfold pk at ep
      kat_tups
      refine ixd_lst (wRow_at (by omega) (by omega)) ?_
      kat_tups
      refine ite_d (fun hc => ?_) (fun hc => ?_)
      · rw [if_pos (show u' < wz q (lo, hi) from hc)] at ep
        cases ep
        dsimp only at *
        kat_tups
        refine ⟨.of_le (by omega) (by omega) (by omega) (by omega), by rw [List.length_map]; omega, ?_⟩
        kat_tups
        rw [hjq]
        refine ⟨rs ++ [rgD lo (hi + 1)], lo, hi + 1, t', .fz (.int (d.length : Nat)), .fz (.lst ((rgD 0 ((j : Int) + 2 - q)).map fun m => D.int (gwI q m))), .fz (.int lo), .fz (.int hi), .fz (.int (gwI q (hi - lo + 2))), ?_, ?_, ?_, by omega, by omega, ?_, ht0, ?_, ?_⟩
        · rw [← he, List.append_assoc]
          rfl
        · rw [List.length_append, List.length_append, hrs]
          rfl
        · rw [List.length_append, List.length_singleton]
          omega
        · rw [List.length_append, List.length_singleton]
          omega
        · rw [show hi + 1 - lo + 1 = hi - lo + 2 by omega]
          exact ht1
        · rw [List.map_append]
          rfl
      · rw [if_neg (show ¬ u' < wz q (lo, hi) from hc)] at ep
        kat_tups
        exact ⟨_, _, _, _, ep, rfl⟩
    · rintro δ' ⟨u', s10, s11, s12, ep, rfl⟩
      cases ep
  · rintro δ' ⟨rs, f, l, u, s8, s9, s10, s11, s12, he, hrs, hdj, hf0, hfl, hll, hu0, hu1, rfl⟩
    have hl0 : (rgD 0 (j : Int)).length = j := by rw [rgD_len]; omega
    rw [hl0, Nat.sub_self] at he
    have he : rs = unr j 0 0 t := by rw [← he]; unfold unr; simp
    have hp := unr_plan (n := j) (by omega) h1 (by omega)
    subst he
    have hpo := hp.1
    kat_tups
    try exact k
/-! the number of a plan -/
def gap0 (rows : List (List Int)) : Int × Int × Int := (gapsR rows).headD (0, 0, 0)
theorem gap_bd {rows : List (List Int)} (hr : PlanOk rows) {g : Int × Int × Int} (h : g ∈ gapsR rows) : (0 ≤ g.1 ∧ g.1 ≤ 20) ∧ (0 ≤ g.2.1 ∧ g.2.1 ≤ 20) ∧ 0 ≤ g.2.2 ∧ g.2.2 ≤ 20 := by
  unfold gapsR at h
  obtain ⟨⟨r, n⟩, hx, hg⟩ := List.mem_flatMap.mp h
  have e := List.mk_mem_zipIdx_iff_getElem?.mp hx
  have hn := (List.getElem?_eq_some_iff.mp e).1
  have hl := hr.1
  have gd := hr.2.get gd0 e
  simp only [Nat.zero_add] at gd
  unfold gapsOf at hg
  obtain ⟨⟨i, j⟩, hz, hq⟩ := List.mem_filterMap.mp hg
  dsimp only at hq
  split at hq
  · cases hq
    have hi := gd.2.2 i (List.of_mem_zip hz).1
    have hj := gd.2.2 j (List.mem_of_mem_tail (List.of_mem_zip hz).2)
    dsimp only
    omega
  · cases hq
theorem tol_gap {rows : List (List Int)} (hr : PlanOk rows) {g : Int × Int × Int} (h : g ∈ gapsR rows) : TolD (gapD g) := by
  have b := gap_bd hr h
  refine ⟨[g.1, g.2.1, g.2.2], rfl, by simp, fun i hi => ?_⟩
  have h9 := Nat.log2_le_self i.natAbs
  simp only [List.mem_cons, List.not_mem_nil, or_false] at hi
  rcases hi with rfl | rfl | rfl <;> omega
/-- first and last good reached, row by row -/
def fst21 (rows : List (List Int)) (n : Nat) : Int := match (rows.take n).getLast? with | some r => (ends r).1 | none => 0
def lst21 (rows : List (List Int)) (n : Nat) : Int := match (rows.take n).getLast? with | some r => (ends r).2 + 1 | none => 0
/-- the runs before a row's -/
def befR (f l : Int) (r : List Int) : List (Int × Int) := (runsL f l).filter fun q => decide (ltP q (ends r))
inductive cRank (CP : Addr) (XA : Str → Addr) : List D → (D → Prop) → EK → Prop
  | mk {P : D → Prop} {E : EK} (rows : List (List Int)) (hr : PlanOk rows) (k : if gapsR rows = [] then P (.int (rnk rows 0 0)) else E (.ref (XA "HasGap")) [fldOf "HasGap"] [gapD (gap0 rows)]) : cRank CP XA [plD CP rows] P E
theorem mo_cRank {CP : Addr} {XA : Str → Addr} : ∀ (ds : List D) (P P' : D → Prop) (E E' : EK), (∀ d, P d → P' d) → (∀ v ns es, E v ns es → E' v ns es) → (cRank CP XA) ds P E → (cRank CP XA) ds P' E' := by
  intro ds P P' E E' hp he h
  cases h with
  | mk rows hr k => exact .mk rows hr (if q15 : gapsR rows = [] then (by rw [if_pos q15] at k ⊢; exact (by first | exact hp _ k | exact hp _ _ k | exact he _ _ _ k | (intros; apply hp; apply k <;> assumption))) else (by rw [if_neg q15] at k ⊢; exact (by first | exact hp _ k | exact hp _ _ k | exact he _ _ _ k | (intros; apply hp; apply k <;> assumption))))
abbrev S_rank_of : Scp := { N := ["plan", "n", "counts", "at", "first", "last", "k", "row", "behind", "own", "lo", "hi"], sc := defScope (top 37), vs := [("plan", 0), ("n", 1), ("counts", 2), ("at", 3), ("first", 4), ("last", 5), ("k", 6), ("row", 7), ("behind", 8), ("own", 9)], ss := [("plan", 0), ("n", 1), ("counts", 2), ("at", 3), ("first", 4), ("last", 5), ("k", 6), ("row", 7), ("behind", 8), ("own", 9)], gl := ["HasGap", "enumerate", "run_choices", "sum", "way_counts"], lv := 6 }
local macro_rules | `(tactic| lsm_bools) => `(tactic| first | refine cWayC.mk _ (by first | assumption | omega | decide) ?_ | refine cRunC.mk _ _ (by first | assumption | omega | decide) (by first | assumption | omega | decide) (by first | assumption | omega | decide) (by first | assumption | omega | decide) ?_ | refine cGapless.mk _ (by first | assumption | omega | decide) ?_ | refine cGaps.mk _ (by first | assumption | omega | decide) ?_ | refine cRows.mk _ (by first | assumption | omega | decide) ?_ | refine cLongest.mk _ ?_)
local macro_rules | `(tactic| k_offL) => `(tactic| ((with_reducible show JE _ _ (Expr.ListComp _ _ _ _) _ _); first | refine jf_je (jf_lc (S' := { N := S_rank_of.N, sc := relS _ S_rank_of.sc, vs := [("lo", 10), ("hi", 11), ("behind", 8), ("own", 9)], ss := [("lo", 10), ("hi", 11)], gl := [], lv := 6 }) (own := [("lo", 10), ("hi", 11)]) (ok_B (by decide +kernel) (by decide +kernel) rfl rfl rfl (by decide +kernel)) ?_)))
theorem b_rank_of {U : Env1} {CP : Addr} (hC : PlanC U CP) {XA : Str → Addr} (hE : ErrC U XA xMade xRaised xNames) (hB : Blt U ["enumerate", "sum"]) (F_way_counts : U.DefF "way_counts" 2 [] cWayC) (F_run_choices : U.Def "run_choices" 2 [] cRunC) (F_Plan_gapless : PropOk U.P U.w U.K U.mg U.base CP "gapless" 5 (cGapless CP)) (F_Plan_gaps : PropOk U.P U.w U.K U.mg U.base CP "gaps" 3 (cGaps CP)) (F_Plan_rows : MethOk U.P U.w U.K U.mg U.base CP "rows" 2 (cRows CP)) (F_Plan_longest : PropOk U.P U.w U.K U.mg U.base CP "longest" 2 (cLongest CP)) (G H : Hp) (ds) (P) (E) (h : (cRank CP XA) ds P E) : JSs S_rank_of (U.cg G H fun _ => E) (defBody (top 37)) (startD S_rank_of.N ds) { nx := fun _ => P .non, rt := P } := by
  obtain ⟨hcl, hcm, hn1, hn2, hins, hne, hob, hsf, hml, hcy⟩ := hC
  obtain ⟨rows, hr, k⟩ := h
  have hs : 5000 < sizeLine := by decide
  have hrl := hr.1
  have hrl2 : rows.length ≤ 1000 := by omega
  kat_tups
  refine ite_nd (fun hg => ?_) (fun hg => ?_)
  · rw [if_neg hg] at k
    obtain ⟨g, t, e⟩ := List.exists_cons_of_ne_nil hg
    kat_tups
    refine ixd_lst (d := gapD (gap0 rows)) (by unfold gap0; rw [e]; exact atI_head rfl) ?_
    refine ⟨tol_gap hr (by unfold gap0; rw [e]; exact .head _), k⟩
  rw [if_pos hg] at k
  kat_tups
  refine eachD (fun d rest δ' => ∃ (f l a : Int) (s6 s7 s8 s9 s10 s11 : Sl), a + rnk (rest.map (·.1)) f l = rnk rows 0 0 ∧ 0 ≤ f ∧ f ≤ l ∧ l ≤ d.length ∧ (∃ g, Pl g (rest.map (·.1)) ∧ ∀ x ∈ g, f ≤ x ∧ x ≤ l) ∧ δ' = [.fz (plD CP rows), .fz (.int rows.length), .fz (.lst (wTab (rows.length + 2) (rows.length + 1))), .fz (.int a), .fz (.int f), .fz (.int l), s6, s7, s8, s9, s10, s11]) src_enum ⟨0, 0, 0, _, _, _, _, _, _, ?_, Int.le_refl _, Int.le_refl _, Int.le_refl _, ⟨[0], ?_, ?_⟩, rfl⟩ ?_ ?_
  · rw [Int.zero_add]
    congr 1
    simp
  · rw [show (rows.zipIdx.map (·.1)) = rows by simp]
    exact hr.2
  · intro x hx
    rw [List.mem_singleton.mp hx]
    exact ⟨Int.le_refl _, Int.le_refl _⟩
  · rintro d ⟨r, i⟩ rest δ' hx ⟨f, l, a, s6, s7, s8, s9, s10, s11, he, hf0, hfl, hll, ⟨g, hg, hgb⟩, rfl⟩
    obtain ⟨rfl, er⟩ := zipIdx_split hx
    have hlen : rows.length = d.length + rest.length + 1 := by
      have : rows.zipIdx.length = d.length + rest.length + 1 := by rw [hx]; simp; omega
      rwa [List.length_zipIdx] at this
    rw [List.map_cons] at he hg
    dsimp only at he hg
    obtain ⟨b1, b2, b3, b4, b5, b6⟩ := hr.bnd (r := r) (by rw [er]; simp)
    have c1 := hgb _ (hg.1.2.2 _ (headD_mem b1))
    have c2 := hgb _ (hg.1.2.2 _ (getLastD_mem b1))
    have c3 := headD_le b2 (getLastD_mem b1)
    have wa : L2.atI (wTab ((rows.length : Int) + 2) (rows.length + 1)) ((rows.length : Int) - 1 - ((d.length : Nat) : Int)) = some (.lst ((rgD 0 ((rows.length : Int) + 2 - rest.length)).map fun m => D.int (gwI rest.length m))) := by
      rw [wTab_at (by omega) (by omega), show ((rows.length : Int) - 1 - ((d.length : Nat) : Int)) = (rest.length : Int) by omega]
      rfl
    have hrl' := runsL_len hf0 (show l ≤ 20 by omega)
    kat_tups
    refine ixd_lst wa ?_
    kat_tups
    refine ixd_lst (atI_head b5) ?_
    kat_tups
    refine ixd_lst (atI_last b6) ?_
    kat_tups
    refine lcF (fun q : Int × Int => if ltP q (ends r) then some (.int (wz rest.length q)) else none) src_map (by omega) ?_ ?_
    · rintro ⟨lo, hi⟩ hq
      have hb := runsL_mem.mp hq
      dsimp only at hb
      kat_tups
      refine ite_d (fun hc => ?_) (fun hc => ?_)
      · kat_tups
        refine ixd_lst (wRow_at (by omega) (by omega)) ?_
        kat_tups
        exact if_pos hc
      · exact if_neg hc
    rw [fm_if]
    kat_tups
    refine cd_sumM ?_
    kat_tups
    refine ixd_lst (atI_head b5) ?_
    kat_tups
    refine ixd_lst (atI_last b6) ?_
    kat_tups
    refine ⟨r.headD 0, r.getLastD 0 + 1, _, .fz (.int (d.length : Nat)), .fz (rowL r), .fz (.lst ((rgD 0 ((rows.length : Int) + 2 - rest.length)).map fun m => D.int (gwI rest.length m))), .fz (.tup [.int (r.headD 0), .int (r.getLastD 0)]), s10, s11, ?_, by omega, by omega, by rw [List.length_append, List.length_singleton]; omega, ⟨nx r, hg.2, fun x hx => ?_⟩, rfl⟩
    · rw [← he, rnk, List.length_map, Int.add_assoc]
      rfl
    · rcases (nx_mem _ _).mp hx with q | q
      · have := headD_le b2 q
        have := le_getLastD b2 q
        omega
      · have := headD_le b2 q
        have := le_getLastD b2 q
        omega
  · rintro δ' ⟨f, l, a, s6, s7, s8, s9, s10, s11, he, hf0, hfl, hll, hgd, rfl⟩
    kat_tups
    have he : a = rnk rows 0 0 := by rw [← he]; unfold rnk; simp
    rw [he]
    exact k
end
set_option Elab.async false
set_option linter.all false
set_option maxRecDepth 100000
set_option maxHeartbeats 4000000
section
/-! the law's way from number to rows and back -/
local macro_rules | `(tactic| kct_strs) => `(tactic| first | (with_reducible refine od_ltP ?_))
theorem row_comp {lo hi : Int} : ((rgD 0 (hi - lo + 1)).map fun i => D.int (lo + i)) = (rgD lo (hi + 1)).map D.int := by
  have e : rgD lo (hi + 1) = (rgD 0 (hi - lo + 1)).map (· + lo) := by
    rw [← rgD_shift]
    congr 1 <;> omega
  rw [e, List.map_map]
  refine List.map_congr_left fun i _ => ?_
  show D.int (lo + i) = D.int (i + lo)
  rw [Int.add_comm]
inductive cRowsAt : List D → (D → Prop) → EK → Prop
  | mk {P : D → Prop} {E : EK} (j : Nat) (t : Int) (hj : j ≤ 12) (h0 : 0 ≤ t) (h1 : t < gwI j 1) (k : P (.lst ((unr j 0 0 t).map rowL))) : cRowsAt [.lst (wTab 15 13), .int j, .int t] P E
theorem mo_cRowsAt : ∀ (ds : List D) (P P' : D → Prop) (E E' : EK), (∀ d, P d → P' d) → (∀ v ns es, E v ns es → E' v ns es) → cRowsAt ds P E → cRowsAt ds P' E' := by
  intro ds P P' E E' hp he h
  cases h with
  | mk j t hj h0 h1 k => exact .mk j t hj h0 h1 (by first | exact hp _ k | exact k.imp hp | (intros; apply hp; apply k <;> assumption))
abbrev S__law_rows_at : Scp := { N := ["table", "n", "at", "rows", "base", "many", "k", "run", "size", "i"], sc := defScope (top 55), vs := [("table", 0), ("n", 1), ("at", 2), ("rows", 3), ("base", 4), ("many", 5), ("k", 6), ("run", 7), ("size", 8)], ss := [("table", 0), ("n", 1), ("at", 2), ("rows", 3), ("base", 4), ("many", 5), ("k", 6), ("run", 7), ("size", 8)], gl := ["_law_runs", "len", "range"], lv := 2 }
local macro_rules | `(tactic| lsm_bools) => `(tactic| first | refine cLRuns.mk _ _ (by first | assumption | omega | decide) (by first | assumption | omega | decide) (by first | assumption | omega | decide) ?_)
local macro_rules | `(tactic| k_offL) => `(tactic| ((with_reducible show JE _ _ (Expr.ListComp _ _ _ _) _ _); first | refine jf_je (jf_lc (S' := { N := S__law_rows_at.N, sc := relS _ S__law_rows_at.sc, vs := [("i", 9), ("run", 7)], ss := [("i", 9)], gl := [], lv := 2 }) (own := [("i", 9)]) (ok_B (by decide +kernel) (by decide +kernel) rfl rfl rfl (by decide +kernel)) ?_)))
theorem b__law_rows_at {U : Env1} (hB : Blt U ["range", "len"]) (F__law_runs : U.Def "_law_runs" 2 [] cLRuns) (G H : Hp) (ds) (P) (E) (h : cRowsAt ds P E) : JSs S__law_rows_at (U.cg G H fun _ => E) (defBody (top 55)) (startD S__law_rows_at.N ds) { nx := fun _ => P .non, rt := P } := by
  obtain ⟨j, t, hj, h0, h1, k⟩ := h
  have hs : 5000 < sizeLine := by decide
  kat_tups
  have at0 : t < gwI (j - ([] : List Int).length) ((0 : Int) - 0 + 1) := h1
  refine eachD (fun d rest δ' => ∃ (rs : List (List Int)) (f l u : Int) (s6 s7 s8 s9 : Sl), rs ++ unr (j - d.length) f l u = unr j 0 0 t ∧ rs.length = d.length ∧ d.length ≤ j ∧ 0 ≤ f ∧ f ≤ l ∧ l ≤ d.length ∧ 0 ≤ u ∧ u < gwI (j - d.length) (l - f + 1) ∧ δ' = [.fz (.lst (wTab 15 13)), .fz (.int j), .fz (.int u), .ow (rs.map rowL), .fz (.int f), .fz (.int (l - f + 1)), s6, s7, s8, s9]) src_rg1 ⟨[], 0, 0, t, _, _, _, _, rfl, rfl, Nat.zero_le _, Int.le_refl _, Int.le_refl _, Int.le_refl _, h0, at0, rfl⟩ ?_ ?_
  · rintro d x rest δ' hx ⟨rs, f, l, u, s6, s7, s8, s9, he, hrs, hdj, hf0, hfl, hll, hu0, hu1, rfl⟩
    obtain ⟨e1, e2⟩ := rgD_split hx
    simp only [Int.zero_add] at e1 e2
    subst e1
    obtain ⟨q, hq⟩ : ∃ q, j - d.length = q + 1 := ⟨j - d.length - 1, by omega⟩
    rw [hq] at he hu1
    rw [← sum_wz q (by omega)] at hu1
    obtain ⟨r, t', ek, hm, ht0, ht1⟩ := pk_some hu0 hu1
    have eu : unr (q + 1) f l u = rgD r.1 (r.2 + 1) :: unr q r.1 (r.2 + 1) t' := by rw [unr, ek]
    rw [eu] at he
    have hm := runsL_mem.mp hm
    have hjq : j - (d ++ [((d.length : Nat) : Int)]).length = q := by rw [List.length_append, List.length_singleton]; omega
    have wa : L2.atI (wTab 15 13) ((j : Int) - 1 - d.length) = some (.lst ((rgD 0 (15 - (q : Int))).map fun m => D.int (gwI q m))) := by
      rw [wTab_at (by omega) (by omega), show ((j : Int) - 1 - d.length) = (q : Int) by omega]
      rfl
    have efl : f + (l - f + 1) - 1 = l := by omega
    kat_tups
    rw [efl]
    kat_tups
    refine each (fun rest δ' => ∃ (rs' : List (List Int)) (u' : Int) (s7 s8 s9 : Sl), ((rs' = rs ∧ pk (wz q) rest u' = some (r, t')) ∨ (rs' = rs ++ [rgD r.1 (r.2 + 1)] ∧ u' = t')) ∧ δ' = [.fz (.lst (wTab 15 13)), .fz (.int j), .fz (.int u'), .ow (rs'.map rowL), .fz (.int f), .fz (.int (l - f + 1)), .fz (.int (d.length : Nat)), s7, s8, s9]) src_map ⟨rs, u, _, _, _, .inl ⟨rfl, ek⟩, rfl⟩ ?_ ?_
    · rintro ⟨lo, hi⟩ rest2 δ' hx2 ⟨rs', u', s7, s8, s9, hor, rfl⟩
      have hb := runsL_mem.mp hx2
      dsimp only at hb
      kat_tups
      refine ixd_lst wa ?_
      kat_tups
      refine ixd_lst (wRow_at (by omega) (by omega)) ?_
      kat_tups
      rcases hor with ⟨rfl, ep⟩ | ⟨rfl, rfl⟩
      · unfold pk at ep
        refine ite_dT (by rw [List.length_map]; omega) ?_
        kat_tups
        refine ite_d (fun hc => ?_) (fun hc => ?_)
        · rw [if_pos (show u' < wz q (lo, hi) from hc)] at ep
          cases ep
          kat_tups
          dsimp only
          refine lcM (fun i : Int => .int (lo + i)) (src_rg1 (b := hi - lo + 1)) (by rw [rgD_len]; omega) ?_ ?_
          · intro i _
            kat_tups
            try rfl
          · rw [row_comp]
            kat_tups
            refine ⟨by rw [List.length_map]; omega, ?_⟩
            kat_tups
            exact ⟨rs' ++ [rgD lo (hi + 1)], _, _, _, _, .inr ⟨rfl, rfl⟩, by rw [List.map_append]; rfl⟩
        · rw [if_neg (show ¬ u' < wz q (lo, hi) from hc)] at ep
          kat_tups
          refine ite_dT (by rw [List.length_map]; omega) ?_
          kat_tups
          exact ⟨rs', _, _, _, _, .inl ⟨rfl, ep⟩, rfl⟩
      · refine ite_dF (by rw [List.length_map, List.length_append, List.length_singleton]; omega) ?_
        kat_tups
        refine ite_dF (by rw [List.length_map, List.length_append, List.length_singleton]; omega) ?_
        kat_tups
        exact ⟨_, _, _, _, _, .inr ⟨rfl, rfl⟩, rfl⟩
    · rintro δ' ⟨rs', u', s7, s8, s9, hor, rfl⟩
      rcases hor with ⟨rfl, ep⟩ | ⟨rfl, rfl⟩
      · cases ep
      have wr : L2.atI ((rs ++ [rgD r.1 (r.2 + 1)]).map rowL) (d.length : Nat) = some (rowL (rgD r.1 (r.2 + 1))) := by
        rw [atI_mapG (by omega) (by rw [List.length_append, List.length_singleton]; omega)]
        congr 2
        simp [← hrs]
      have wl : ((rgD r.1 (r.2 + 1)).length : Int) = r.2 + 1 - r.1 := by rw [rgD_len]; omega
      kat_tups
      refine ⟨_, _, rfl, wr, ?_⟩
      kat_tups
      refine ixd_lst (atI_head (x := r.1) (by rw [rgD_cons (by omega)]; rfl)) ?_
      kat_tups
      refine ⟨_, _, rfl, wr, ?_⟩
      kat_tups
      rw [hjq, List.length_map, wl]
      refine ⟨rs ++ [rgD r.1 (r.2 + 1)], r.1, r.2 + 1, u', .fz (.int (d.length : Nat)), s7, s8, s9, ?_, ?_, ?_, by omega, by omega, ?_, ht0, ?_, rfl⟩
      · rw [← he, List.append_assoc]
        rfl
      · rw [List.length_append, List.length_append, hrs]
        rfl
      · rw [List.length_append, List.length_singleton]
        omega
      · rw [List.length_append, List.length_singleton]
        omega
      · rw [show r.2 + 1 - r.1 + 1 = r.2 - r.1 + 2 by omega]
        exact ht1
  · rintro δ' ⟨rs, f, l, u, s6, s7, s8, s9, he, hrs, hdj, hf0, hfl, hll, hu0, hu1, rfl⟩
    have hl0 : (rgD 0 (j : Int)).length = j := by rw [rgD_len]; omega
    rw [hl0, Nat.sub_self] at he
    have he : rs = unr j 0 0 t := by rw [← he]; unfold unr; simp
    subst he
    kat_tups
    try exact k
inductive cNumberOf : List D → (D → Prop) → EK → Prop
  | mk {P : D → Prop} {E : EK} (rows : List (List Int)) (hr : PlanOk rows) (hru : Runs rows) (k : P (.int (rnk rows 0 0))) : cNumberOf [.lst (wTab 15 13), .lst (rows.map rowL)] P E
theorem mo_cNumberOf : ∀ (ds : List D) (P P' : D → Prop) (E E' : EK), (∀ d, P d → P' d) → (∀ v ns es, E v ns es → E' v ns es) → cNumberOf ds P E → cNumberOf ds P' E' := by
  intro ds P P' E E' hp he h
  cases h with
  | mk rows hr hru k => exact .mk rows hr hru (by first | exact hp _ k | exact k.imp hp | (intros; apply hp; apply k <;> assumption))
abbrev S__law_number_of : Scp := { N := ["table", "rows", "at", "base", "many", "k", "run"], sc := defScope (top 56), vs := [("table", 0), ("rows", 1), ("at", 2), ("base", 3), ("many", 4), ("k", 5), ("run", 6)], ss := [("table", 0), ("rows", 1), ("at", 2), ("base", 3), ("many", 4), ("k", 5), ("run", 6)], gl := ["_law_runs", "len", "range"], lv := 2 }
local macro_rules | `(tactic| lsm_bools) => `(tactic| first | refine cLRuns.mk _ _ (by first | assumption | omega | decide) (by first | assumption | omega | decide) (by first | assumption | omega | decide) ?_)
theorem b__law_number_of {U : Env1} (hB : Blt U ["range", "len"]) (F__law_runs : U.Def "_law_runs" 2 [] cLRuns) (G H : Hp) (ds) (P) (E) (h : cNumberOf ds P E) : JSs S__law_number_of (U.cg G H fun _ => E) (defBody (top 56)) (startD S__law_number_of.N ds) { nx := fun _ => P .non, rt := P } := by
  obtain ⟨rows, hr, hru, k⟩ := h
  have hs : 5000 < sizeLine := by decide
  have hrl := hr.1
  have hml : (rows.map rowL).length = rows.length := List.length_map _
  kat_tups
  refine eachD (fun d rest δ' => ∃ (f l a : Int) (s5 s6 : Sl), a + rnk (rows.drop d.length) f l = rnk rows 0 0 ∧ 0 ≤ f ∧ f ≤ l ∧ l ≤ d.length ∧ (∃ g, Pl g (rows.drop d.length) ∧ ∀ x ∈ g, f ≤ x ∧ x ≤ l) ∧ δ' = [.fz (.lst (wTab 15 13)), .fz (.lst (rows.map rowL)), .fz (.int a), .fz (.int f), .fz (.int (l - f + 1)), s5, s6]) src_rg1 ⟨0, 0, 0, _, _, Int.zero_add _, Int.le_refl _, Int.le_refl _, Int.le_refl _, ⟨[0], hr.2, fun x hx => ?_⟩, rfl⟩ ?_ ?_
  · rw [List.mem_singleton.mp hx]
    exact ⟨Int.le_refl _, Int.le_refl _⟩
  · rintro d x rest δ' hx ⟨f, l, a, s5, s6, he, hf0, hfl, hll, ⟨g, hg, hgb⟩, rfl⟩
    obtain ⟨e1, e2⟩ := rgD_split hx
    simp only [Int.zero_add] at e1 e2
    subst e1
    rw [hml] at e2
    have hd : d.length < rows.length := by omega
    have er := List.getElem?_eq_getElem hd
    have hrm := List.getElem_mem hd
    have edr : rows.drop d.length = rows[d.length] :: rows.drop (d.length + 1) := List.drop_eq_getElem_cons hd
    have hfr := hru _ hrm
    obtain ⟨b1, b2, b3, b4, b5, b6⟩ := hr.bnd hrm
    have wr : L2.atI (rows.map rowL) ((d.length : Nat) : Int) = some (rowL rows[d.length]) := by
      rw [atI_mapG (by omega) (by omega)]
      rfl
    generalize rows[d.length] = r at *
    rw [edr] at he hg
    have c1 := hgb _ (hg.1.2.2 _ (headD_mem b1))
    have c2 := hgb _ (hg.1.2.2 _ (getLastD_mem b1))
    have c3 := headD_le b2 (getLastD_mem b1)
    have hq : (rows.drop (d.length + 1)).length = rows.length - (d.length + 1) := List.length_drop
    obtain ⟨q, hqq⟩ : ∃ q, rows.length - (d.length + 1) = q := ⟨_, rfl⟩
    rw [hqq] at hq
    have wa : L2.atI (wTab 15 13) ((rows.length : Int) - 1 - ((d.length : Nat) : Int)) = some (.lst ((rgD 0 (15 - (q : Int))).map fun m => D.int (gwI q m))) := by
      rw [wTab_at (by omega) (by omega), show ((rows.length : Int) - 1 - ((d.length : Nat) : Int)) = (q : Int) by omega]
      rfl
    have efl : f + (l - f + 1) - 1 = l := by omega
    have wl : (r.length : Int) = r.getLastD 0 + 1 - r.headD 0 := by
      have : (fillRow r).length = ((r.getLastD 0 + 1) - r.headD 0).toNat := by unfold fillRow; rw [rgD_len]
      rw [hfr] at this
      omega
    kat_tups
    rw [efl]
    kat_tups
    refine each (fun rest δ' => ∃ (a' : Int) (s6 : Sl), a' + ((rest.filter fun z => decide (ltP z (ends r))).map (wz q)).sum = a + (((runsL f l).filter fun z => decide (ltP z (ends r))).map (wz q)).sum ∧ δ' = [.fz (.lst (wTab 15 13)), .fz (.lst (rows.map rowL)), .fz (.int a'), .fz (.int f), .fz (.int (l - f + 1)), .fz (.int (d.length : Nat)), s6]) src_map ⟨a, _, rfl, rfl⟩ ?_ ?_
    · rintro ⟨lo, hi⟩ rest2 δ' hx2 ⟨a', s6, hsum, rfl⟩
      have hb := runsL_mem.mp hx2
      dsimp only at hb
      rw [List.filter_cons] at hsum
      kat_tups
      refine ixd_lst wr ?_
      kat_tups
      refine ixd_lst (atI_head b5) ?_
      kat_tups
      refine ixd_lst wr ?_
      kat_tups
      refine ixd_lst (atI_last b6) ?_
      kat_tups
      refine ite_d (fun hc => ?_) (fun hc => ?_)
      · rw [if_pos (by exact decide_eq_true hc), List.map_cons, List.sum_cons] at hsum
        kat_tups
        rw [hml]
        refine ixd_lst wa ?_
        kat_tups
        refine ixd_lst (wRow_at (by omega) (by omega)) ?_
        kat_tups
        exact ⟨_, _, by rw [← hsum, ← Int.add_assoc]; rfl, rfl⟩
      · have hc' : ¬ ltP (lo, hi) (ends r) := hc
        rw [if_neg (fun z => hc' (of_decide_eq_true z))] at hsum
        kat_tups
        exact ⟨_, _, hsum, rfl⟩
    · rintro δ' ⟨a', s6, hsum, rfl⟩
      kat_tups
      refine ixd_lst wr ?_
      kat_tups
      refine ixd_lst (atI_head b5) ?_
      kat_tups
      refine ixd_lst wr ?_
      kat_tups
      rw [List.length_map, wl, List.length_append, List.length_singleton]
      refine ⟨r.headD 0, r.getLastD 0 + 1, a', .fz (.int (d.length : Nat)), s6, ?_, by omega, by omega, by omega, ⟨nx r, hg.2, fun x hx => ?_⟩, rfl⟩
      · rw [rnk, hq] at he
        rw [List.filter_nil, List.map_nil, List.sum_nil, Int.add_zero] at hsum
        rw [hsum, Int.add_assoc]
        exact he
      · rcases (nx_mem _ _).mp hx with z | z
        · have := headD_le b2 z
          have := le_getLastD b2 z
          omega
        · have := headD_le b2 z
          have := le_getLastD b2 z
          omega
  · rintro δ' ⟨f, l, a, s5, s6, he, hf0, hfl, hll, hgd, rfl⟩
    have hl0 : (rgD 0 (((rows.map rowL).length : Nat) : Int)).length = rows.length := by rw [rgD_len, hml]; omega
    rw [hl0, List.drop_length] at he
    have he : a = rnk rows 0 0 := by rw [← he]; unfold rnk; simp
    kat_tups
    rw [he]
    exact k
end
set_option Elab.async false
set_option linter.all false
set_option maxRecDepth 100000
set_option maxHeartbeats 4000000
section
/-! questions: due and told -/
def suiteOf : List Stmt → List Stmt
  | .Try _ (.ExceptHandler _ _ s _ :: _) _ _ _ :: _ => s
  | _ => []
theorem mark_ints (bs : List Bool) : (bs.map fun b : Bool => D.int (if b then 1 else 0)) = (bs.map fun b : Bool => if b then (1 : Int) else 0).map D.int := by rw [List.map_map]; rfl
theorem src_bl (bs : List Bool) : Src (bs.map D.bl).length (atD (bs.map D.bl)) bs D.bl := src_map
theorem rowAt_mapE {rows : List (List Int)} : (List.range rows.length).map (fun n => rowL (rowAt rows n)) = rows.map rowL := by
  refine List.ext_getElem (by simp) fun i h1 h2 => ?_
  have hi : i < rows.length := by simpa using h1
  simp [rowAt, List.getElem?_eq_getElem hi]
inductive Qn where
  | many (n : Int) | at (n t : Int) | num (rows : List (List Int))
def qnD : Qn → D
  | .many n => .tup [.str "many", .int n]
  | .at n t => .tup [.str "at", .int n, .int t]
  | .num rows => .tup [.str "number", .lst (rows.map rowL)]
def QnOk : Qn → Prop
  | .many n => 0 ≤ n
  | .at n t => 0 ≤ n ∧ 0 ≤ t
  | .num rows => PlanOk rows ∧ (Runs rows ∨ gapsR rows ≠ [])
def ansD : Qn → D
  | .many n => if 12 < n then .tup [.str "TooLong", .int 12] else .tup [.str "told", .int (gwI n.toNat 1)]
  | .at n t => if 12 < n then .tup [.str "TooLong", .int 12] else if gwI n.toNat 1 ≤ t then .tup [.str "TooMany", .int (gwI n.toNat 1)] else .tup [.str "told", .lst ((unr n.toNat 0 0 t).map rowL)]
  | .num rows => if gapsR rows = [] then .tup [.str "told", .int (rnk rows 0 0)] else .tup [.str "HasGap", gapD (gap0 rows)]
theorem wTab_atN {n : Int} (h0 : 0 ≤ n) (h1 : n ≤ 12) : L2.atI (wTab 15 13) n = some (.lst ((rgD 0 (15 - n)).map fun m => D.int (gwI n.toNat m))) := by
  rw [wTab_at h0 (by omega)]
  rfl
local macro_rules | `(tactic| leaf_len) => `(tactic| repeat ((fail_if_success (with_reducible show @ite Prop (gapsR _ = []) _ _ _)); (fail_if_success (with_reducible show @ite Prop ((12 : Int) < _) _ _ _)); (fail_if_success (with_reducible show cPlan _ _ _)); (fail_if_success (with_reducible show cNumberOf _ _ _)); kas_types))
inductive cDue : List D → (D → Prop) → EK → Prop
  | mk {P : D → Prop} {E : EK} (q : Qn) (hq : QnOk q) (k : P (ansD q)) : cDue [.lst (wTab 15 13), qnD q] P E
theorem mo_cDue : ∀ (ds : List D) (P P' : D → Prop) (E E' : EK), (∀ d, P d → P' d) → (∀ v ns es, E v ns es → E' v ns es) → cDue ds P E → cDue ds P' E' := by
  intro ds P P' E E' hp he h
  cases h with
  | mk q hq k => exact .mk q hq (by first | exact hp _ k | exact k.imp hp | (intros; apply hp; apply k <;> assumption))
abbrev S__law_due : Scp := { N := ["table", "question", "size"], sc := defScope (top 58), vs := [("table", 0), ("question", 1), ("size", 2)], ss := [("table", 0), ("question", 1), ("size", 2)], gl := ["_law_gaps", "_law_number_of", "_law_rows_at", "len"], lv := 3 }
local macro_rules | `(tactic| lsm_bools) => `(tactic| first | refine cLawGaps.mk _ (by first | assumption | omega | decide) ?_ | refine cNumberOf.mk _ (by first | assumption | omega | decide) _ ?_ | refine cRowsAt.mk _ _ (by first | assumption | omega | decide) (by first | assumption | omega | decide) (by first | assumption | omega | decide) ?_)
theorem b__law_due {U : Env1} (hB : Blt U ["len"]) (F__law_gaps : U.Def "_law_gaps" 2 [] cLawGaps) (F__law_number_of : U.Def "_law_number_of" 3 [] cNumberOf) (F__law_rows_at : U.Def "_law_rows_at" 3 [] cRowsAt) (G H : Hp) (ds) (P) (E) (h : cDue ds P E) : JSs S__law_due (U.cg G H fun _ => E) (defBody (top 58)) (startD S__law_due.N ds) { nx := fun _ => P .non, rt := P } := by
  obtain ⟨q, hq, k⟩ := h
  have hs : 5000 < sizeLine := by decide
  cases q with
  | many n =>
    dsimp only [qnD]
    dsimp only [ansD] at k
    simp only [QnOk] at hq
    kat_tups
    refine ite_d (fun h => ?_) (fun h => ?_)
    · rw [if_pos (by omega)] at k
      kat_tups
      try exact k
    · rw [if_neg (by omega)] at k
      kat_tups
      refine ixd_lst (wTab_atN hq (by omega)) ?_
      kat_tups
      refine ixd_lst (wRow_at (by omega) (by omega)) ?_
      kat_tups
      try exact k
  | «at» n t =>
    dsimp only [qnD]
    dsimp only [ansD] at k
    simp only [QnOk] at hq
    obtain ⟨q1, q2⟩ := hq
    kat_tups
    refine ite_d (fun h => ?_) (fun h => ?_)
    · rw [if_pos (by omega)] at k
      kat_tups
      try exact k
    · rw [if_neg (by omega)] at k
      kat_tups
      refine ixd_lst (wTab_atN q1 (by omega)) ?_
      kat_tups
      refine ixd_lst (wRow_at (by omega) (by omega)) ?_
      kat_tups
      refine ite_d (fun h2 => ?_) (fun h2 => ?_)
      · rw [if_pos (by omega)] at k
        kat_tups
        try exact k
      · rw [if_neg (by omega)] at k
        obtain ⟨j, rfl⟩ := Int.eq_ofNat_of_zero_le q1
        simp only [Int.toNat_natCast] at k h2
        kat_tups
        try exact k
  | num rows =>
    dsimp only [qnD]
    dsimp only [ansD] at k
    simp only [QnOk] at hq
    obtain ⟨q1, q2⟩ := hq
    have gl := gapsR_len q1
    kat_tups
    rw [List.length_map]
    refine ite_d (fun h => ?_) (fun h => ?_)
    · have hg : gapsR rows ≠ [] := List.length_pos_iff.mp (by omega)
      obtain ⟨g, t, e⟩ := List.exists_cons_of_ne_nil hg
      rw [if_neg hg] at k
      kat_tups
      refine ixd_lst (d := gapD (gap0 rows)) (by unfold gap0; rw [e]; exact atI_head rfl) ?_
      kat_tups
      try exact k
    · have hg : gapsR rows = [] := by
        cases hz : gapsR rows with
        | nil => rfl
        | cons a b => rw [hz] at h; simp at h
      rw [if_pos hg] at k
      have hru : Runs rows := q2.elim id (fun z => absurd hg z)
      leaf_len
      refine cNumberOf.mk rows q1 hru ?_
      kat_tups
      try exact k
inductive cAsk : List D → (D → Prop) → EK → Prop
  | mk {P : D → Prop} {E : EK} (q : Qn) (hq : QnOk q) (k : P (ansD q)) : cAsk [qnD q] P E
theorem mo_cAsk : ∀ (ds : List D) (P P' : D → Prop) (E E' : EK), (∀ d, P d → P' d) → (∀ v ns es, E v ns es → E' v ns es) → cAsk ds P E → cAsk ds P' E' := by
  intro ds P P' E E' hp he h
  cases h with
  | mk q hq k => exact .mk q hq (by first | exact hp _ k | exact k.imp hp | (intros; apply hp; apply k <;> assumption))
abbrev S__law_ask : Scp := { N := ["question", "told", "e", "marks", "mark"], sc := defScope (top 57), vs := [("question", 0), ("told", 1), ("e", 2), ("marks", 3)], ss := [("question", 0), ("told", 1), ("e", 2), ("marks", 3)], gl := ["BadCourse", "BadDesign", "BadEnds", "BadFraction", "BadLot", "BadPage", "BadPlan", "BadPoly", "BadShare", "BadTelling", "BadText", "BadVerdict", "HasGap", "NotStop", "Plan", "Refused", "TooDeep", "TooLong", "TooMany", "TrialError", "Untold", "ValueError", "_law_copy", "gapless_at", "how_many", "isinstance", "rank_of", "sum"], lv := 7 }
local macro_rules | `(tactic| lsm_bools) => `(tactic| first | refine cHowMany.mk _ (by first | assumption | omega | decide) ?_ | refine cGapAt.mk _ _ (by first | assumption | omega | decide) (by first | assumption | omega | decide) ?_ | refine cPlan.mk _ (by first | assumption | omega | decide) ?_ | refine cRank.mk _ (by first | assumption | omega | decide) ?_ | refine cCopyM.mk _ (by first | assumption | omega | decide) ?_ | refine cRows.mk _ (by first | assumption | omega | decide) ?_)
local macro_rules | `(tactic| k_offL) => `(tactic| ((with_reducible show JE _ _ (Expr.ListComp _ _ _ _) _ _); first | refine jf_je (jf_lc (S' := { N := S__law_ask.N, sc := relS _ S__law_ask.sc, vs := [("mark", 4)], ss := [("mark", 4)], gl := ["int"], lv := 7 }) (own := [("mark", 4)]) (ok_B (by decide +kernel) (by decide +kernel) rfl rfl rfl (by decide +kernel)) ?_) | refine jf_je (jf_lcH (S' := { N := S__law_ask.N, sc := relS _ S__law_ask.sc, vs := [("mark", 4)], ss := [("mark", 4)], gl := ["int"], lv := 7 }) (own := [("mark", 4)]) (ok_B (by decide +kernel) (by decide +kernel) rfl rfl rfl (by decide +kernel)) ?_)))
local macro_rules | `(tactic| kd_addW) => `(tactic| first | ((with_reducible show JS _ _ (Stmt.Assign [Expr.Name "marks" _] (Expr.List _ _) _) _ _); refine zs_set (by ktu_offI) ?_))
theorem b__law_ask {U : Env1} {CP : Addr} (hC : PlanC U CP) {XA : Str → Addr} (hE : ErrC U XA xMade xRaised xNames) (hB : Blt U ["isinstance", "sum", "int", "ValueError"]) (F_how_many : U.Def "how_many" 5 [] (cHowMany XA)) (F_gapless_at : U.Def "gapless_at" 6 [] (cGapAt CP XA)) (F_Plan : MakeOk U.P U.w U.K U.mg U.base "Plan" CP 3 cPlan) (F_rank_of : U.Def "rank_of" 7 [] (cRank CP XA)) (F__law_copy_cCopyM : U.DefM "_law_copy" 2 [] cCopyM) (F_Plan_rows : MethOk U.P U.w U.K U.mg U.base CP "rows" 2 (cRows CP)) (G H : Hp) (ds) (P) (E) (h : cAsk ds P E) : JSs S__law_ask (U.cg G H fun _ => E) (defBody (top 57)) (startD S__law_ask.N ds) { nx := fun _ => P .non, rt := P } := by
  obtain ⟨hcl, hcm, hn1, hn2, hins, hne, hob, hsf, hml, hcy⟩ := hC
  obtain ⟨q, hq, k⟩ := h
  have hs : 5000 < sizeLine := by decide
  have cT : P (.tup [.str "TooLong", .int 12]) → catchX S__law_ask (U.cg G H fun _ => E) (.ref (XA "TrialError")) 2 (suiteOf (defBody (top 57))) P (startD S__law_ask.N [qnD q]) (.ref (XA "TooLong")) [fldOf "TooLong"] [.int 12] := fun k => by
    refine catchT hE rfl (by decide +kernel) (by decide +kernel) (by decide +kernel) (fun a d => ?_)
    kat_tups
    refine lcM (fun b : Bool => .int (if b then 1 else 0)) (src_bl [true, false, false, false, false, false, false, false, false, false, false, false, false, false, false, false, false, false, false]) (by decide) ?_ ?_
    · intro b _
      kat_tups
    · rw [mark_ints]
      kat_tups
      try exact k
  have cM : ∀ v : Int, P (.tup [.str "TooMany", .int v]) → catchX S__law_ask (U.cg G H fun _ => E) (.ref (XA "TrialError")) 2 (suiteOf (defBody (top 57))) P (startD S__law_ask.N [qnD q]) (.ref (XA "TooMany")) [fldOf "TooMany"] [.int v] := fun v k => by
    refine catchT hE rfl (by decide +kernel) (by decide +kernel) (by decide +kernel) (fun a d => ?_)
    kat_tups
    refine lcM (fun b : Bool => .int (if b then 1 else 0)) (src_bl [false, true, false, false, false, false, false, false, false, false, false, false, false, false, false, false, false, false, false]) (by decide) ?_ ?_
    · intro b _
      kat_tups
    · rw [mark_ints]
      kat_tups
      try exact k
  have cG : ∀ v : D, P (.tup [.str "HasGap", v]) → catchX S__law_ask (U.cg G H fun _ => E) (.ref (XA "TrialError")) 2 (suiteOf (defBody (top 57))) P (startD S__law_ask.N [qnD q]) (.ref (XA "HasGap")) [fldOf "HasGap"] [v] := fun v k => by
    refine catchT hE rfl (by decide +kernel) (by decide +kernel) (by decide +kernel) (fun a d => ?_)
    kat_tups
    refine lcM (fun b : Bool => .int (if b then 1 else 0)) (src_bl [false, false, true, false, false, false, false, false, false, false, false, false, false, false, false, false, false, false, false]) (by decide) ?_ ?_
    · intro b _
      kat_tups
    · rw [mark_ints]
      kat_tups
      try exact k
  cases q with
  | many n =>
    dsimp only [qnD] at *
    dsimp only [ansD] at k
    simp only [QnOk] at hq
    leaf_len
    by_cases h : 12 < n
    · rw [if_pos h] at k ⊢
      exact cT k
    · rw [if_neg h] at k ⊢
      leaf_len
      try exact k
  | «at» n t =>
    dsimp only [qnD] at *
    dsimp only [ansD] at k
    simp only [QnOk] at hq
    obtain ⟨q1, q2⟩ := hq
    leaf_len
    by_cases h : 12 < n
    · rw [if_pos h] at k ⊢
      exact cT k
    rw [if_neg h] at k ⊢
    by_cases h2 : gwI n.toNat 1 ≤ t
    · rw [if_pos h2] at k ⊢
      exact cM _ k
    rw [if_neg h2] at k ⊢
    have hp := unr_plan (n := n.toNat) (t := t) (by omega) q2 (by omega)
    have hpl := hp.1.1
    leaf_len
    try exact k
  | num rows =>
    dsimp only [qnD] at *
    dsimp only [ansD] at k
    simp only [QnOk] at hq
    obtain ⟨q1, q2⟩ := hq
    have q3 := q1.1
    leaf_len
    rw [tabL_flat, rowAt_mapE]
    refine cPlan.mk rows q1 ?_
    leaf_len
    by_cases hg : gapsR rows = []
    · rw [if_pos hg] at k ⊢
      leaf_len
      try exact k
    · rw [if_neg hg] at k ⊢
      exact cG _ k
end
set_option Elab.async false
set_option linter.all false
set_option maxRecDepth 100000
set_option maxHeartbeats 4000000
section
/-! the law -/
theorem le_sum {a : Int} : ∀ {xs : List Int}, (∀ x ∈ xs, 0 ≤ x) → a ∈ xs → a ≤ xs.sum
  | [], _, h => by cases h
  | b :: xs, hn, h => by
    rw [List.sum_cons]
    have h0 := hn b (.head _)
    have h1 := sum_nn (xs := xs) fun x hx => hn x (.tail _ hx)
    rcases List.mem_cons.mp h with rfl | q
    · omega
    · have := le_sum (xs := xs) (fun x hx => hn x (.tail _ hx)) q
      omega
theorem gwI_pos : ∀ (k : Nat) (m : Int), 1 ≤ m → 1 ≤ gwI k m
  | 0, _, _ => by unfold gwI; decide
  | k + 1, m, h => by
    unfold gwI
    have h1 := gwI_pos k (m + 1) (by omega)
    have hm : (m - m + 1) * gwI k (m + 1) ∈ (rgD 1 (m + 1)).map fun l => (m - l + 1) * gwI k (l + 1) := List.mem_map.mpr ⟨m, rgD_mem.mpr (by omega), rfl⟩
    have := le_sum (fun x hx => by
      obtain ⟨l, hl, rfl⟩ := List.mem_map.mp hx
      have := rgD_mem.mp hl
      exact Int.mul_nonneg (by omega) (gwI_nn k _)) hm
    rw [show m - m + 1 = 1 by omega, Int.one_mul] at this
    omega
theorem gaps_fill {rows : List (List Int)} (h : Runs rows) : gapsR rows = [] := by
  unfold gapsR
  rw [List.flatMap_eq_nil_iff]
  rintro ⟨r, n⟩ hx
  have hr := h r (List.mem_of_getElem? (List.mk_mem_zipIdx_iff_getElem?.mp hx))
  unfold gapsOf
  rw [List.filterMap_eq_nil_iff]
  rintro ⟨i, j⟩ hij
  rw [if_neg]
  dsimp only at *
  obtain ⟨m, hm, e⟩ := List.mem_iff_getElem.mp hij
  rw [List.getElem_zip] at e
  simp only [Prod.mk.injEq] at e
  obtain ⟨e1, e2⟩ := e
  rw [List.getElem_tail] at e2
  rw [List.length_zip, List.length_tail] at hm
  have h1 : r[m]? = some i := by rw [List.getElem?_eq_getElem (by omega), e1]
  have h2 : r[m + 1]? = some j := by rw [List.getElem?_eq_getElem (by omega), e2]
  rw [← hr] at h1 h2
  unfold fillRow at h1 h2
  obtain ⟨g1, g2⟩ := List.getElem?_eq_some_iff.mp h1
  obtain ⟨g3, g4⟩ := List.getElem?_eq_some_iff.mp h2
  rw [rgD_get] at g2 g4
  omega
theorem dp_rowJ {j : Nat} {r : List Int} (h : r.length ≤ 1000) : Dp (j + 1) (rowL r) := dp_lmap (by omega) fun _ _ => dp_int
theorem dp_rowsJ {j : Nat} {rows : List (List Int)} (hr : PlanOk rows) : Dp (j + 2) (.lst (rows.map rowL)) := dp_lmap (by have := hr.1; omega) fun r h => dp_rowJ (by have := (Pl.mem hr h).len; omega)
theorem dp_ans {q : Qn} (h : QnOk q) : Dp 5 (ansD q) := by
  cases q with
  | many n =>
    dsimp only [ansD]
    split
    · exact dp_tup (by simp) (dp_all_cons dp_str (dp_all_cons dp_int dp_all_nil))
    · exact dp_tup (by simp) (dp_all_cons dp_str (dp_all_cons dp_int dp_all_nil))
  | «at» n t =>
    simp only [QnOk] at h
    dsimp only [ansD]
    split
    · exact dp_tup (by simp) (dp_all_cons dp_str (dp_all_cons dp_int dp_all_nil))
    · split
      · exact dp_tup (by simp) (dp_all_cons dp_str (dp_all_cons dp_int dp_all_nil))
      · have hp := unr_plan (n := n.toNat) (t := t) (by omega) h.2 (by omega)
        exact dp_tup (by simp) (dp_all_cons dp_str (dp_all_cons (dp_rowsJ hp.1) dp_all_nil))
  | num rows =>
    simp only [QnOk] at h
    dsimp only [ansD]
    split
    · exact dp_tup (by simp) (dp_all_cons dp_str (dp_all_cons dp_int dp_all_nil))
    · exact dp_tup (by simp) (dp_all_cons dp_str (dp_all_cons (dp_tup (by simp) (dp_all_cons dp_int (dp_all_cons dp_int (dp_all_cons dp_int dp_all_nil)))) dp_all_nil))
theorem jss_eq {S : Scp} {Γ : Cg} {sts : List Stmt} {δ δ' : List Sl} {Kp0 : Kp} (e : δ = δ') (h : JSs S Γ sts δ' Kp0) : JSs S Γ sts δ Kp0 := by
  rw [e]
  exact h
def qs1 (j jm : Nat) (g1 : Int) : List Qn := [.many j, .many jm, .many 12, .many g1, .many 0]
def qs2 (j : Nat) (a : Int) : List Qn := [a, if a - 1 > 0 then a - 1 else 0, a + 1, 0, gwI j 1 - 1, gwI j 1, gwI j 1 + 1].map (fun t => Qn.at j t)
def qs3 (j : Nat) (g2 : Int) : List Qn := [.at j (10000000000000000000000000000000000000000 - 1), .at 13 g2, .at (10000000000000000000000000000000000000000 - 1) (10000000000000000000000000000000000000000 - 1)]
def qs4 (jm : Nat) (u1 u2 : Int) : List Qn := [.at jm u1, .at 12 u2]
def qs5 (j jm : Nat) (a g1 g2 u1 u2 : Int) : List Qn := qs1 j jm g1 ++ qs2 j a ++ qs3 j g2 ++ qs4 jm u1 u2 ++ [.num (unr j 0 0 a), .num (unr j 0 0 (gwI j 1 - 1))]
def qs7 (qs : List Qn) (rows gp : List (List Int)) : List Qn := qs ++ [.num rows, .at rows.length (rnk rows 0 0)] ++ [.num gp, .num []]
local macro_rules | `(tactic| kct_strs) => `(tactic| ((with_reducible show OpD _ _ (binaryOp Operator.Add) (D.lst _) (D.lst _) _); refine of_od (of_cat (by simp only [List.length_cons, List.length_nil, List.length_map, List.length_append]; omega) ?_)))
local macro_rules | `(tactic| tlg_ne) => `(tactic| refine je_call0 (by assumption) (by first | decide | exact Nat.le_refl _) (by ktu_offL) ?_)
local macro_rules | `(tactic| leaf_len) => `(tactic| repeat ((fail_if_success (with_reducible show @ite Prop (gapsR _ = []) _ _ _)); (fail_if_success (with_reducible show @ite Prop ((12 : Int) < _) _ _ _)); (fail_if_success (with_reducible show cPlan _ _ _)); (fail_if_success (with_reducible show cSame _ _ _ _)); (fail_if_success (with_reducible show cNumberOf _ _ _)); kas_types))
abbrev S_law : Scp := { N := ["script", "store", "table", "great", "n", "size", "m", "at", "questions", "number", "rows", "question", "plan"], sc := defScope (top 59), vs := [("script", 0), ("store", 1), ("table", 2), ("great", 3), ("n", 4), ("size", 5), ("m", 6), ("at", 7), ("questions", 8), ("number", 9), ("rows", 10), ("question", 11), ("plan", 12)], ss := [("script", 0), ("store", 1), ("table", 2), ("great", 3), ("n", 4), ("size", 5), ("m", 6), ("at", 7), ("questions", 8), ("number", 9), ("rows", 10), ("question", 11), ("plan", 12)], gl := ["Plan", "_law_ask", "_law_between", "_law_copy", "_law_counts", "_law_draws", "_law_due", "_law_gapless_rows", "_law_gapped_rows", "_law_number_of", "_law_pick", "_law_rows_at", "_law_same", "_law_take", "gapless_at", "len", "max", "range", "rank_of"], lv := 8 }
local macro_rules | `(tactic| lsm_bools) => `(tactic| first | refine cDraws.mk _ (by first | assumption | omega | decide) ?_ | refine cLCounts.mk ?_ | refine cBetween.mk _ (by first | assumption | omega | decide) _ _ (fun v hk1 hk2 => ?_) | refine cTake.mk _ (by first | assumption | omega | decide) _ (fun v hk1 hk2 => ?_) | refine cPick.mk _ (by first | assumption | omega | decide) _ (by first | assumption | omega | decide) (by first | assumption | omega | decide) (fun d hk1 => ?_) | refine cRowsAt.mk _ _ (by first | assumption | omega | decide) (by first | assumption | omega | decide) (by first | assumption | omega | decide) ?_ | refine cGapless0.mk _ (by first | assumption | omega | decide) _ (by first | assumption | omega | decide) (by first | assumption | omega | decide) (fun rows hk1 hk2 => ?_) | refine cNumberOf.mk _ (by first | assumption | omega | decide) _ ?_ | refine cGapped.mk _ (by first | assumption | omega | decide) _ (by first | assumption | omega | decide) (by first | assumption | omega | decide) (fun rows hk1 hk2 hk3 => ?_) | refine cAsk.mk _ (by first | assumption | omega | decide) ?_ | refine cDue.mk _ (by first | assumption | omega | decide) ?_ | refine cPlan.mk _ (by first | assumption | omega | decide) ?_ | refine cRank.mk _ (by first | assumption | omega | decide) ?_ | refine cGapAt.mk _ _ (by first | assumption | omega | decide) (by first | assumption | omega | decide) ?_ | refine cCopyM.mk _ (by first | assumption | omega | decide) ?_ | refine cRows.mk _ (by first | assumption | omega | decide) ?_ | refine cEq.mk _ _ (by first | assumption | omega | decide) (by first | assumption | omega | decide) ?_ | refine cGapless.mk _ (by first | assumption | omega | decide) ?_ | refine cGaps.mk _ (by first | assumption | omega | decide) ?_)
local macro_rules | `(tactic| k_offL) => `(tactic| ((with_reducible show JE _ _ (Expr.ListComp _ _ _ _) _ _); first | refine jf_je (jf_lc (S' := { N := S_law.N, sc := relS _ S_law.sc, vs := [("n", 4), ("table", 2)], ss := [("n", 4)], gl := [], lv := 8 }) (own := [("n", 4)]) (ok_B (by decide +kernel) (by decide +kernel) rfl rfl rfl (by decide +kernel)) ?_) | refine jf_je (jf_lc (S' := { N := S_law.N, sc := relS _ S_law.sc, vs := [("number", 9), ("n", 4)], ss := [("number", 9)], gl := [], lv := 8 }) (own := [("number", 9)]) (ok_B (by decide +kernel) (by decide +kernel) rfl rfl rfl (by decide +kernel)) ?_)))
local macro_rules | `(tactic| kd_addW) => `(tactic| first | ((with_reducible show JS _ _ (Stmt.Assign [Expr.Name "questions" _] (Expr.List _ _) _) _ _); refine zs_set (by ktu_offI) ?_))
theorem b_law {U : Env1} {CP : Addr} (hC : PlanC U CP) {XA : Str → Addr} (hE : ErrC U XA xMade xRaised xNames) (hB : Blt U ["range", "max", "len"]) (F__law_draws : U.Def "_law_draws" 2 [] cDraws) (F__law_counts : U.Def "_law_counts" 2 [] cLCounts) (F__law_between : U.Def "_law_between" 4 [] cBetween) (F__law_take : U.Def "_law_take" 3 [] cTake) (F__law_pick : U.Def "_law_pick" 4 [] cPick) (F__law_rows_at : U.Def "_law_rows_at" 3 [] cRowsAt) (F__law_gapless_rows : U.DefF "_law_gapless_rows" 4 [] cGapless0) (F__law_number_of : U.Def "_law_number_of" 3 [] cNumberOf) (F__law_gapped_rows : U.DefF "_law_gapped_rows" 5 [] cGapped) (F__law_same : U.Def "_law_same" 7 [] (cSame 5)) (F__law_ask : U.Def "_law_ask" 8 [] cAsk) (F__law_due : U.Def "_law_due" 4 [] cDue) (F_Plan : MakeOk U.P U.w U.K U.mg U.base "Plan" CP 3 cPlan) (F_rank_of : U.Def "rank_of" 7 [] (cRank CP XA)) (F_gapless_at : U.Def "gapless_at" 6 [] (cGapAt CP XA)) (F__law_copy_cCopyM : U.DefM "_law_copy" 2 [] cCopyM) (F_Plan_rows : MethOk U.P U.w U.K U.mg U.base CP "rows" 2 (cRows CP)) (F_Plan___eq__ : MethOk U.P U.w U.K U.mg U.base CP "__eq__" 2 (cEq CP)) (F_Plan_gapless : PropOk U.P U.w U.K U.mg U.base CP "gapless" 5 (cGapless CP)) (F_Plan_gaps : PropOk U.P U.w U.K U.mg U.base CP "gaps" 3 (cGaps CP)) (G H : Hp) (ds) (P) (E) (h : cLaw ds P E) : JSs S_law (U.cg G H fun _ => E) (defBody (top 59)) (startD S_law.N ds) { nx := fun _ => P .non, rt := P } := by
  obtain ⟨hcl, hcm, hn1, hn2, hins, hne, hob, hsf, hml, hcy⟩ := hC
  obtain ⟨ns, hl, hbits, k⟩ := h
  have hs : 5000 < sizeLine := by decide
  kat_tups
  refine lcM (fun n : Int => .int (gwI n.toNat 1)) (src_rg1 (b := 6)) (by decide) ?_ ?_
  · intro n hn
    have hn := rgD_mem.mp hn
    kat_tups
    refine ixd_lst (wTab_atN (by omega) (by omega)) ?_
    kat_tups
    refine ixd_lst (wRow_at (by omega) (by omega)) ?_
    kat_tups
    try rfl
  have e6 : ((rgD 0 6).map fun n : Int => D.int (gwI n.toNat 1)) = [1, 1, 3, 12, 55, 273].map D.int := by
    rw [map_int]
    exact congrArg (List.map D.int) (by decide +kernel)
  rw [e6]
  kat_tups
  refine od_neE (enc_lst enc_int) (by decide) (x := [1, 1, 3, 12, 55, 273]) (y := [1, 1, 3, 12, 55, 273]) ?_
  repeat ((fail_if_success (with_reducible show JSs _ _ (Stmt.Assign [Expr.Name "questions" _] _ _ :: _) _ _)); kas_types)
  rename_i n hn1 hn2
  obtain ⟨j, rfl⟩ := Int.eq_ofNat_of_zero_le hn1
  have hj : j ≤ 12 := by omega
  have hp := gwI_pos j 1 (by decide)
  refine ixd_lst (wTab_atN (by omega) (by omega)) ?_
  kat_tups
  refine ixd_lst (wRow_at (by omega) (by omega)) ?_
  repeat ((fail_if_success (with_reducible show JSs _ _ (Stmt.Assign [Expr.Name "questions" _] _ _ :: _) _ _)); kas_types)
  rename_i m hm1 hm2 a ha1 ha2
  obtain ⟨jm, rfl⟩ := Int.eq_ofNat_of_zero_le hm1
  have hjm : jm ≤ 5 := by omega
  have hpm := gwI_pos jm 1 (by decide)
  kas_types
  repeat ((fail_if_success (with_reducible show JSs _ _ (Stmt.Assign [Expr.Name "questions" _] _ _ :: _) _ _)); kas_types)
  rename_i dg hdg
  obtain ⟨g1, rfl, hg1⟩ : ∃ g : Int, dg = .int g ∧ 0 ≤ g := by
    simp only [List.mem_cons, List.not_mem_nil, or_false] at hdg
    rcases hdg with rfl | rfl | rfl <;> exact ⟨_, rfl, by decide⟩
  refine jss_eq (δ' := [.fz (.scr ns), .fz (.sto ns), .fz (.lst (wTab 15 13)), .fz (.int (10000000000000000000000000000000000000000 - 1)), .fz (.int j), .fz (.int (gwI j 1)), .fz (.int jm), .fz (.int a), .fz (.lst ((qs1 j jm g1).map qnD)), .no, .no, .no, .no]) rfl ?_
  have l1 : (qs1 j jm g1).length = 5 := rfl
  kas_types
  repeat ((fail_if_success (with_reducible show JSs _ _ (Stmt.Assign [Expr.Name "questions" _] _ _ :: _) _ _)); kas_types)
  refine lcM (fun t : Int => .tup [.str "at", .int j, .int t]) (src_map (xs := [a, if a - 1 > 0 then a - 1 else 0, a + 1, 0, gwI j 1 - 1, gwI j 1, gwI j 1 + 1])) (by simp) ?_ ?_
  · intro t _
    kat_tups
    try rfl
  repeat ((fail_if_success (with_reducible show JSs _ _ (Stmt.Assign [Expr.Name "questions" _] _ _ :: _) _ _)); kas_types)
  refine jss_eq (δ' := [.fz (.scr ns), .fz (.sto ns), .fz (.lst (wTab 15 13)), .fz (.int (10000000000000000000000000000000000000000 - 1)), .fz (.int j), .fz (.int (gwI j 1)), .fz (.int jm), .fz (.int a), .fz (.lst ((qs1 j jm g1 ++ qs2 j a).map qnD)), .no, .no, .no, .no]) rfl ?_
  have l2 : (qs1 j jm g1 ++ qs2 j a).length = 12 := rfl
  generalize hq2 : qs1 j jm g1 ++ qs2 j a = Q2 at l2
  kas_types
  repeat ((fail_if_success (with_reducible show JSs _ _ (Stmt.Assign [Expr.Name "questions" _] _ _ :: _) _ _)); kas_types)
  rename_i dg2 hdg2
  obtain ⟨g2, rfl, hg2⟩ : ∃ g : Int, dg2 = .int g ∧ 0 ≤ g := by
    simp only [List.mem_cons, List.not_mem_nil, or_false] at hdg2
    rcases hdg2 with rfl | rfl <;> exact ⟨_, rfl, by decide⟩
  refine jss_eq (δ' := [.fz (.scr ns), .fz (.sto ns), .fz (.lst (wTab 15 13)), .fz (.int (10000000000000000000000000000000000000000 - 1)), .fz (.int j), .fz (.int (gwI j 1)), .fz (.int jm), .fz (.int a), .fz (.lst ((Q2 ++ qs3 j g2).map qnD)), .no, .no, .no, .no]) (by rw [List.map_append]; rfl) ?_
  have l3 : (Q2 ++ qs3 j g2).length = 15 := by rw [List.length_append, l2]; rfl
  generalize hq3 : Q2 ++ qs3 j g2 = Q3 at l3
  kas_types
  repeat ((fail_if_success (with_reducible show JSs _ _ (Stmt.Assign [Expr.Name "questions" _] _ _ :: _) _ _)); kas_types)
  refine ixd_lst (wTab_atN (n := (jm : Int)) (by omega) (by omega)) ?_
  kat_tups
  refine ixd_lst (wRow_at (by omega) (by omega)) ?_
  repeat ((fail_if_success (with_reducible show JSs _ _ (Stmt.Assign [Expr.Name "questions" _] _ _ :: _) _ _)); kas_types)
  rename_i u1 hu1 hu2 u2 hu3 hu4
  clear hu4 hu2
  refine jss_eq (δ' := [.fz (.scr ns), .fz (.sto ns), .fz (.lst (wTab 15 13)), .fz (.int (10000000000000000000000000000000000000000 - 1)), .fz (.int j), .fz (.int (gwI j 1)), .fz (.int jm), .fz (.int a), .fz (.lst ((Q3 ++ qs4 jm u1 u2).map qnD)), .no, .no, .no, .no]) (by rw [List.map_append]; rfl) ?_
  have l4 : (Q3 ++ qs4 jm u1 u2).length = 17 := by rw [List.length_append, l3]; rfl
  generalize hq4 : Q3 ++ qs4 jm u1 u2 = Q4 at l4
  kas_types
  repeat ((fail_if_success (with_reducible show JSs _ _ (Stmt.Assign [Expr.Name "questions" _] _ _ :: _) _ _)); kas_types)
  refine cRowsAt.mk j a hj ha1 (by have ha3 : a ≤ gwI j 1 - 1 ∨ a = 0 := ha2; omega) ?_
  repeat ((fail_if_success (with_reducible show JSs _ _ (Stmt.Assign [Expr.Name "questions" _] _ _ :: _) _ _)); kas_types)
  rename_i nr hnr1 hnr2 rows hr1 hr2
  refine jss_eq (δ' := [.fz (.scr ns), .fz (.sto ns), .fz (.lst (wTab 15 13)), .fz (.int (10000000000000000000000000000000000000000 - 1)), .fz (.int j), .fz (.int (gwI j 1)), .fz (.int jm), .fz (.int a), .fz (.lst ((Q4 ++ [Qn.num (unr j 0 0 a), Qn.num (unr j 0 0 (gwI j 1 - 1))]).map qnD)), .no, .fz (.lst (rows.map rowL)), .no, .no]) (by rw [List.map_append]; rfl) ?_
  have l5 : (Q4 ++ [Qn.num (unr j 0 0 a), Qn.num (unr j 0 0 (gwI j 1 - 1))]).length = 19 := by rw [List.length_append, l4]; rfl
  generalize hq5 : Q4 ++ [Qn.num (unr j 0 0 a), Qn.num (unr j 0 0 (gwI j 1 - 1))] = Q5 at l5
  have r12 := hr1.1.1
  have hml : (rows.map rowL).length = rows.length := List.length_map _
  kas_types
  repeat ((fail_if_success (with_reducible show JSs _ _ (Stmt.Assign [Expr.Name "questions" _] _ _ :: _) _ _)); kas_types)
  refine cNumberOf.mk rows hr1.1 hr1.2.2 ?_
  repeat ((fail_if_success (with_reducible show JSs _ _ (Stmt.Assign [Expr.Name "questions" _] _ _ :: _) _ _)); kas_types)
  kas_types
  repeat ((fail_if_success (with_reducible show JSs _ _ (Stmt.For _ _ _ _ _ :: _) _ _)); kas_types)
  rename_i ng hng1 hng2 gp hgp1 hgp2 hgp3
  refine jss_eq (δ' := [.fz (.scr ns), .fz (.sto ns), .fz (.lst (wTab 15 13)), .fz (.int (10000000000000000000000000000000000000000 - 1)), .fz (.int j), .fz (.int (gwI j 1)), .fz (.int jm), .fz (.int a), .fz (.lst ((qs7 Q5 rows gp).map qnD)), .no, .fz (.lst (rows.map rowL)), .no, .no]) (by unfold qs7; rw [List.map_append, List.map_append, hml]; rfl) ?_
  have l7 : (qs7 Q5 rows gp).length = 23 := by unfold qs7; rw [List.length_append, List.length_append, l5]; rfl
  have hok : ∀ q ∈ qs7 Q5 rows gp, QnOk q := by
    have pa := unr_plan (n := j) (t := a) hj ha1 (by have ha3 : a ≤ gwI j 1 - 1 ∨ a = 0 := ha2; omega)
    have pb := unr_plan (n := j) (t := gwI j 1 - 1) hj (by omega) (by omega)
    have pr := rnk_plan hr1.1 hr1.2.2
    have ok1 : QnOk (.num (unr j 0 0 a)) := ⟨pa.1, .inl pa.2.1⟩
    have ok2 : QnOk (.num (unr j 0 0 (gwI j 1 - 1))) := ⟨pb.1, .inl pb.2.1⟩
    have ok3 : QnOk (.num rows) := ⟨hr1.1, .inl hr1.2.2⟩
    have ok4 : QnOk (.at rows.length (rnk rows 0 0)) := ⟨by omega, pr.1⟩
    have ok5 : QnOk (.num gp) := ⟨hgp1, .inr hgp3⟩
    have ok6 : QnOk (.num []) := ⟨⟨by decide, trivial⟩, .inl runs_nil⟩
    have ok7 : QnOk (.at j (if a - 1 > 0 then a - 1 else 0)) := ⟨by omega, by split <;> omega⟩
    have ok8 : QnOk (.at j (10000000000000000000000000000000000000000 - 1)) := ⟨by omega, by decide⟩
    have ok9 : QnOk (.at (10000000000000000000000000000000000000000 - 1) (10000000000000000000000000000000000000000 - 1)) := ⟨by decide, by decide⟩
    have mk1 : ∀ n : Int, 0 ≤ n → QnOk (.many n) := fun n h => h
    have mk2 : ∀ n t : Int, 0 ≤ n → 0 ≤ t → QnOk (.at n t) := fun n t h1 h2 => ⟨h1, h2⟩
    intro q hq
    rw [← hq5, ← hq4, ← hq3, ← hq2] at hq
    simp only [qs7, qs1, qs2, qs3, qs4, List.map_cons, List.map_nil, List.mem_append, List.mem_cons, List.not_mem_nil, or_false] at hq
    repeat' (rcases hq with hq | hq)
    all_goals first | exact ok1 | exact ok2 | exact ok3 | exact ok4 | exact ok5 | exact ok6 | exact ok7 | exact ok8 | exact ok9 | exact mk1 _ (by omega) | exact mk2 _ _ (by omega) (by omega)
  clear hq5 hq4 hq3 hq2
  generalize qs7 Q5 rows gp = Q7 at l7 hok
  have lc : (cutL Q7 none (some 6)).length ≤ 23 := by rw [cutL_to (by decide), List.length_take]; omega
  have hok2 : ∀ q ∈ Q7 ++ cutL Q7 none (some 6), QnOk q := fun q hq => by
    rcases List.mem_append.mp hq with h | h
    · exact hok q h
    · rw [cutL_to (by decide)] at h
      exact hok q (List.mem_of_mem_take h)
  kat_tups
  rw [← List.map_append]
  generalize Q7 ++ cutL Q7 none (some 6) = Q8 at hok2
  kat_tups
  refine each (fun rest δ' => ∃ s11 : Sl, δ' = [.fz (.scr ns), .fz (.sto ns), .fz (.lst (wTab 15 13)), .fz (.int (10000000000000000000000000000000000000000 - 1)), .fz (.int j), .fz (.int (gwI j 1)), .fz (.int jm), .fz (.int a), .fz (.lst (Q7.map qnD)), .no, .fz (.lst (rows.map rowL)), s11, .no]) src_map ⟨_, rfl⟩ ?_ ?_
  · rintro q rest δ' hq ⟨s11, rfl⟩
    have okq := hok2 q hq
    have dpq := dp_ans okq
    leaf_len
    refine cSame.mk _ dpq ?_
    leaf_len
    try exact ⟨_, rfl⟩
  · rintro δ' ⟨s11, rfl⟩
    have hg := gaps_fill hr1.2.2
    obtain ⟨pr1, pr2, pr3⟩ := rnk_plan hr1.1 hr1.2.2
    have r12b : ¬ ((12 : Int) < rows.length) := by omega
    have hrk : PlanOk rows := hr1.1
    have r1000 : rows.length ≤ 1000 := by omega
    leaf_len
    rw [tabL_flat, rowAt_mapE]
    refine cPlan.mk rows hr1.1 ?_
    leaf_len
    rw [if_pos hg]
    leaf_len
    refine cSame.mk _ (dp_rowsJ hrk) ?_
    leaf_len
    rw [hml, if_neg r12b, Int.toNat_natCast, if_neg (by omega), pr3]
    leaf_len
    refine ite_dT rfl ?_
    leaf_len
    rw [decide_eq_true hg]
    try exact k
end
end Z
set_option Elab.async false
set_option linter.all false
set_option maxRecDepth 100000
set_option maxHeartbeats 4000000
namespace Z
open PySem L2
variable [tabsI : TabsT]
theorem all_mk {l : PySem.W.OpenLaw} {w : World} {K : PySem.W.Frag} {h : Heap} {mg : Str → Option Value} {fa CP XTooLong XTooMany XHasGap XBadText XBadEnds XBadPlan XBadTelling XBadVerdict XBadCourse XNotStop XBadLot XBadShare XBadPoly XBadFraction XBadDesign XUntold XTooDeep XBadPage XRefused XTrialError fITooLong ccTooLong cdaTooLong NTooLong fITooMany ccTooMany cdaTooMany NTooMany fIHasGap ccHasGap cdaHasGap NHasGap f0 f1 f2 f3 f4 f5 f6 f7 f8 f9 f10 p10 f11 f12 p12 f13 p13 f14 f15 f16 f17 f18 f19 f20 f21 f22 f23 f24 f25 f26 f27 f28 f29 f30 f31 f32 f33 f34 : Addr} (X : K.In h) (G : h.Ns mainGlobals mg) (hfa : mg "law" = some (.ref fa))
    {ddTooLong xodTooLong xanTooLong cddTooLong cldTooLong ddTooMany xodTooMany xanTooMany cddTooMany cldTooMany ddHasGap xodHasGap xanHasGap cddHasGap cldHasGap : Option Addr} {xslTooLong ccsTooLong cslTooLong xslTooMany ccsTooMany cslTooMany xslHasGap ccsHasGap cslHasGap : Array (Option Value)} {xocTooLong xkVTooLong xdcTooLong xpmTooLong xctTooLong cclTooLong clTooLong xocTooMany xkVTooMany xdcTooMany xpmTooMany xctTooMany cclTooMany clTooMany xocHasGap xkVHasGap xdcHasGap xpmHasGap xctHasGap cclHasGap clHasGap oc0 kV0 dc0 pm0 ct0 cd0 oc1 kV1 dc1 pm1 ct1 cd1 oc2 kV2 dc2 pm2 ct2 cd2 oc3 kV3 dc3 pm3 ct3 cd3 oc4 kV4 dc4 pm4 ct4 cd4 oc5 kV5 dc5 pm5 ct5 cd5 oc6 kV6 dc6 pm6 ct6 cd6 oc7 kV7 dc7 pm7 ct7 cd7 oc8 kV8 dc8 pm8 ct8 cd8 oc9 kV9 dc9 pm9 ct9 cd9 oc10 kV10 dc10 pm10 ct10 cd10 oc11 kV11 dc11 pm11 ct11 cd11 oc12 kV12 dc12 pm12 ct12 cd12 oc13 kV13 dc13 pm13 ct13 cd13 oc14 kV14 dc14 pm14 ct14 cd14 oc15 kV15 dc15 pm15 ct15 cd15 oc16 kV16 dc16 pm16 ct16 cd16 oc17 kV17 dc17 pm17 ct17 cd17 oc18 kV18 dc18 pm18 ct18 cd18 oc19 kV19 dc19 pm19 ct19 cd19 oc20 kV20 dc20 pm20 ct20 cd20 oc21 kV21 dc21 pm21 ct21 cd21 oc22 kV22 dc22 pm22 ct22 cd22 oc23 kV23 dc23 pm23 ct23 cd23 oc24 kV24 dc24 pm24 ct24 cd24 oc25 kV25 dc25 pm25 ct25 cd25 oc26 kV26 dc26 pm26 ct26 cd26 oc27 kV27 dc27 pm27 ct27 cd27 oc28 kV28 dc28 pm28 ct28 cd28 oc29 kV29 dc29 pm29 ct29 cd29 oc30 kV30 dc30 pm30 ct30 cd30 oc31 kV31 dc31 pm31 ct31 cd31 oc32 kV32 dc32 pm32 ct32 cd32 oc33 kV33 dc33 pm33 ct33 cd33 oc34 kV34 dc34 pm34 ct34 cd34 : Value}  {tML : Tok} {nmTooLong qnTooLong fileTooLong : Str} {bsTooLong bmTooLong suTooLong : List Value} {snTooLong : List Str} {abTooLong : Bool} {colTooLong : Option Bool} {kATooLong kBTooLong kCTooLong kDTooLong kETooLong : Option Value} {vsTooLong : Array Value} {tfTooLong : Tok} {nmTooMany qnTooMany fileTooMany : Str} {bsTooMany bmTooMany suTooMany : List Value} {snTooMany : List Str} {abTooMany : Bool} {colTooMany : Option Bool} {kATooMany kBTooMany kCTooMany kDTooMany kETooMany : Option Value} {vsTooMany : Array Value} {tfTooMany : Tok} {nmHasGap qnHasGap fileHasGap : Str} {bsHasGap bmHasGap suHasGap : List Value} {snHasGap : List Str} {abHasGap : Bool} {colHasGap : Option Bool} {kAHasGap kBHasGap kCHasGap kDHasGap kEHasGap : Option Value} {vsHasGap : Array Value} {tfHasGap : Tok} {r10 : List Value} {r12 : List Value} {r13 : List Value}
    (aC : PySem.W.nsIn K mainGlobals "Plan" = some (some (.ref CP)))
    (Qpg : PySem.W.plainGet K CP Str.empty = true)
    (Qhd : PySem.W.hasDictIn K CP = true)
    (Qpo : PySem.W.plainOver K CP = true)
    (Qsa : PySem.W.findIn K (.ref CP) "__setattr__" = some (some (.builtin "object.__setattr__")))
    (Qty : PySem.W.typeIn K (.ref CP) = some (.type "type"))
    (Qmk : PySem.W.makesIn K CP = true)
    (Qkc : PySem.W.keepIn K (.ref CP) = true)
    (Qn1 : PySem.W.findIn K (.ref CP) "go_rows" = some none)
    (Qn2 : PySem.W.findIn K (.ref CP) "met_rows" = some none)
    (Qhc : PySem.W.findIn K (.ref CP) "__class__" = some (some (.builtin "object.__class__")))
    (Qhg : PySem.W.specialIn K (.builtin "object.__class__") "__get__" = some (some (.builtin "getset_descriptor.__get__")))
    (Qht : PySem.W.takesIn K (.builtin "object.__class__") = some true)
    (Qhm : PySem.W.mroIn K CP (.type "object") = some true)
    (Qne : PySem.W.findIn K (.ref CP) "__ne__" = some (some (.builtin "object.__ne__")))
    (Qob : PySem.W.subIn K (.ref CP) (.type "object") = some true)
    (Qsf : PySem.W.selfFirst K CP = true)
    (aML : PySem.W.nsIn K mainGlobals "MOST_LOOKS" = some (some (.int 12 tML)))
    (aTooLong : PySem.W.nsIn K mainGlobals "TooLong" = some (some (.ref XTooLong)))
    (beTooLong : PySem.W.subIn K (.ref XTooLong) (.type "BaseException") = some true)
    (hdTooLong : PySem.W.hasDictIn K XTooLong = true)
    (tyTooLong : PySem.W.typeIn K (.ref XTooLong) = some (.type "type"))
    (aTooMany : PySem.W.nsIn K mainGlobals "TooMany" = some (some (.ref XTooMany)))
    (beTooMany : PySem.W.subIn K (.ref XTooMany) (.type "BaseException") = some true)
    (hdTooMany : PySem.W.hasDictIn K XTooMany = true)
    (tyTooMany : PySem.W.typeIn K (.ref XTooMany) = some (.type "type"))
    (aHasGap : PySem.W.nsIn K mainGlobals "HasGap" = some (some (.ref XHasGap)))
    (beHasGap : PySem.W.subIn K (.ref XHasGap) (.type "BaseException") = some true)
    (hdHasGap : PySem.W.hasDictIn K XHasGap = true)
    (tyHasGap : PySem.W.typeIn K (.ref XHasGap) = some (.type "type"))
    (aBadText : PySem.W.nsIn K mainGlobals "BadText" = some (some (.ref XBadText)))
    (beBadText : PySem.W.subIn K (.ref XBadText) (.type "BaseException") = some true)
    (hdBadText : PySem.W.hasDictIn K XBadText = true)
    (tyBadText : PySem.W.typeIn K (.ref XBadText) = some (.type "type"))
    (aBadEnds : PySem.W.nsIn K mainGlobals "BadEnds" = some (some (.ref XBadEnds)))
    (beBadEnds : PySem.W.subIn K (.ref XBadEnds) (.type "BaseException") = some true)
    (hdBadEnds : PySem.W.hasDictIn K XBadEnds = true)
    (tyBadEnds : PySem.W.typeIn K (.ref XBadEnds) = some (.type "type"))
    (aBadPlan : PySem.W.nsIn K mainGlobals "BadPlan" = some (some (.ref XBadPlan)))
    (beBadPlan : PySem.W.subIn K (.ref XBadPlan) (.type "BaseException") = some true)
    (hdBadPlan : PySem.W.hasDictIn K XBadPlan = true)
    (tyBadPlan : PySem.W.typeIn K (.ref XBadPlan) = some (.type "type"))
    (aBadTelling : PySem.W.nsIn K mainGlobals "BadTelling" = some (some (.ref XBadTelling)))
    (beBadTelling : PySem.W.subIn K (.ref XBadTelling) (.type "BaseException") = some true)
    (hdBadTelling : PySem.W.hasDictIn K XBadTelling = true)
    (tyBadTelling : PySem.W.typeIn K (.ref XBadTelling) = some (.type "type"))
    (aBadVerdict : PySem.W.nsIn K mainGlobals "BadVerdict" = some (some (.ref XBadVerdict)))
    (beBadVerdict : PySem.W.subIn K (.ref XBadVerdict) (.type "BaseException") = some true)
    (hdBadVerdict : PySem.W.hasDictIn K XBadVerdict = true)
    (tyBadVerdict : PySem.W.typeIn K (.ref XBadVerdict) = some (.type "type"))
    (aBadCourse : PySem.W.nsIn K mainGlobals "BadCourse" = some (some (.ref XBadCourse)))
    (beBadCourse : PySem.W.subIn K (.ref XBadCourse) (.type "BaseException") = some true)
    (hdBadCourse : PySem.W.hasDictIn K XBadCourse = true)
    (tyBadCourse : PySem.W.typeIn K (.ref XBadCourse) = some (.type "type"))
    (aNotStop : PySem.W.nsIn K mainGlobals "NotStop" = some (some (.ref XNotStop)))
    (beNotStop : PySem.W.subIn K (.ref XNotStop) (.type "BaseException") = some true)
    (hdNotStop : PySem.W.hasDictIn K XNotStop = true)
    (tyNotStop : PySem.W.typeIn K (.ref XNotStop) = some (.type "type"))
    (aBadLot : PySem.W.nsIn K mainGlobals "BadLot" = some (some (.ref XBadLot)))
    (beBadLot : PySem.W.subIn K (.ref XBadLot) (.type "BaseException") = some true)
    (hdBadLot : PySem.W.hasDictIn K XBadLot = true)
    (tyBadLot : PySem.W.typeIn K (.ref XBadLot) = some (.type "type"))
    (aBadShare : PySem.W.nsIn K mainGlobals "BadShare" = some (some (.ref XBadShare)))
    (beBadShare : PySem.W.subIn K (.ref XBadShare) (.type "BaseException") = some true)
    (hdBadShare : PySem.W.hasDictIn K XBadShare = true)
    (tyBadShare : PySem.W.typeIn K (.ref XBadShare) = some (.type "type"))
    (aBadPoly : PySem.W.nsIn K mainGlobals "BadPoly" = some (some (.ref XBadPoly)))
    (beBadPoly : PySem.W.subIn K (.ref XBadPoly) (.type "BaseException") = some true)
    (hdBadPoly : PySem.W.hasDictIn K XBadPoly = true)
    (tyBadPoly : PySem.W.typeIn K (.ref XBadPoly) = some (.type "type"))
    (aBadFraction : PySem.W.nsIn K mainGlobals "BadFraction" = some (some (.ref XBadFraction)))
    (beBadFraction : PySem.W.subIn K (.ref XBadFraction) (.type "BaseException") = some true)
    (hdBadFraction : PySem.W.hasDictIn K XBadFraction = true)
    (tyBadFraction : PySem.W.typeIn K (.ref XBadFraction) = some (.type "type"))
    (aBadDesign : PySem.W.nsIn K mainGlobals "BadDesign" = some (some (.ref XBadDesign)))
    (beBadDesign : PySem.W.subIn K (.ref XBadDesign) (.type "BaseException") = some true)
    (hdBadDesign : PySem.W.hasDictIn K XBadDesign = true)
    (tyBadDesign : PySem.W.typeIn K (.ref XBadDesign) = some (.type "type"))
    (aUntold : PySem.W.nsIn K mainGlobals "Untold" = some (some (.ref XUntold)))
    (beUntold : PySem.W.subIn K (.ref XUntold) (.type "BaseException") = some true)
    (hdUntold : PySem.W.hasDictIn K XUntold = true)
    (tyUntold : PySem.W.typeIn K (.ref XUntold) = some (.type "type"))
    (aTooDeep : PySem.W.nsIn K mainGlobals "TooDeep" = some (some (.ref XTooDeep)))
    (beTooDeep : PySem.W.subIn K (.ref XTooDeep) (.type "BaseException") = some true)
    (hdTooDeep : PySem.W.hasDictIn K XTooDeep = true)
    (tyTooDeep : PySem.W.typeIn K (.ref XTooDeep) = some (.type "type"))
    (aBadPage : PySem.W.nsIn K mainGlobals "BadPage" = some (some (.ref XBadPage)))
    (beBadPage : PySem.W.subIn K (.ref XBadPage) (.type "BaseException") = some true)
    (hdBadPage : PySem.W.hasDictIn K XBadPage = true)
    (tyBadPage : PySem.W.typeIn K (.ref XBadPage) = some (.type "type"))
    (aRefused : PySem.W.nsIn K mainGlobals "Refused" = some (some (.ref XRefused)))
    (beRefused : PySem.W.subIn K (.ref XRefused) (.type "BaseException") = some true)
    (hdRefused : PySem.W.hasDictIn K XRefused = true)
    (tyRefused : PySem.W.typeIn K (.ref XRefused) = some (.type "type"))
    (aTrialError : PySem.W.nsIn K mainGlobals "TrialError" = some (some (.ref XTrialError)))
    (beTrialError : PySem.W.subIn K (.ref XTrialError) (.type "BaseException") = some true)
    (hdTrialError : PySem.W.hasDictIn K XTrialError = true)
    (tyTrialError : PySem.W.typeIn K (.ref XTrialError) = some (.type "type"))
    (gaTooLong : PySem.W.findIn K (.ref XTooLong) "__getattribute__" = some (some (.builtin "BaseException.__getattribute__")))
    (ggTooLong : PySem.W.findIn K (.ref XTooLong) "__getattr__" = some none)
    (hcTooLong : PySem.W.findIn K (.ref XTooLong) "__class__" = some (some (.builtin "object.__class__")))
    (hmTooLong : PySem.W.mroIn K XTooLong (.type "object") = some true)
    (hvTooLong : PySem.W.subIn K (.ref XTooLong) (.type "ValueError") = some true)
    (sTooLong_TooLong : PySem.W.subIn K (.ref XTooLong) (.ref XTooLong) = some true)
    (sTooLong_TooMany : PySem.W.subIn K (.ref XTooLong) (.ref XTooMany) = some false)
    (sTooLong_HasGap : PySem.W.subIn K (.ref XTooLong) (.ref XHasGap) = some false)
    (sTooLong_BadText : PySem.W.subIn K (.ref XTooLong) (.ref XBadText) = some false)
    (sTooLong_BadEnds : PySem.W.subIn K (.ref XTooLong) (.ref XBadEnds) = some false)
    (sTooLong_BadPlan : PySem.W.subIn K (.ref XTooLong) (.ref XBadPlan) = some false)
    (sTooLong_BadTelling : PySem.W.subIn K (.ref XTooLong) (.ref XBadTelling) = some false)
    (sTooLong_BadVerdict : PySem.W.subIn K (.ref XTooLong) (.ref XBadVerdict) = some false)
    (sTooLong_BadCourse : PySem.W.subIn K (.ref XTooLong) (.ref XBadCourse) = some false)
    (sTooLong_NotStop : PySem.W.subIn K (.ref XTooLong) (.ref XNotStop) = some false)
    (sTooLong_BadLot : PySem.W.subIn K (.ref XTooLong) (.ref XBadLot) = some false)
    (sTooLong_BadShare : PySem.W.subIn K (.ref XTooLong) (.ref XBadShare) = some false)
    (sTooLong_BadPoly : PySem.W.subIn K (.ref XTooLong) (.ref XBadPoly) = some false)
    (sTooLong_BadFraction : PySem.W.subIn K (.ref XTooLong) (.ref XBadFraction) = some false)
    (sTooLong_BadDesign : PySem.W.subIn K (.ref XTooLong) (.ref XBadDesign) = some false)
    (sTooLong_Untold : PySem.W.subIn K (.ref XTooLong) (.ref XUntold) = some false)
    (sTooLong_TooDeep : PySem.W.subIn K (.ref XTooLong) (.ref XTooDeep) = some false)
    (sTooLong_BadPage : PySem.W.subIn K (.ref XTooLong) (.ref XBadPage) = some false)
    (sTooLong_Refused : PySem.W.subIn K (.ref XTooLong) (.ref XRefused) = some false)
    (sTooLong_TrialError : PySem.W.subIn K (.ref XTooLong) (.ref XTrialError) = some true)
    (nTooLong_TooMany : XTooLong ≠ XTooMany)
    (nTooLong_HasGap : XTooLong ≠ XHasGap)
    (nTooLong_BadText : XTooLong ≠ XBadText)
    (nTooLong_BadEnds : XTooLong ≠ XBadEnds)
    (nTooLong_BadPlan : XTooLong ≠ XBadPlan)
    (nTooLong_BadTelling : XTooLong ≠ XBadTelling)
    (nTooLong_BadVerdict : XTooLong ≠ XBadVerdict)
    (nTooLong_BadCourse : XTooLong ≠ XBadCourse)
    (nTooLong_NotStop : XTooLong ≠ XNotStop)
    (nTooLong_BadLot : XTooLong ≠ XBadLot)
    (nTooLong_BadShare : XTooLong ≠ XBadShare)
    (nTooLong_BadPoly : XTooLong ≠ XBadPoly)
    (nTooLong_BadFraction : XTooLong ≠ XBadFraction)
    (nTooLong_BadDesign : XTooLong ≠ XBadDesign)
    (nTooLong_Untold : XTooLong ≠ XUntold)
    (nTooLong_TooDeep : XTooLong ≠ XTooDeep)
    (nTooLong_BadPage : XTooLong ≠ XBadPage)
    (nTooLong_Refused : XTooLong ≠ XRefused)
    (gaTooMany : PySem.W.findIn K (.ref XTooMany) "__getattribute__" = some (some (.builtin "BaseException.__getattribute__")))
    (ggTooMany : PySem.W.findIn K (.ref XTooMany) "__getattr__" = some none)
    (hcTooMany : PySem.W.findIn K (.ref XTooMany) "__class__" = some (some (.builtin "object.__class__")))
    (hmTooMany : PySem.W.mroIn K XTooMany (.type "object") = some true)
    (hvTooMany : PySem.W.subIn K (.ref XTooMany) (.type "ValueError") = some true)
    (sTooMany_TooLong : PySem.W.subIn K (.ref XTooMany) (.ref XTooLong) = some false)
    (sTooMany_TooMany : PySem.W.subIn K (.ref XTooMany) (.ref XTooMany) = some true)
    (sTooMany_HasGap : PySem.W.subIn K (.ref XTooMany) (.ref XHasGap) = some false)
    (sTooMany_BadText : PySem.W.subIn K (.ref XTooMany) (.ref XBadText) = some false)
    (sTooMany_BadEnds : PySem.W.subIn K (.ref XTooMany) (.ref XBadEnds) = some false)
    (sTooMany_BadPlan : PySem.W.subIn K (.ref XTooMany) (.ref XBadPlan) = some false)
    (sTooMany_BadTelling : PySem.W.subIn K (.ref XTooMany) (.ref XBadTelling) = some false)
    (sTooMany_BadVerdict : PySem.W.subIn K (.ref XTooMany) (.ref XBadVerdict) = some false)
    (sTooMany_BadCourse : PySem.W.subIn K (.ref XTooMany) (.ref XBadCourse) = some false)
    (sTooMany_NotStop : PySem.W.subIn K (.ref XTooMany) (.ref XNotStop) = some false)
    (sTooMany_BadLot : PySem.W.subIn K (.ref XTooMany) (.ref XBadLot) = some false)
    (sTooMany_BadShare : PySem.W.subIn K (.ref XTooMany) (.ref XBadShare) = some false)
    (sTooMany_BadPoly : PySem.W.subIn K (.ref XTooMany) (.ref XBadPoly) = some false)
    (sTooMany_BadFraction : PySem.W.subIn K (.ref XTooMany) (.ref XBadFraction) = some false)
    (sTooMany_BadDesign : PySem.W.subIn K (.ref XTooMany) (.ref XBadDesign) = some false)
    (sTooMany_Untold : PySem.W.subIn K (.ref XTooMany) (.ref XUntold) = some false)
    (sTooMany_TooDeep : PySem.W.subIn K (.ref XTooMany) (.ref XTooDeep) = some false)
    (sTooMany_BadPage : PySem.W.subIn K (.ref XTooMany) (.ref XBadPage) = some false)
    (sTooMany_Refused : PySem.W.subIn K (.ref XTooMany) (.ref XRefused) = some false)
    (sTooMany_TrialError : PySem.W.subIn K (.ref XTooMany) (.ref XTrialError) = some true)
    (nTooMany_TooLong : XTooMany ≠ XTooLong)
    (nTooMany_HasGap : XTooMany ≠ XHasGap)
    (nTooMany_BadText : XTooMany ≠ XBadText)
    (nTooMany_BadEnds : XTooMany ≠ XBadEnds)
    (nTooMany_BadPlan : XTooMany ≠ XBadPlan)
    (nTooMany_BadTelling : XTooMany ≠ XBadTelling)
    (nTooMany_BadVerdict : XTooMany ≠ XBadVerdict)
    (nTooMany_BadCourse : XTooMany ≠ XBadCourse)
    (nTooMany_NotStop : XTooMany ≠ XNotStop)
    (nTooMany_BadLot : XTooMany ≠ XBadLot)
    (nTooMany_BadShare : XTooMany ≠ XBadShare)
    (nTooMany_BadPoly : XTooMany ≠ XBadPoly)
    (nTooMany_BadFraction : XTooMany ≠ XBadFraction)
    (nTooMany_BadDesign : XTooMany ≠ XBadDesign)
    (nTooMany_Untold : XTooMany ≠ XUntold)
    (nTooMany_TooDeep : XTooMany ≠ XTooDeep)
    (nTooMany_BadPage : XTooMany ≠ XBadPage)
    (nTooMany_Refused : XTooMany ≠ XRefused)
    (gaHasGap : PySem.W.findIn K (.ref XHasGap) "__getattribute__" = some (some (.builtin "BaseException.__getattribute__")))
    (ggHasGap : PySem.W.findIn K (.ref XHasGap) "__getattr__" = some none)
    (hcHasGap : PySem.W.findIn K (.ref XHasGap) "__class__" = some (some (.builtin "object.__class__")))
    (hmHasGap : PySem.W.mroIn K XHasGap (.type "object") = some true)
    (hvHasGap : PySem.W.subIn K (.ref XHasGap) (.type "ValueError") = some true)
    (sHasGap_TooLong : PySem.W.subIn K (.ref XHasGap) (.ref XTooLong) = some false)
    (sHasGap_TooMany : PySem.W.subIn K (.ref XHasGap) (.ref XTooMany) = some false)
    (sHasGap_HasGap : PySem.W.subIn K (.ref XHasGap) (.ref XHasGap) = some true)
    (sHasGap_BadText : PySem.W.subIn K (.ref XHasGap) (.ref XBadText) = some false)
    (sHasGap_BadEnds : PySem.W.subIn K (.ref XHasGap) (.ref XBadEnds) = some false)
    (sHasGap_BadPlan : PySem.W.subIn K (.ref XHasGap) (.ref XBadPlan) = some false)
    (sHasGap_BadTelling : PySem.W.subIn K (.ref XHasGap) (.ref XBadTelling) = some false)
    (sHasGap_BadVerdict : PySem.W.subIn K (.ref XHasGap) (.ref XBadVerdict) = some false)
    (sHasGap_BadCourse : PySem.W.subIn K (.ref XHasGap) (.ref XBadCourse) = some false)
    (sHasGap_NotStop : PySem.W.subIn K (.ref XHasGap) (.ref XNotStop) = some false)
    (sHasGap_BadLot : PySem.W.subIn K (.ref XHasGap) (.ref XBadLot) = some false)
    (sHasGap_BadShare : PySem.W.subIn K (.ref XHasGap) (.ref XBadShare) = some false)
    (sHasGap_BadPoly : PySem.W.subIn K (.ref XHasGap) (.ref XBadPoly) = some false)
    (sHasGap_BadFraction : PySem.W.subIn K (.ref XHasGap) (.ref XBadFraction) = some false)
    (sHasGap_BadDesign : PySem.W.subIn K (.ref XHasGap) (.ref XBadDesign) = some false)
    (sHasGap_Untold : PySem.W.subIn K (.ref XHasGap) (.ref XUntold) = some false)
    (sHasGap_TooDeep : PySem.W.subIn K (.ref XHasGap) (.ref XTooDeep) = some false)
    (sHasGap_BadPage : PySem.W.subIn K (.ref XHasGap) (.ref XBadPage) = some false)
    (sHasGap_Refused : PySem.W.subIn K (.ref XHasGap) (.ref XRefused) = some false)
    (sHasGap_TrialError : PySem.W.subIn K (.ref XHasGap) (.ref XTrialError) = some true)
    (nHasGap_TooLong : XHasGap ≠ XTooLong)
    (nHasGap_TooMany : XHasGap ≠ XTooMany)
    (nHasGap_BadText : XHasGap ≠ XBadText)
    (nHasGap_BadEnds : XHasGap ≠ XBadEnds)
    (nHasGap_BadPlan : XHasGap ≠ XBadPlan)
    (nHasGap_BadTelling : XHasGap ≠ XBadTelling)
    (nHasGap_BadVerdict : XHasGap ≠ XBadVerdict)
    (nHasGap_BadCourse : XHasGap ≠ XBadCourse)
    (nHasGap_NotStop : XHasGap ≠ XNotStop)
    (nHasGap_BadLot : XHasGap ≠ XBadLot)
    (nHasGap_BadShare : XHasGap ≠ XBadShare)
    (nHasGap_BadPoly : XHasGap ≠ XBadPoly)
    (nHasGap_BadFraction : XHasGap ≠ XBadFraction)
    (nHasGap_BadDesign : XHasGap ≠ XBadDesign)
    (nHasGap_Untold : XHasGap ≠ XUntold)
    (nHasGap_TooDeep : XHasGap ≠ XTooDeep)
    (nHasGap_BadPage : XHasGap ≠ XBadPage)
    (nHasGap_Refused : XHasGap ≠ XRefused)
    (nsuper : PySem.W.nsIn K mainGlobals "super" = some none)
    (opq : PySem.W.nsIn K PySem.cStatics "thirdparty.any" = some none)
    (tops : (l.prog.main.scope.names.lookup ("super" : Str)).isSome = false)
    (lcTooLong : K.lookup XTooLong = some (excClassObj nmTooLong qnTooLong XTooLong NTooLong bsTooLong bmTooLong true snTooLong suTooLong abTooLong colTooLong ddTooLong kATooLong kBTooLong kCTooLong kDTooLong kETooLong "ValueError.__new__"))
    (rvTooLong : PySem.HandSPX.refsVE bmTooLong = true)
    (saTooLong : PySem.W.findIn K (.ref XTooLong) "__setattr__" = some (some (.builtin "object.__setattr__")))
    (kpTooLong : PySem.W.keepIn K (.ref XTooLong) = true)
    (fnTooLong : PySem.W.findIn K (.ref XTooLong) "limit" = some none)
    (iCTooLong : PySem.W.findIn K (.ref XTooLong) "__init__" = some (some (.ref fITooLong)))
    (tITooLong : PySem.W.typeIn K (.ref fITooLong) = some (.type "function"))
    (flTooLong : K.lookup fITooLong = some ⟨xocTooLong, xodTooLong, .func (PySem.W.fnX "__init__" "TooLong.__init__" (defArgs (mtop 16 0)) (defBody (mtop 16 0)) (defScope (mtop 16 0)) [("__class__", ccTooLong)] .none xkVTooLong xdcTooLong xpmTooLong xanTooLong (.ref cdaTooLong) xctTooLong), xslTooLong⟩)
    (cdTooLong : PySem.W.codeIn K (.ref cdaTooLong) "TooLong.__init__" = true)
    (coTooLong : K.lookup cdaTooLong = some ⟨cclTooLong, cddTooLong, .fields vsTooLong, ccsTooLong⟩)
    (v2TooLong : vsTooLong[2]? = some (.str fileTooLong tfTooLong))
    (feTooLong : ((l.prog.main.file : Str) == fileTooLong) = true)
    (ceTooLong : K.lookup ccTooLong = some ⟨clTooLong, cldTooLong, .cell (some (.ref XTooLong)), cslTooLong⟩)
    (mrTooLong : PySem.W.mroIn K XTooLong (.ref XTooLong) = some true)
    (smTooLong : PySem.W.ks_superIn K XTooLong XTooLong "__init__" = some (some (.builtin "ValueError.__init__")))
    (lcTooMany : K.lookup XTooMany = some (excClassObj nmTooMany qnTooMany XTooMany NTooMany bsTooMany bmTooMany true snTooMany suTooMany abTooMany colTooMany ddTooMany kATooMany kBTooMany kCTooMany kDTooMany kETooMany "ValueError.__new__"))
    (rvTooMany : PySem.HandSPX.refsVE bmTooMany = true)
    (saTooMany : PySem.W.findIn K (.ref XTooMany) "__setattr__" = some (some (.builtin "object.__setattr__")))
    (kpTooMany : PySem.W.keepIn K (.ref XTooMany) = true)
    (fnTooMany : PySem.W.findIn K (.ref XTooMany) "limit" = some none)
    (iCTooMany : PySem.W.findIn K (.ref XTooMany) "__init__" = some (some (.ref fITooMany)))
    (tITooMany : PySem.W.typeIn K (.ref fITooMany) = some (.type "function"))
    (flTooMany : K.lookup fITooMany = some ⟨xocTooMany, xodTooMany, .func (PySem.W.fnX "__init__" "TooMany.__init__" (defArgs (mtop 18 0)) (defBody (mtop 18 0)) (defScope (mtop 18 0)) [("__class__", ccTooMany)] .none xkVTooMany xdcTooMany xpmTooMany xanTooMany (.ref cdaTooMany) xctTooMany), xslTooMany⟩)
    (cdTooMany : PySem.W.codeIn K (.ref cdaTooMany) "TooMany.__init__" = true)
    (coTooMany : K.lookup cdaTooMany = some ⟨cclTooMany, cddTooMany, .fields vsTooMany, ccsTooMany⟩)
    (v2TooMany : vsTooMany[2]? = some (.str fileTooMany tfTooMany))
    (feTooMany : ((l.prog.main.file : Str) == fileTooMany) = true)
    (ceTooMany : K.lookup ccTooMany = some ⟨clTooMany, cldTooMany, .cell (some (.ref XTooMany)), cslTooMany⟩)
    (mrTooMany : PySem.W.mroIn K XTooMany (.ref XTooMany) = some true)
    (smTooMany : PySem.W.ks_superIn K XTooMany XTooMany "__init__" = some (some (.builtin "ValueError.__init__")))
    (lcHasGap : K.lookup XHasGap = some (excClassObj nmHasGap qnHasGap XHasGap NHasGap bsHasGap bmHasGap true snHasGap suHasGap abHasGap colHasGap ddHasGap kAHasGap kBHasGap kCHasGap kDHasGap kEHasGap "ValueError.__new__"))
    (rvHasGap : PySem.HandSPX.refsVE bmHasGap = true)
    (saHasGap : PySem.W.findIn K (.ref XHasGap) "__setattr__" = some (some (.builtin "object.__setattr__")))
    (kpHasGap : PySem.W.keepIn K (.ref XHasGap) = true)
    (fnHasGap : PySem.W.findIn K (.ref XHasGap) "gap" = some none)
    (iCHasGap : PySem.W.findIn K (.ref XHasGap) "__init__" = some (some (.ref fIHasGap)))
    (tIHasGap : PySem.W.typeIn K (.ref fIHasGap) = some (.type "function"))
    (flHasGap : K.lookup fIHasGap = some ⟨xocHasGap, xodHasGap, .func (PySem.W.fnX "__init__" "HasGap.__init__" (defArgs (mtop 20 0)) (defBody (mtop 20 0)) (defScope (mtop 20 0)) [("__class__", ccHasGap)] .none xkVHasGap xdcHasGap xpmHasGap xanHasGap (.ref cdaHasGap) xctHasGap), xslHasGap⟩)
    (cdHasGap : PySem.W.codeIn K (.ref cdaHasGap) "HasGap.__init__" = true)
    (coHasGap : K.lookup cdaHasGap = some ⟨cclHasGap, cddHasGap, .fields vsHasGap, ccsHasGap⟩)
    (v2HasGap : vsHasGap[2]? = some (.str fileHasGap tfHasGap))
    (feHasGap : ((l.prog.main.file : Str) == fileHasGap) = true)
    (ceHasGap : K.lookup ccHasGap = some ⟨clHasGap, cldHasGap, .cell (some (.ref XHasGap)), cslHasGap⟩)
    (mrHasGap : PySem.W.mroIn K XHasGap (.ref XHasGap) = some true)
    (smHasGap : PySem.W.ks_superIn K XHasGap XHasGap "__init__" = some (some (.builtin "ValueError.__init__")))
    (a0 : PySem.W.nsIn K mainGlobals "_law_mixed" = some (some (.ref f0)))
    (l0 : K.lookup f0 = some ⟨oc0, od0, .func (PySem.W.fnOf "_law_mixed" "_law_mixed" (defArgs (top 39)) (defBody (top 39)) (defScope (top 39)) .none kV0 dc0 pm0 an0 cd0 ct0), sl0⟩)
    (c0 : PySem.W.codeIn K cd0 "_law_mixed" = true)
    (k0 : PySem.W.keepIn K (.ref f0) = true)
    (a1 : PySem.W.nsIn K mainGlobals "_law_draws" = some (some (.ref f1)))
    (l1 : K.lookup f1 = some ⟨oc1, od1, .func (PySem.W.fnOf "_law_draws" "_law_draws" (defArgs (top 40)) (defBody (top 40)) (defScope (top 40)) .none kV1 dc1 pm1 an1 cd1 ct1), sl1⟩)
    (c1 : PySem.W.codeIn K cd1 "_law_draws" = true)
    (k1 : PySem.W.keepIn K (.ref f1) = true)
    (a2 : PySem.W.nsIn K mainGlobals "_law_opened" = some (some (.ref f2)))
    (l2 : K.lookup f2 = some ⟨oc2, od2, .func (PySem.W.fnOf "_law_opened" "_law_opened" (defArgs (top 41)) (defBody (top 41)) (defScope (top 41)) .none kV2 dc2 pm2 an2 cd2 ct2), sl2⟩)
    (c2 : PySem.W.codeIn K cd2 "_law_opened" = true)
    (k2 : PySem.W.keepIn K (.ref f2) = true)
    (a3 : PySem.W.nsIn K mainGlobals "_law_take" = some (some (.ref f3)))
    (l3 : K.lookup f3 = some ⟨oc3, od3, .func (PySem.W.fnOf "_law_take" "_law_take" (defArgs (top 42)) (defBody (top 42)) (defScope (top 42)) .none kV3 dc3 pm3 an3 cd3 ct3), sl3⟩)
    (c3 : PySem.W.codeIn K cd3 "_law_take" = true)
    (k3 : PySem.W.keepIn K (.ref f3) = true)
    (a4 : PySem.W.nsIn K mainGlobals "_law_between" = some (some (.ref f4)))
    (l4 : K.lookup f4 = some ⟨oc4, od4, .func (PySem.W.fnOf "_law_between" "_law_between" (defArgs (top 43)) (defBody (top 43)) (defScope (top 43)) .none kV4 dc4 pm4 an4 cd4 ct4), sl4⟩)
    (c4 : PySem.W.codeIn K cd4 "_law_between" = true)
    (k4 : PySem.W.keepIn K (.ref f4) = true)
    (a5 : PySem.W.nsIn K mainGlobals "_law_same" = some (some (.ref f5)))
    (l5 : K.lookup f5 = some ⟨oc5, od5, .func (PySem.W.fnOf "_law_same" "_law_same" (defArgs (top 52)) (defBody (top 52)) (defScope (top 52)) .none kV5 dc5 pm5 an5 cd5 ct5), sl5⟩)
    (c5 : PySem.W.codeIn K cd5 "_law_same" = true)
    (k5 : PySem.W.keepIn K (.ref f5) = true)
    (a6 : PySem.W.nsIn K mainGlobals "next_goods" = some (some (.ref f6)))
    (l6 : K.lookup f6 = some ⟨oc6, od6, .func (PySem.W.fnOf "next_goods" "next_goods" (defArgs (top 24)) (defBody (top 24)) (defScope (top 24)) .none kV6 dc6 pm6 an6 cd6 ct6), sl6⟩)
    (c6 : PySem.W.codeIn K cd6 "next_goods" = true)
    (k6 : PySem.W.keepIn K (.ref f6) = true)
    (a7 : PySem.W.nsIn K mainGlobals "good_row" = some (some (.ref f7)))
    (l7 : K.lookup f7 = some ⟨oc7, od7, .func (PySem.W.fnOf "good_row" "good_row" (defArgs (top 25)) (defBody (top 25)) (defScope (top 25)) .none kV7 dc7 pm7 an7 cd7 ct7), sl7⟩)
    (c7 : PySem.W.codeIn K cd7 "good_row" = true)
    (k7 : PySem.W.keepIn K (.ref f7) = true)
    (a8 : PySem.W.nsIn K mainGlobals "row_gaps" = some (some (.ref f8)))
    (l8 : K.lookup f8 = some ⟨oc8, od8, .func (PySem.W.fnOf "row_gaps" "row_gaps" (defArgs (top 27)) (defBody (top 27)) (defScope (top 27)) .none kV8 dc8 pm8 an8 cd8 ct8), sl8⟩)
    (c8 : PySem.W.codeIn K cd8 "row_gaps" = true)
    (k8 : PySem.W.keepIn K (.ref f8) = true)
    (a9 : PySem.W.findIn K (.ref CP) "__init__" = some (some (.ref f9)))
    (i9 : PySem.W.isFn K (.ref f9) = true)
    (l9 : K.lookup f9 = some ⟨oc9, od9, .func (PySem.W.fnOf "__init__" "Plan.__init__" (defArgs (mtop 31 0)) (defBody (mtop 31 0)) (defScope (mtop 31 0)) .none kV9 dc9 pm9 an9 cd9 ct9), sl9⟩)
    (c9 : PySem.W.codeIn K cd9 "Plan.__init__" = true)
    (k9 : PySem.W.keepIn K (.ref f9) = true)
    (a10 : PySem.W.findIn K (.ref CP) "longest" = some (some (.ref p10)))
    (g10 : PySem.W.specialIn K (.ref p10) "__get__" = some (some (.builtin "property.__get__")))
    (t10 : PySem.W.takesIn K (.ref p10) = some true)
    (e10 : PySem.W.recIn K p10 "property" = some (.ref f10 :: r10))
    (l10 : K.lookup f10 = some ⟨oc10, od10, .func (PySem.W.fnOf "longest" "Plan.longest" (defArgs (mtop 31 1)) (defBody (mtop 31 1)) (defScope (mtop 31 1)) .none kV10 dc10 pm10 an10 cd10 ct10), sl10⟩)
    (c10 : PySem.W.codeIn K cd10 "Plan.longest" = true)
    (k10 : PySem.W.keepIn K (.ref f10) = true)
    (a11 : PySem.W.findIn K (.ref CP) "rows" = some (some (.ref f11)))
    (i11 : PySem.W.isFn K (.ref f11) = true)
    (l11 : K.lookup f11 = some ⟨oc11, od11, .func (PySem.W.fnOf "rows" "Plan.rows" (defArgs (mtop 31 4)) (defBody (mtop 31 4)) (defScope (mtop 31 4)) .none kV11 dc11 pm11 an11 cd11 ct11), sl11⟩)
    (c11 : PySem.W.codeIn K cd11 "Plan.rows" = true)
    (k11 : PySem.W.keepIn K (.ref f11) = true)
    (a12 : PySem.W.findIn K (.ref CP) "gaps" = some (some (.ref p12)))
    (g12 : PySem.W.specialIn K (.ref p12) "__get__" = some (some (.builtin "property.__get__")))
    (t12 : PySem.W.takesIn K (.ref p12) = some true)
    (e12 : PySem.W.recIn K p12 "property" = some (.ref f12 :: r12))
    (l12 : K.lookup f12 = some ⟨oc12, od12, .func (PySem.W.fnOf "gaps" "Plan.gaps" (defArgs (mtop 31 2)) (defBody (mtop 31 2)) (defScope (mtop 31 2)) .none kV12 dc12 pm12 an12 cd12 ct12), sl12⟩)
    (c12 : PySem.W.codeIn K cd12 "Plan.gaps" = true)
    (k12 : PySem.W.keepIn K (.ref f12) = true)
    (a13 : PySem.W.findIn K (.ref CP) "gapless" = some (some (.ref p13)))
    (g13 : PySem.W.specialIn K (.ref p13) "__get__" = some (some (.builtin "property.__get__")))
    (t13 : PySem.W.takesIn K (.ref p13) = some true)
    (e13 : PySem.W.recIn K p13 "property" = some (.ref f13 :: r13))
    (l13 : K.lookup f13 = some ⟨oc13, od13, .func (PySem.W.fnOf "gapless" "Plan.gapless" (defArgs (mtop 31 3)) (defBody (mtop 31 3)) (defScope (mtop 31 3)) .none kV13 dc13 pm13 an13 cd13 ct13), sl13⟩)
    (c13 : PySem.W.codeIn K cd13 "Plan.gapless" = true)
    (k13 : PySem.W.keepIn K (.ref f13) = true)
    (a14 : PySem.W.findIn K (.ref CP) "__eq__" = some (some (.ref f14)))
    (i14 : PySem.W.isFn K (.ref f14) = true)
    (l14 : K.lookup f14 = some ⟨oc14, od14, .func (PySem.W.fnOf "__eq__" "Plan.__eq__" (defArgs (mtop 31 15)) (defBody (mtop 31 15)) (defScope (mtop 31 15)) .none kV14 dc14 pm14 an14 cd14 ct14), sl14⟩)
    (c14 : PySem.W.codeIn K cd14 "Plan.__eq__" = true)
    (k14 : PySem.W.keepIn K (.ref f14) = true)
    (a15 : PySem.W.nsIn K mainGlobals "_law_some" = some (some (.ref f15)))
    (l15 : K.lookup f15 = some ⟨oc15, od15, .func (PySem.W.fnOf "_law_some" "_law_some" (defArgs (top 45)) (defBody (top 45)) (defScope (top 45)) .none kV15 dc15 pm15 an15 cd15 ct15), sl15⟩)
    (c15 : PySem.W.codeIn K cd15 "_law_some" = true)
    (k15 : PySem.W.keepIn K (.ref f15) = true)
    (a16 : PySem.W.nsIn K mainGlobals "_law_next_goods" = some (some (.ref f16)))
    (l16 : K.lookup f16 = some ⟨oc16, od16, .func (PySem.W.fnOf "_law_next_goods" "_law_next_goods" (defArgs (top 46)) (defBody (top 46)) (defScope (top 46)) .none kV16 dc16 pm16 an16 cd16 ct16), sl16⟩)
    (c16 : PySem.W.codeIn K cd16 "_law_next_goods" = true)
    (k16 : PySem.W.keepIn K (.ref f16) = true)
    (a17 : PySem.W.nsIn K mainGlobals "_law_fixed_rows" = some (some (.ref f17)))
    (l17 : K.lookup f17 = some ⟨oc17, od17, .func (PySem.W.fnOf "_law_fixed_rows" "_law_fixed_rows" (defArgs (top 47)) (defBody (top 47)) (defScope (top 47)) .none kV17 dc17 pm17 an17 cd17 ct17), sl17⟩)
    (c17 : PySem.W.codeIn K cd17 "_law_fixed_rows" = true)
    (k17 : PySem.W.keepIn K (.ref f17) = true)
    (a18 : PySem.W.nsIn K mainGlobals "_law_gapless_rows" = some (some (.ref f18)))
    (l18 : K.lookup f18 = some ⟨oc18, od18, .func (PySem.W.fnOf "_law_gapless_rows" "_law_gapless_rows" (defArgs (top 48)) (defBody (top 48)) (defScope (top 48)) .none kV18 dc18 pm18 an18 cd18 ct18), sl18⟩)
    (c18 : PySem.W.codeIn K cd18 "_law_gapless_rows" = true)
    (k18 : PySem.W.keepIn K (.ref f18) = true)
    (a19 : PySem.W.nsIn K mainGlobals "_law_gapped_rows" = some (some (.ref f19)))
    (l19 : K.lookup f19 = some ⟨oc19, od19, .func (PySem.W.fnOf "_law_gapped_rows" "_law_gapped_rows" (defArgs (top 49)) (defBody (top 49)) (defScope (top 49)) .none kV19 dc19 pm19 an19 cd19 ct19), sl19⟩)
    (c19 : PySem.W.codeIn K cd19 "_law_gapped_rows" = true)
    (k19 : PySem.W.keepIn K (.ref f19) = true)
    (a20 : PySem.W.nsIn K mainGlobals "_law_pick" = some (some (.ref f20)))
    (l20 : K.lookup f20 = some ⟨oc20, od20, .func (PySem.W.fnOf "_law_pick" "_law_pick" (defArgs (top 44)) (defBody (top 44)) (defScope (top 44)) .none kV20 dc20 pm20 an20 cd20 ct20), sl20⟩)
    (c20 : PySem.W.codeIn K cd20 "_law_pick" = true)
    (k20 : PySem.W.keepIn K (.ref f20) = true)
    (a21 : PySem.W.nsIn K mainGlobals "_law_copy" = some (some (.ref f21)))
    (l21 : K.lookup f21 = some ⟨oc21, od21, .func (PySem.W.fnOf "_law_copy" "_law_copy" (defArgs (top 51)) (defBody (top 51)) (defScope (top 51)) .none kV21 dc21 pm21 an21 cd21 ct21), sl21⟩)
    (c21 : PySem.W.codeIn K cd21 "_law_copy" = true)
    (k21 : PySem.W.keepIn K (.ref f21) = true)
    (a22 : PySem.W.nsIn K mainGlobals "_law_gaps" = some (some (.ref f22)))
    (l22 : K.lookup f22 = some ⟨oc22, od22, .func (PySem.W.fnOf "_law_gaps" "_law_gaps" (defArgs (top 50)) (defBody (top 50)) (defScope (top 50)) .none kV22 dc22 pm22 an22 cd22 ct22), sl22⟩)
    (c22 : PySem.W.codeIn K cd22 "_law_gaps" = true)
    (k22 : PySem.W.keepIn K (.ref f22) = true)
    (a23 : PySem.W.nsIn K mainGlobals "way_counts" = some (some (.ref f23)))
    (l23 : K.lookup f23 = some ⟨oc23, od23, .func (PySem.W.fnOf "way_counts" "way_counts" (defArgs (top 33)) (defBody (top 33)) (defScope (top 33)) .none kV23 dc23 pm23 an23 cd23 ct23), sl23⟩)
    (c23 : PySem.W.codeIn K cd23 "way_counts" = true)
    (k23 : PySem.W.keepIn K (.ref f23) = true)
    (a24 : PySem.W.nsIn K mainGlobals "run_choices" = some (some (.ref f24)))
    (l24 : K.lookup f24 = some ⟨oc24, od24, .func (PySem.W.fnOf "run_choices" "run_choices" (defArgs (top 35)) (defBody (top 35)) (defScope (top 35)) .none kV24 dc24 pm24 an24 cd24 ct24), sl24⟩)
    (c24 : PySem.W.codeIn K cd24 "run_choices" = true)
    (k24 : PySem.W.keepIn K (.ref f24) = true)
    (a25 : PySem.W.nsIn K mainGlobals "_law_runs" = some (some (.ref f25)))
    (l25 : K.lookup f25 = some ⟨oc25, od25, .func (PySem.W.fnOf "_law_runs" "_law_runs" (defArgs (top 54)) (defBody (top 54)) (defScope (top 54)) .none kV25 dc25 pm25 an25 cd25 ct25), sl25⟩)
    (c25 : PySem.W.codeIn K cd25 "_law_runs" = true)
    (k25 : PySem.W.keepIn K (.ref f25) = true)
    (a26 : PySem.W.nsIn K mainGlobals "_law_counts" = some (some (.ref f26)))
    (l26 : K.lookup f26 = some ⟨oc26, od26, .func (PySem.W.fnOf "_law_counts" "_law_counts" (defArgs (top 53)) (defBody (top 53)) (defScope (top 53)) .none kV26 dc26 pm26 an26 cd26 ct26), sl26⟩)
    (c26 : PySem.W.codeIn K cd26 "_law_counts" = true)
    (k26 : PySem.W.keepIn K (.ref f26) = true)
    (a27 : PySem.W.nsIn K mainGlobals "how_many" = some (some (.ref f27)))
    (l27 : K.lookup f27 = some ⟨oc27, od27, .func (PySem.W.fnOf "how_many" "how_many" (defArgs (top 34)) (defBody (top 34)) (defScope (top 34)) .none kV27 dc27 pm27 an27 cd27 ct27), sl27⟩)
    (c27 : PySem.W.codeIn K cd27 "how_many" = true)
    (k27 : PySem.W.keepIn K (.ref f27) = true)
    (a28 : PySem.W.nsIn K mainGlobals "gapless_at" = some (some (.ref f28)))
    (l28 : K.lookup f28 = some ⟨oc28, od28, .func (PySem.W.fnOf "gapless_at" "gapless_at" (defArgs (top 36)) (defBody (top 36)) (defScope (top 36)) .none kV28 dc28 pm28 an28 cd28 ct28), sl28⟩)
    (c28 : PySem.W.codeIn K cd28 "gapless_at" = true)
    (k28 : PySem.W.keepIn K (.ref f28) = true)
    (a29 : PySem.W.nsIn K mainGlobals "rank_of" = some (some (.ref f29)))
    (l29 : K.lookup f29 = some ⟨oc29, od29, .func (PySem.W.fnOf "rank_of" "rank_of" (defArgs (top 37)) (defBody (top 37)) (defScope (top 37)) .none kV29 dc29 pm29 an29 cd29 ct29), sl29⟩)
    (c29 : PySem.W.codeIn K cd29 "rank_of" = true)
    (k29 : PySem.W.keepIn K (.ref f29) = true)
    (a30 : PySem.W.nsIn K mainGlobals "_law_rows_at" = some (some (.ref f30)))
    (l30 : K.lookup f30 = some ⟨oc30, od30, .func (PySem.W.fnOf "_law_rows_at" "_law_rows_at" (defArgs (top 55)) (defBody (top 55)) (defScope (top 55)) .none kV30 dc30 pm30 an30 cd30 ct30), sl30⟩)
    (c30 : PySem.W.codeIn K cd30 "_law_rows_at" = true)
    (k30 : PySem.W.keepIn K (.ref f30) = true)
    (a31 : PySem.W.nsIn K mainGlobals "_law_number_of" = some (some (.ref f31)))
    (l31 : K.lookup f31 = some ⟨oc31, od31, .func (PySem.W.fnOf "_law_number_of" "_law_number_of" (defArgs (top 56)) (defBody (top 56)) (defScope (top 56)) .none kV31 dc31 pm31 an31 cd31 ct31), sl31⟩)
    (c31 : PySem.W.codeIn K cd31 "_law_number_of" = true)
    (k31 : PySem.W.keepIn K (.ref f31) = true)
    (a32 : PySem.W.nsIn K mainGlobals "_law_due" = some (some (.ref f32)))
    (l32 : K.lookup f32 = some ⟨oc32, od32, .func (PySem.W.fnOf "_law_due" "_law_due" (defArgs (top 58)) (defBody (top 58)) (defScope (top 58)) .none kV32 dc32 pm32 an32 cd32 ct32), sl32⟩)
    (c32 : PySem.W.codeIn K cd32 "_law_due" = true)
    (k32 : PySem.W.keepIn K (.ref f32) = true)
    (a33 : PySem.W.nsIn K mainGlobals "_law_ask" = some (some (.ref f33)))
    (l33 : K.lookup f33 = some ⟨oc33, od33, .func (PySem.W.fnOf "_law_ask" "_law_ask" (defArgs (top 57)) (defBody (top 57)) (defScope (top 57)) .none kV33 dc33 pm33 an33 cd33 ct33), sl33⟩)
    (c33 : PySem.W.codeIn K cd33 "_law_ask" = true)
    (k33 : PySem.W.keepIn K (.ref f33) = true)
    (a34 : PySem.W.nsIn K mainGlobals "law" = some (some (.ref f34)))
    (l34 : K.lookup f34 = some ⟨oc34, od34, .func (PySem.W.fnOf "law" "law" (defArgs (top 59)) (defBody (top 59)) (defScope (top 59)) .none kV34 dc34 pm34 an34 cd34 ct34), sl34⟩)
    (c34 : PySem.W.codeIn K cd34 "law" = true)
    (k34 : PySem.W.keepIn K (.ref f34) = true)
    (z_int : PySem.W.nsIn K mainGlobals "int" = some none)
    (z_range : PySem.W.nsIn K mainGlobals "range" = some none)
    (z_len : PySem.W.nsIn K mainGlobals "len" = some none)
    (z_list : PySem.W.nsIn K mainGlobals "list" = some none)
    (z_isinstance : PySem.W.nsIn K mainGlobals "isinstance" = some none)
    (z_bool : PySem.W.nsIn K mainGlobals "bool" = some none)
    (z_str : PySem.W.nsIn K mainGlobals "str" = some none)
    (z_dict : PySem.W.nsIn K mainGlobals "dict" = some none)
    (z_tuple : PySem.W.nsIn K mainGlobals "tuple" = some none)
    (z_enumerate : PySem.W.nsIn K mainGlobals "enumerate" = some none)
    (z_zip : PySem.W.nsIn K mainGlobals "zip" = some none)
    (z_max : PySem.W.nsIn K mainGlobals "max" = some none)
    (z_sum : PySem.W.nsIn K mainGlobals "sum" = some none)
    (z_ValueError : PySem.W.nsIn K mainGlobals "ValueError" = some none)
    : ∃ fd : FuncData, (∀ (s : Shared) (v : Value), BindsTo s fd ⟨[v], []⟩ [("script", v)]) ∧ ∀ base : Heap, K.In base → base.Ns mainGlobals mg → FnOk l.prog w K mg base (L2N.CX l.prog w) 9 fa fd ["script"] (spC K cLaw) := by
  have e := hfa.symm.trans (PySem.W.mg_of X G a34)
  cases e
  have FL : FunD K "law" "law" (defArgs (top 59)) (defBody (top 59)) (defScope (top 59)) [] [] fa _ := ⟨⟨oc34, od34, .none, kV34, dc34, pm34, an34, cd34, ct34, sl34, rfl, l34, c34, .inl ⟨rfl, rfl⟩, .inl rfl⟩, k34⟩
  refine ⟨_, fun s v => FL.bindsA (ps := ["script"]) (fun _ _ _ _ _ _ us hl => match us, hl with | [_], _ => rfl) s [v] rfl, fun base _ _ => ?_⟩
  let U : Env1 := ⟨l.prog, w, K, mg, base⟩
  have cl0 : Cls U.K CP := ⟨Qpg, Qhd, Qpo, Qsa⟩
  have hC : PlanC U CP := ⟨cl0, PySem.W.mg_of X G aC, Qn1, Qn2, ⟨cl0, Qhc, Qhg, Qht, Qhm, if_pos (beq_iff_eq.mpr rfl)⟩, Qne, Qob, Qsf, ⟨tML, PySem.W.mg_of X G aML⟩, Qty⟩
  let XA : Str → Addr := fun z => ((([(("TooLong" : Str), XTooLong), (("TooMany" : Str), XTooMany), (("HasGap" : Str), XHasGap), (("BadText" : Str), XBadText), (("BadEnds" : Str), XBadEnds), (("BadPlan" : Str), XBadPlan), (("BadTelling" : Str), XBadTelling), (("BadVerdict" : Str), XBadVerdict), (("BadCourse" : Str), XBadCourse), (("NotStop" : Str), XNotStop), (("BadLot" : Str), XBadLot), (("BadShare" : Str), XBadShare), (("BadPoly" : Str), XBadPoly), (("BadFraction" : Str), XBadFraction), (("BadDesign" : Str), XBadDesign), (("Untold" : Str), XUntold), (("TooDeep" : Str), XTooDeep), (("BadPage" : Str), XBadPage), (("Refused" : Str), XRefused), (("TrialError" : Str), XTrialError)] : List (Str × Addr)).lookup z).getD 0)
  have ET_TooLong : ExT (defArgs (mtop 16 0)) (defBody (mtop 16 0)) (defScope (mtop 16 0)) "limit" "limit" := ⟨⟨_, _, _, _, _, _, _, _, _, _, rfl, fun _ => rfl, fun _ => rfl, fun _ => rfl, fun _ => ⟨_, rfl⟩, fun prog w h0 env L m u e1 e2 e3 e4 => told_text2 (by decide +kernel) e1 (by rw [e2]; rfl) (by unfold Env.kindOf; rw [e2]; decide +kernel) e3 (by decide +kernel) e4⟩, fun _ _ _ _ _ _ _ _ _ _ _ _ _ => rfl, ⟨⟨_, rfl, rfl⟩, by decide +kernel, by decide +kernel, by decide +kernel, by decide +kernel, by decide +kernel, rfl, rfl, rfl, by decide +kernel, by decide +kernel⟩⟩
  have EI_TooLong : ExI U.P U.K U.mg XTooLong XTooLong fITooLong ccTooLong cdaTooLong "TooLong.__init__" "__init__" (defArgs (mtop 16 0)) (defBody (mtop 16 0)) (defScope (mtop 16 0)) "limit" "limit" := ⟨⟨_, _, _, _, _, _, _, _, flTooLong⟩, cdTooLong, ⟨_, _, _, _, _, _, coTooLong, v2TooLong, feTooLong⟩, ⟨_, _, _, ceTooLong⟩, cls_some hdTooLong, mrTooLong, PySem.W.mg_none_of X G nsuper, tops, ⟨⟨_, _, _, _, _, _, _, _, _, _, _, _, _, _, _, lcTooLong, rvTooLong⟩, saTooLong, beTooLong, tyTooLong, kpTooLong⟩, smTooLong, hvTooLong, opq, fnTooLong, iCTooLong, tITooLong⟩
  have ET_TooMany : ExT (defArgs (mtop 18 0)) (defBody (mtop 18 0)) (defScope (mtop 18 0)) "limit" "limit" := ⟨⟨_, _, _, _, _, _, _, _, _, _, rfl, fun _ => rfl, fun _ => rfl, fun _ => rfl, fun _ => ⟨_, rfl⟩, fun prog w h0 env L m u e1 e2 e3 e4 => told_text2 (by decide +kernel) e1 (by rw [e2]; rfl) (by unfold Env.kindOf; rw [e2]; decide +kernel) e3 (by decide +kernel) e4⟩, fun _ _ _ _ _ _ _ _ _ _ _ _ _ => rfl, ⟨⟨_, rfl, rfl⟩, by decide +kernel, by decide +kernel, by decide +kernel, by decide +kernel, by decide +kernel, rfl, rfl, rfl, by decide +kernel, by decide +kernel⟩⟩
  have EI_TooMany : ExI U.P U.K U.mg XTooMany XTooMany fITooMany ccTooMany cdaTooMany "TooMany.__init__" "__init__" (defArgs (mtop 18 0)) (defBody (mtop 18 0)) (defScope (mtop 18 0)) "limit" "limit" := ⟨⟨_, _, _, _, _, _, _, _, flTooMany⟩, cdTooMany, ⟨_, _, _, _, _, _, coTooMany, v2TooMany, feTooMany⟩, ⟨_, _, _, ceTooMany⟩, cls_some hdTooMany, mrTooMany, PySem.W.mg_none_of X G nsuper, tops, ⟨⟨_, _, _, _, _, _, _, _, _, _, _, _, _, _, _, lcTooMany, rvTooMany⟩, saTooMany, beTooMany, tyTooMany, kpTooMany⟩, smTooMany, hvTooMany, opq, fnTooMany, iCTooMany, tITooMany⟩
  have ET_HasGap : ExT (defArgs (mtop 20 0)) (defBody (mtop 20 0)) (defScope (mtop 20 0)) "gap" "gap" := ⟨⟨_, _, _, _, _, _, _, _, _, _, rfl, fun _ => rfl, fun _ => rfl, fun _ => rfl, fun _ => ⟨_, rfl⟩, fun prog w h0 env L m u e1 e2 e3 e4 => told_text2 (by decide +kernel) e1 (by rw [e2]; rfl) (by unfold Env.kindOf; rw [e2]; decide +kernel) e3 (by decide +kernel) e4⟩, fun _ _ _ _ _ _ _ _ _ _ _ _ _ => rfl, ⟨⟨_, rfl, rfl⟩, by decide +kernel, by decide +kernel, by decide +kernel, by decide +kernel, by decide +kernel, rfl, rfl, rfl, by decide +kernel, by decide +kernel⟩⟩
  have EI_HasGap : ExI U.P U.K U.mg XHasGap XHasGap fIHasGap ccHasGap cdaHasGap "HasGap.__init__" "__init__" (defArgs (mtop 20 0)) (defBody (mtop 20 0)) (defScope (mtop 20 0)) "gap" "gap" := ⟨⟨_, _, _, _, _, _, _, _, flHasGap⟩, cdHasGap, ⟨_, _, _, _, _, _, coHasGap, v2HasGap, feHasGap⟩, ⟨_, _, _, ceHasGap⟩, cls_some hdHasGap, mrHasGap, PySem.W.mg_none_of X G nsuper, tops, ⟨⟨_, _, _, _, _, _, _, _, _, _, _, _, _, _, _, lcHasGap, rvHasGap⟩, saHasGap, beHasGap, tyHasGap, kpHasGap⟩, smHasGap, hvHasGap, opq, fnHasGap, iCHasGap, tIHasGap⟩
  have hE : ErrC U XA xMade xRaised xNames := ⟨
    (fun y hy => by
    simp only [List.mem_cons, List.not_mem_nil, or_false] at hy; rcases hy with rfl | rfl | rfl
    · exact ⟨PySem.W.mg_of X G aTooLong, _, _, _, _, _, _, _, _, _, _, EI_TooLong, ET_TooLong⟩
    · exact ⟨PySem.W.mg_of X G aTooMany, _, _, _, _, _, _, _, _, _, _, EI_TooMany, ET_TooMany⟩
    · exact ⟨PySem.W.mg_of X G aHasGap, _, _, _, _, _, _, _, _, _, _, EI_HasGap, ET_HasGap⟩
    ),
    (fun y hy => by
    simp only [List.mem_cons, List.not_mem_nil, or_false] at hy; rcases hy with rfl | rfl | rfl
    · exact ⟨gaTooLong, ggTooLong, beTooLong, hdTooLong, hcTooLong, Qhg, Qht, hmTooLong⟩
    · exact ⟨gaTooMany, ggTooMany, beTooMany, hdTooMany, hcTooMany, Qhg, Qht, hmTooMany⟩
    · exact ⟨gaHasGap, ggHasGap, beHasGap, hdHasGap, hcHasGap, Qhg, Qht, hmHasGap⟩
    ),
    (fun y hy => by
    simp only [List.mem_cons, List.not_mem_nil, or_false] at hy; rcases hy with rfl | rfl | rfl | rfl | rfl | rfl | rfl | rfl | rfl | rfl | rfl | rfl | rfl | rfl | rfl | rfl | rfl | rfl | rfl | rfl
    · exact PySem.W.mg_of X G aTooLong
    · exact PySem.W.mg_of X G aTooMany
    · exact PySem.W.mg_of X G aHasGap
    · exact PySem.W.mg_of X G aBadText
    · exact PySem.W.mg_of X G aBadEnds
    · exact PySem.W.mg_of X G aBadPlan
    · exact PySem.W.mg_of X G aBadTelling
    · exact PySem.W.mg_of X G aBadVerdict
    · exact PySem.W.mg_of X G aBadCourse
    · exact PySem.W.mg_of X G aNotStop
    · exact PySem.W.mg_of X G aBadLot
    · exact PySem.W.mg_of X G aBadShare
    · exact PySem.W.mg_of X G aBadPoly
    · exact PySem.W.mg_of X G aBadFraction
    · exact PySem.W.mg_of X G aBadDesign
    · exact PySem.W.mg_of X G aUntold
    · exact PySem.W.mg_of X G aTooDeep
    · exact PySem.W.mg_of X G aBadPage
    · exact PySem.W.mg_of X G aRefused
    · exact PySem.W.mg_of X G aTrialError
    ),
    (fun y hy z hz => by
    simp only [List.mem_cons, List.not_mem_nil, or_false] at hy; rcases hy with rfl | rfl | rfl
    · simp only [List.mem_cons, List.not_mem_nil, or_false] at hz; rcases hz with rfl | rfl | rfl | rfl | rfl | rfl | rfl | rfl | rfl | rfl | rfl | rfl | rfl | rfl | rfl | rfl | rfl | rfl | rfl | rfl
      · exact kit_of2 hdTooLong tyTooLong sTooLong_TooLong (fun _ => rfl)
      · exact kit_of2 hdTooMany tyTooMany sTooLong_TooMany (fun e => absurd e nTooLong_TooMany)
      · exact kit_of2 hdHasGap tyHasGap sTooLong_HasGap (fun e => absurd e nTooLong_HasGap)
      · exact kit_of2 hdBadText tyBadText sTooLong_BadText (fun e => absurd e nTooLong_BadText)
      · exact kit_of2 hdBadEnds tyBadEnds sTooLong_BadEnds (fun e => absurd e nTooLong_BadEnds)
      · exact kit_of2 hdBadPlan tyBadPlan sTooLong_BadPlan (fun e => absurd e nTooLong_BadPlan)
      · exact kit_of2 hdBadTelling tyBadTelling sTooLong_BadTelling (fun e => absurd e nTooLong_BadTelling)
      · exact kit_of2 hdBadVerdict tyBadVerdict sTooLong_BadVerdict (fun e => absurd e nTooLong_BadVerdict)
      · exact kit_of2 hdBadCourse tyBadCourse sTooLong_BadCourse (fun e => absurd e nTooLong_BadCourse)
      · exact kit_of2 hdNotStop tyNotStop sTooLong_NotStop (fun e => absurd e nTooLong_NotStop)
      · exact kit_of2 hdBadLot tyBadLot sTooLong_BadLot (fun e => absurd e nTooLong_BadLot)
      · exact kit_of2 hdBadShare tyBadShare sTooLong_BadShare (fun e => absurd e nTooLong_BadShare)
      · exact kit_of2 hdBadPoly tyBadPoly sTooLong_BadPoly (fun e => absurd e nTooLong_BadPoly)
      · exact kit_of2 hdBadFraction tyBadFraction sTooLong_BadFraction (fun e => absurd e nTooLong_BadFraction)
      · exact kit_of2 hdBadDesign tyBadDesign sTooLong_BadDesign (fun e => absurd e nTooLong_BadDesign)
      · exact kit_of2 hdUntold tyUntold sTooLong_Untold (fun e => absurd e nTooLong_Untold)
      · exact kit_of2 hdTooDeep tyTooDeep sTooLong_TooDeep (fun e => absurd e nTooLong_TooDeep)
      · exact kit_of2 hdBadPage tyBadPage sTooLong_BadPage (fun e => absurd e nTooLong_BadPage)
      · exact kit_of2 hdRefused tyRefused sTooLong_Refused (fun e => absurd e nTooLong_Refused)
      · exact kit_of2 hdTrialError tyTrialError sTooLong_TrialError (fun _ => rfl)
    · simp only [List.mem_cons, List.not_mem_nil, or_false] at hz; rcases hz with rfl | rfl | rfl | rfl | rfl | rfl | rfl | rfl | rfl | rfl | rfl | rfl | rfl | rfl | rfl | rfl | rfl | rfl | rfl | rfl
      · exact kit_of2 hdTooLong tyTooLong sTooMany_TooLong (fun e => absurd e nTooMany_TooLong)
      · exact kit_of2 hdTooMany tyTooMany sTooMany_TooMany (fun _ => rfl)
      · exact kit_of2 hdHasGap tyHasGap sTooMany_HasGap (fun e => absurd e nTooMany_HasGap)
      · exact kit_of2 hdBadText tyBadText sTooMany_BadText (fun e => absurd e nTooMany_BadText)
      · exact kit_of2 hdBadEnds tyBadEnds sTooMany_BadEnds (fun e => absurd e nTooMany_BadEnds)
      · exact kit_of2 hdBadPlan tyBadPlan sTooMany_BadPlan (fun e => absurd e nTooMany_BadPlan)
      · exact kit_of2 hdBadTelling tyBadTelling sTooMany_BadTelling (fun e => absurd e nTooMany_BadTelling)
      · exact kit_of2 hdBadVerdict tyBadVerdict sTooMany_BadVerdict (fun e => absurd e nTooMany_BadVerdict)
      · exact kit_of2 hdBadCourse tyBadCourse sTooMany_BadCourse (fun e => absurd e nTooMany_BadCourse)
      · exact kit_of2 hdNotStop tyNotStop sTooMany_NotStop (fun e => absurd e nTooMany_NotStop)
      · exact kit_of2 hdBadLot tyBadLot sTooMany_BadLot (fun e => absurd e nTooMany_BadLot)
      · exact kit_of2 hdBadShare tyBadShare sTooMany_BadShare (fun e => absurd e nTooMany_BadShare)
      · exact kit_of2 hdBadPoly tyBadPoly sTooMany_BadPoly (fun e => absurd e nTooMany_BadPoly)
      · exact kit_of2 hdBadFraction tyBadFraction sTooMany_BadFraction (fun e => absurd e nTooMany_BadFraction)
      · exact kit_of2 hdBadDesign tyBadDesign sTooMany_BadDesign (fun e => absurd e nTooMany_BadDesign)
      · exact kit_of2 hdUntold tyUntold sTooMany_Untold (fun e => absurd e nTooMany_Untold)
      · exact kit_of2 hdTooDeep tyTooDeep sTooMany_TooDeep (fun e => absurd e nTooMany_TooDeep)
      · exact kit_of2 hdBadPage tyBadPage sTooMany_BadPage (fun e => absurd e nTooMany_BadPage)
      · exact kit_of2 hdRefused tyRefused sTooMany_Refused (fun e => absurd e nTooMany_Refused)
      · exact kit_of2 hdTrialError tyTrialError sTooMany_TrialError (fun _ => rfl)
    · simp only [List.mem_cons, List.not_mem_nil, or_false] at hz; rcases hz with rfl | rfl | rfl | rfl | rfl | rfl | rfl | rfl | rfl | rfl | rfl | rfl | rfl | rfl | rfl | rfl | rfl | rfl | rfl | rfl
      · exact kit_of2 hdTooLong tyTooLong sHasGap_TooLong (fun e => absurd e nHasGap_TooLong)
      · exact kit_of2 hdTooMany tyTooMany sHasGap_TooMany (fun e => absurd e nHasGap_TooMany)
      · exact kit_of2 hdHasGap tyHasGap sHasGap_HasGap (fun _ => rfl)
      · exact kit_of2 hdBadText tyBadText sHasGap_BadText (fun e => absurd e nHasGap_BadText)
      · exact kit_of2 hdBadEnds tyBadEnds sHasGap_BadEnds (fun e => absurd e nHasGap_BadEnds)
      · exact kit_of2 hdBadPlan tyBadPlan sHasGap_BadPlan (fun e => absurd e nHasGap_BadPlan)
      · exact kit_of2 hdBadTelling tyBadTelling sHasGap_BadTelling (fun e => absurd e nHasGap_BadTelling)
      · exact kit_of2 hdBadVerdict tyBadVerdict sHasGap_BadVerdict (fun e => absurd e nHasGap_BadVerdict)
      · exact kit_of2 hdBadCourse tyBadCourse sHasGap_BadCourse (fun e => absurd e nHasGap_BadCourse)
      · exact kit_of2 hdNotStop tyNotStop sHasGap_NotStop (fun e => absurd e nHasGap_NotStop)
      · exact kit_of2 hdBadLot tyBadLot sHasGap_BadLot (fun e => absurd e nHasGap_BadLot)
      · exact kit_of2 hdBadShare tyBadShare sHasGap_BadShare (fun e => absurd e nHasGap_BadShare)
      · exact kit_of2 hdBadPoly tyBadPoly sHasGap_BadPoly (fun e => absurd e nHasGap_BadPoly)
      · exact kit_of2 hdBadFraction tyBadFraction sHasGap_BadFraction (fun e => absurd e nHasGap_BadFraction)
      · exact kit_of2 hdBadDesign tyBadDesign sHasGap_BadDesign (fun e => absurd e nHasGap_BadDesign)
      · exact kit_of2 hdUntold tyUntold sHasGap_Untold (fun e => absurd e nHasGap_Untold)
      · exact kit_of2 hdTooDeep tyTooDeep sHasGap_TooDeep (fun e => absurd e nHasGap_TooDeep)
      · exact kit_of2 hdBadPage tyBadPage sHasGap_BadPage (fun e => absurd e nHasGap_BadPage)
      · exact kit_of2 hdRefused tyRefused sHasGap_Refused (fun e => absurd e nHasGap_Refused)
      · exact kit_of2 hdTrialError tyTrialError sHasGap_TrialError (fun _ => rfl)
    ),
    (fun y hy => by
    simp only [List.mem_cons, List.not_mem_nil, or_false] at hy; rcases hy with rfl | rfl | rfl
    · exact kit_VE hvTooLong
    · exact kit_VE hvTooMany
    · exact kit_VE hvHasGap
    ),
    (fun y hy z hz => by
    simp only [List.mem_cons, List.not_mem_nil, or_false] at hy; rcases hy with rfl | rfl | rfl
    · simp only [List.mem_cons, List.not_mem_nil, or_false] at hz; rcases hz with rfl | rfl | rfl | rfl | rfl | rfl | rfl | rfl | rfl | rfl | rfl | rfl | rfl | rfl | rfl | rfl | rfl | rfl | rfl | rfl
      · exact exm_of2 beTooLong hdTooLong tyTooLong sTooLong_TooLong
      · exact exm_of2 beTooMany hdTooMany tyTooMany sTooLong_TooMany
      · exact exm_of2 beHasGap hdHasGap tyHasGap sTooLong_HasGap
      · exact exm_of2 beBadText hdBadText tyBadText sTooLong_BadText
      · exact exm_of2 beBadEnds hdBadEnds tyBadEnds sTooLong_BadEnds
      · exact exm_of2 beBadPlan hdBadPlan tyBadPlan sTooLong_BadPlan
      · exact exm_of2 beBadTelling hdBadTelling tyBadTelling sTooLong_BadTelling
      · exact exm_of2 beBadVerdict hdBadVerdict tyBadVerdict sTooLong_BadVerdict
      · exact exm_of2 beBadCourse hdBadCourse tyBadCourse sTooLong_BadCourse
      · exact exm_of2 beNotStop hdNotStop tyNotStop sTooLong_NotStop
      · exact exm_of2 beBadLot hdBadLot tyBadLot sTooLong_BadLot
      · exact exm_of2 beBadShare hdBadShare tyBadShare sTooLong_BadShare
      · exact exm_of2 beBadPoly hdBadPoly tyBadPoly sTooLong_BadPoly
      · exact exm_of2 beBadFraction hdBadFraction tyBadFraction sTooLong_BadFraction
      · exact exm_of2 beBadDesign hdBadDesign tyBadDesign sTooLong_BadDesign
      · exact exm_of2 beUntold hdUntold tyUntold sTooLong_Untold
      · exact exm_of2 beTooDeep hdTooDeep tyTooDeep sTooLong_TooDeep
      · exact exm_of2 beBadPage hdBadPage tyBadPage sTooLong_BadPage
      · exact exm_of2 beRefused hdRefused tyRefused sTooLong_Refused
      · exact exm_of2 beTrialError hdTrialError tyTrialError sTooLong_TrialError
    · simp only [List.mem_cons, List.not_mem_nil, or_false] at hz; rcases hz with rfl | rfl | rfl | rfl | rfl | rfl | rfl | rfl | rfl | rfl | rfl | rfl | rfl | rfl | rfl | rfl | rfl | rfl | rfl | rfl
      · exact exm_of2 beTooLong hdTooLong tyTooLong sTooMany_TooLong
      · exact exm_of2 beTooMany hdTooMany tyTooMany sTooMany_TooMany
      · exact exm_of2 beHasGap hdHasGap tyHasGap sTooMany_HasGap
      · exact exm_of2 beBadText hdBadText tyBadText sTooMany_BadText
      · exact exm_of2 beBadEnds hdBadEnds tyBadEnds sTooMany_BadEnds
      · exact exm_of2 beBadPlan hdBadPlan tyBadPlan sTooMany_BadPlan
      · exact exm_of2 beBadTelling hdBadTelling tyBadTelling sTooMany_BadTelling
      · exact exm_of2 beBadVerdict hdBadVerdict tyBadVerdict sTooMany_BadVerdict
      · exact exm_of2 beBadCourse hdBadCourse tyBadCourse sTooMany_BadCourse
      · exact exm_of2 beNotStop hdNotStop tyNotStop sTooMany_NotStop
      · exact exm_of2 beBadLot hdBadLot tyBadLot sTooMany_BadLot
      · exact exm_of2 beBadShare hdBadShare tyBadShare sTooMany_BadShare
      · exact exm_of2 beBadPoly hdBadPoly tyBadPoly sTooMany_BadPoly
      · exact exm_of2 beBadFraction hdBadFraction tyBadFraction sTooMany_BadFraction
      · exact exm_of2 beBadDesign hdBadDesign tyBadDesign sTooMany_BadDesign
      · exact exm_of2 beUntold hdUntold tyUntold sTooMany_Untold
      · exact exm_of2 beTooDeep hdTooDeep tyTooDeep sTooMany_TooDeep
      · exact exm_of2 beBadPage hdBadPage tyBadPage sTooMany_BadPage
      · exact exm_of2 beRefused hdRefused tyRefused sTooMany_Refused
      · exact exm_of2 beTrialError hdTrialError tyTrialError sTooMany_TrialError
    · simp only [List.mem_cons, List.not_mem_nil, or_false] at hz; rcases hz with rfl | rfl | rfl | rfl | rfl | rfl | rfl | rfl | rfl | rfl | rfl | rfl | rfl | rfl | rfl | rfl | rfl | rfl | rfl | rfl
      · exact exm_of2 beTooLong hdTooLong tyTooLong sHasGap_TooLong
      · exact exm_of2 beTooMany hdTooMany tyTooMany sHasGap_TooMany
      · exact exm_of2 beHasGap hdHasGap tyHasGap sHasGap_HasGap
      · exact exm_of2 beBadText hdBadText tyBadText sHasGap_BadText
      · exact exm_of2 beBadEnds hdBadEnds tyBadEnds sHasGap_BadEnds
      · exact exm_of2 beBadPlan hdBadPlan tyBadPlan sHasGap_BadPlan
      · exact exm_of2 beBadTelling hdBadTelling tyBadTelling sHasGap_BadTelling
      · exact exm_of2 beBadVerdict hdBadVerdict tyBadVerdict sHasGap_BadVerdict
      · exact exm_of2 beBadCourse hdBadCourse tyBadCourse sHasGap_BadCourse
      · exact exm_of2 beNotStop hdNotStop tyNotStop sHasGap_NotStop
      · exact exm_of2 beBadLot hdBadLot tyBadLot sHasGap_BadLot
      · exact exm_of2 beBadShare hdBadShare tyBadShare sHasGap_BadShare
      · exact exm_of2 beBadPoly hdBadPoly tyBadPoly sHasGap_BadPoly
      · exact exm_of2 beBadFraction hdBadFraction tyBadFraction sHasGap_BadFraction
      · exact exm_of2 beBadDesign hdBadDesign tyBadDesign sHasGap_BadDesign
      · exact exm_of2 beUntold hdUntold tyUntold sHasGap_Untold
      · exact exm_of2 beTooDeep hdTooDeep tyTooDeep sHasGap_TooDeep
      · exact exm_of2 beBadPage hdBadPage tyBadPage sHasGap_BadPage
      · exact exm_of2 beRefused hdRefused tyRefused sHasGap_Refused
      · exact exm_of2 beTrialError hdTrialError tyTrialError sHasGap_TrialError
    ),
    (fun y hy => by
    simp only [List.mem_cons, List.not_mem_nil, or_false] at hy; rcases hy with rfl | rfl | rfl
    · exact fnTooLong
    · exact fnTooMany
    · exact fnHasGap
    ),
    (fun y hy hn => by
    simp only [List.mem_cons, List.not_mem_nil, or_false] at hy; rcases hy with rfl | rfl | rfl
    · exact absurd (by decide +kernel) hn
    · exact absurd (by decide +kernel) hn
    · exact absurd (by decide +kernel) hn
    )⟩
  have D__law_mixed : U.Def "_law_mixed" ((S__law_mixed).lv + 1) [] cMixed := def_ok (j := 0) (n := 3) (ps := ["number", "turn", "many"]) (funAt (U := U) X G a0 l0 c0 k0) (ok_S (by decide +kernel)) rfl (ok_F (by decide +kernel)) rfl (by decide) (fun _ _ F => ⟨[], .nil, F.bindsN (ps := ["number", "turn", "many"]) fun _ _ _ _ _ _ us hl => match us, hl with | [_, _, _], _ => rfl⟩) (fun _ _ => .nil) (fun _ _ _ h => by cases h; rfl) mo_cMixed (fun G0 H0 ds P E h => b__law_mixed (U := U)  (blt_cons (PySem.W.mg_none_of X G z_int) (blt_cons (PySem.W.mg_none_of X G z_range) blt_nil))  G0 H0 ds P E h)
  have D__law_draws : U.Def "_law_draws" ((S__law_draws).lv + 1) [] cDraws := def_ok (j := 0) (n := 1) (ps := ["script"]) (funAt (U := U) X G a1 l1 c1 k1) (ok_S (by decide +kernel)) rfl (ok_F (by decide +kernel)) rfl (by decide) (fun _ _ F => ⟨[], .nil, F.bindsN (ps := ["script"]) fun _ _ _ _ _ _ us hl => match us, hl with | [_], _ => rfl⟩) (fun _ _ => .nil) (fun _ _ _ h => by cases h; rfl) mo_cDraws (fun G0 H0 ds P E h => b__law_draws (U := U)  (blt_cons (PySem.W.mg_none_of X G z_len) (blt_cons (PySem.W.mg_none_of X G z_int) (blt_cons (PySem.W.mg_none_of X G z_list) blt_nil)))  G0 H0 ds P E h)
  have D__law_opened : U.Def "_law_opened" ((S__law_opened).lv + 1) [] cOpened := def_ok (j := 0) (n := 1) (ps := ["store"]) (funAt (U := U) X G a2 l2 c2 k2) (ok_S (by decide +kernel)) rfl (ok_F (by decide +kernel)) rfl (by decide) (fun _ _ F => ⟨[], .nil, F.bindsN (ps := ["store"]) fun _ _ _ _ _ _ us hl => match us, hl with | [_], _ => rfl⟩) (fun _ _ => .nil) (fun _ _ _ h => by cases h; rfl) mo_cOpened (fun G0 H0 ds P E h => b__law_opened (U := U)  (blt_cons (PySem.W.mg_none_of X G z_range) (blt_cons (PySem.W.mg_none_of X G z_len) (blt_cons (PySem.W.mg_none_of X G z_int) blt_nil)))  G0 H0 ds P E h)
  have D__law_take : U.Def "_law_take" ((S__law_take).lv + 1) [] cTake := def_ok (j := 0) (n := 2) (ps := ["store", "many"]) (funAt (U := U) X G a3 l3 c3 k3) (ok_S (by decide +kernel)) rfl (ok_F (by decide +kernel)) rfl (by decide) (fun _ _ F => ⟨[], .nil, F.bindsN (ps := ["store", "many"]) fun _ _ _ _ _ _ us hl => match us, hl with | [_, _], _ => rfl⟩) (fun _ _ => .nil) (fun _ _ _ h => by cases h; rfl) mo_cTake (fun G0 H0 ds P E h => b__law_take (U := U)  (blt_cons (PySem.W.mg_none_of X G z_int) blt_nil) D__law_opened D__law_mixed G0 H0 ds P E h)
  have D__law_between : U.Def "_law_between" ((S__law_between).lv + 1) [] cBetween := def_ok (j := 0) (n := 3) (ps := ["store", "low", "high"]) (funAt (U := U) X G a4 l4 c4 k4) (ok_S (by decide +kernel)) rfl (ok_F (by decide +kernel)) rfl (by decide) (fun _ _ F => ⟨[], .nil, F.bindsN (ps := ["store", "low", "high"]) fun _ _ _ _ _ _ us hl => match us, hl with | [_, _, _], _ => rfl⟩) (fun _ _ => .nil) (fun _ _ _ h => by cases h; rfl) mo_cBetween (fun G0 H0 ds P E h => b__law_between (U := U)   D__law_take G0 H0 ds P E h)
  have D_law_same0 : U.Def "_law_same" ((S_same 0).lv + 1) [] (cSame 0) := def_ok (j := 0) (n := 2) (ps := ["actual", "expected"]) (funAt (U := U) X G a5 l5 c5 k5) (ok_S (by decide +kernel)) rfl (ok_F (by decide +kernel)) rfl (by decide) (fun _ _ F => ⟨[], .nil, F.bindsN (ps := ["actual", "expected"]) fun _ _ _ _ _ _ us hl => match us, hl with | [_, _], _ => rfl⟩) (fun _ _ => .nil) (fun _ _ _ h => by cases h; rfl) mo_cSame (fun G0 H0 ds P E h => b_same (blt_cons (PySem.W.mg_none_of X G z_isinstance) (blt_cons (PySem.W.mg_none_of X G z_bool) (blt_cons (PySem.W.mg_none_of X G z_int) (blt_cons (PySem.W.mg_none_of X G z_str) (blt_cons (PySem.W.mg_none_of X G z_dict) (blt_cons (PySem.W.mg_none_of X G z_len) (blt_cons (PySem.W.mg_none_of X G z_list) (blt_cons (PySem.W.mg_none_of X G z_tuple) (blt_cons (PySem.W.mg_none_of X G z_range) blt_nil))))))))) 0 (fun _ h => nomatch h) G0 H0 ds P E h)
  have D_law_same1 : U.Def "_law_same" ((S_same 1).lv + 1) [] (cSame 1) := def_ok (j := 0) (n := 2) (ps := ["actual", "expected"]) (funAt (U := U) X G a5 l5 c5 k5) (ok_S (by decide +kernel)) rfl (ok_F (by decide +kernel)) rfl (by decide) (fun _ _ F => ⟨[], .nil, F.bindsN (ps := ["actual", "expected"]) fun _ _ _ _ _ _ us hl => match us, hl with | [_, _], _ => rfl⟩) (fun _ _ => .nil) (fun _ _ _ h => by cases h; rfl) mo_cSame (fun G0 H0 ds P E h => b_same (blt_cons (PySem.W.mg_none_of X G z_isinstance) (blt_cons (PySem.W.mg_none_of X G z_bool) (blt_cons (PySem.W.mg_none_of X G z_int) (blt_cons (PySem.W.mg_none_of X G z_str) (blt_cons (PySem.W.mg_none_of X G z_dict) (blt_cons (PySem.W.mg_none_of X G z_len) (blt_cons (PySem.W.mg_none_of X G z_list) (blt_cons (PySem.W.mg_none_of X G z_tuple) (blt_cons (PySem.W.mg_none_of X G z_range) blt_nil))))))))) 1 (fun _ h => by cases h; exact D_law_same0) G0 H0 ds P E h)
  have D_law_same2 : U.Def "_law_same" ((S_same 2).lv + 1) [] (cSame 2) := def_ok (j := 0) (n := 2) (ps := ["actual", "expected"]) (funAt (U := U) X G a5 l5 c5 k5) (ok_S (by decide +kernel)) rfl (ok_F (by decide +kernel)) rfl (by decide) (fun _ _ F => ⟨[], .nil, F.bindsN (ps := ["actual", "expected"]) fun _ _ _ _ _ _ us hl => match us, hl with | [_, _], _ => rfl⟩) (fun _ _ => .nil) (fun _ _ _ h => by cases h; rfl) mo_cSame (fun G0 H0 ds P E h => b_same (blt_cons (PySem.W.mg_none_of X G z_isinstance) (blt_cons (PySem.W.mg_none_of X G z_bool) (blt_cons (PySem.W.mg_none_of X G z_int) (blt_cons (PySem.W.mg_none_of X G z_str) (blt_cons (PySem.W.mg_none_of X G z_dict) (blt_cons (PySem.W.mg_none_of X G z_len) (blt_cons (PySem.W.mg_none_of X G z_list) (blt_cons (PySem.W.mg_none_of X G z_tuple) (blt_cons (PySem.W.mg_none_of X G z_range) blt_nil))))))))) 2 (fun _ h => by cases h; exact D_law_same1) G0 H0 ds P E h)
  have D_law_same3 : U.Def "_law_same" ((S_same 3).lv + 1) [] (cSame 3) := def_ok (j := 0) (n := 2) (ps := ["actual", "expected"]) (funAt (U := U) X G a5 l5 c5 k5) (ok_S (by decide +kernel)) rfl (ok_F (by decide +kernel)) rfl (by decide) (fun _ _ F => ⟨[], .nil, F.bindsN (ps := ["actual", "expected"]) fun _ _ _ _ _ _ us hl => match us, hl with | [_, _], _ => rfl⟩) (fun _ _ => .nil) (fun _ _ _ h => by cases h; rfl) mo_cSame (fun G0 H0 ds P E h => b_same (blt_cons (PySem.W.mg_none_of X G z_isinstance) (blt_cons (PySem.W.mg_none_of X G z_bool) (blt_cons (PySem.W.mg_none_of X G z_int) (blt_cons (PySem.W.mg_none_of X G z_str) (blt_cons (PySem.W.mg_none_of X G z_dict) (blt_cons (PySem.W.mg_none_of X G z_len) (blt_cons (PySem.W.mg_none_of X G z_list) (blt_cons (PySem.W.mg_none_of X G z_tuple) (blt_cons (PySem.W.mg_none_of X G z_range) blt_nil))))))))) 3 (fun _ h => by cases h; exact D_law_same2) G0 H0 ds P E h)
  have D_law_same4 : U.Def "_law_same" ((S_same 4).lv + 1) [] (cSame 4) := def_ok (j := 0) (n := 2) (ps := ["actual", "expected"]) (funAt (U := U) X G a5 l5 c5 k5) (ok_S (by decide +kernel)) rfl (ok_F (by decide +kernel)) rfl (by decide) (fun _ _ F => ⟨[], .nil, F.bindsN (ps := ["actual", "expected"]) fun _ _ _ _ _ _ us hl => match us, hl with | [_, _], _ => rfl⟩) (fun _ _ => .nil) (fun _ _ _ h => by cases h; rfl) mo_cSame (fun G0 H0 ds P E h => b_same (blt_cons (PySem.W.mg_none_of X G z_isinstance) (blt_cons (PySem.W.mg_none_of X G z_bool) (blt_cons (PySem.W.mg_none_of X G z_int) (blt_cons (PySem.W.mg_none_of X G z_str) (blt_cons (PySem.W.mg_none_of X G z_dict) (blt_cons (PySem.W.mg_none_of X G z_len) (blt_cons (PySem.W.mg_none_of X G z_list) (blt_cons (PySem.W.mg_none_of X G z_tuple) (blt_cons (PySem.W.mg_none_of X G z_range) blt_nil))))))))) 4 (fun _ h => by cases h; exact D_law_same3) G0 H0 ds P E h)
  have D_law_same5 : U.Def "_law_same" ((S_same 5).lv + 1) [] (cSame 5) := def_ok (j := 0) (n := 2) (ps := ["actual", "expected"]) (funAt (U := U) X G a5 l5 c5 k5) (ok_S (by decide +kernel)) rfl (ok_F (by decide +kernel)) rfl (by decide) (fun _ _ F => ⟨[], .nil, F.bindsN (ps := ["actual", "expected"]) fun _ _ _ _ _ _ us hl => match us, hl with | [_, _], _ => rfl⟩) (fun _ _ => .nil) (fun _ _ _ h => by cases h; rfl) mo_cSame (fun G0 H0 ds P E h => b_same (blt_cons (PySem.W.mg_none_of X G z_isinstance) (blt_cons (PySem.W.mg_none_of X G z_bool) (blt_cons (PySem.W.mg_none_of X G z_int) (blt_cons (PySem.W.mg_none_of X G z_str) (blt_cons (PySem.W.mg_none_of X G z_dict) (blt_cons (PySem.W.mg_none_of X G z_len) (blt_cons (PySem.W.mg_none_of X G z_list) (blt_cons (PySem.W.mg_none_of X G z_tuple) (blt_cons (PySem.W.mg_none_of X G z_range) blt_nil))))))))) 5 (fun _ h => by cases h; exact D_law_same4) G0 H0 ds P E h)
  have D_next_goods : U.Def "next_goods" ((S_next_goods).lv + 1) [] cNextG := def_ok (j := 0) (n := 1) (ps := ["row"]) (funAt (U := U) X G a6 l6 c6 k6) (ok_S (by decide +kernel)) rfl (ok_F (by decide +kernel)) rfl (by decide) (fun _ _ F => ⟨[], .nil, F.bindsN (ps := ["row"]) fun _ _ _ _ _ _ us hl => match us, hl with | [_], _ => rfl⟩) (fun _ _ => .nil) (fun _ _ _ h => by cases h; rfl) mo_cNextG (fun G0 H0 ds P E h => b_next_goods (U := U)  (blt_cons (PySem.W.mg_none_of X G z_tuple) blt_nil)  G0 H0 ds P E h)
  have D_good_row : U.Def "good_row" ((S_good_row).lv + 1) [] cGoodRow := def_ok (j := 0) (n := 2) (ps := ["row", "goods"]) (funAt (U := U) X G a7 l7 c7 k7) (ok_S (by decide +kernel)) rfl (ok_F (by decide +kernel)) rfl (by decide) (fun _ _ F => ⟨[], .nil, F.bindsN (ps := ["row", "goods"]) fun _ _ _ _ _ _ us hl => match us, hl with | [_, _], _ => rfl⟩) (fun _ _ => .nil) (fun _ _ _ h => by cases h; rfl) mo_cGoodRow (fun G0 H0 ds P E h => b_good_row (U := U)  (blt_cons (PySem.W.mg_none_of X G z_enumerate) blt_nil)  G0 H0 ds P E h)
  have D_row_gaps : U.Def "row_gaps" ((S_row_gaps).lv + 1) [] cRowGaps := def_ok (j := 0) (n := 2) (ps := ["n", "row"]) (funAt (U := U) X G a8 l8 c8 k8) (ok_S (by decide +kernel)) rfl (ok_F (by decide +kernel)) rfl (by decide) (fun _ _ F => ⟨[], .nil, F.bindsN (ps := ["n", "row"]) fun _ _ _ _ _ _ us hl => match us, hl with | [_, _], _ => rfl⟩) (fun _ _ => .nil) (fun _ _ _ h => by cases h; rfl) mo_cRowGaps (fun G0 H0 ds P E h => b_row_gaps (U := U)  (blt_cons (PySem.W.mg_none_of X G z_zip) blt_nil)  G0 H0 ds P E h)
  obtain ⟨fd9, A9⟩ := defAt (m := "__init__") (qual := "Plan.__init__") (st := mtop 31 0) l9 c9 k9
  have D_Plan : MakeOk U.P U.w U.K U.mg U.base "Plan" CP ((S_Plan___init__).lv + 1) cPlan := make_ok (n := 1) (ps := ["self", "rows"]) A9 ⟨Qmk, a9, i9, Qkc⟩ (PySem.W.mg_of X G aC) (ok_S (by decide +kernel)) rfl (ok_F (by decide +kernel)) rfl (by decide) (A9.fn.bindsN (ps := ["self", "rows"]) fun _ _ _ _ _ _ us hl => match us, hl with | [_, _], _ => rfl) (fun _ _ _ h => by cases h; rfl) mo_cPlan (fun G0 H0 p ds P E h => b_Plan___init__ (U := U) hC (blt_cons (PySem.W.mg_none_of X G z_len) (blt_cons (PySem.W.mg_none_of X G z_enumerate) (blt_cons (PySem.W.mg_none_of X G z_tuple) blt_nil))) D_good_row D_next_goods G0 H0 p ds P E h)
  obtain ⟨fd10, A10⟩ := defAt (m := "longest") (qual := "Plan.longest") (st := mtop 31 1) l10 c10 k10
  have D_Plan_longest : PropOk U.P U.w U.K U.mg U.base CP "longest" ((S_Plan_longest).lv + 1) (cLongest CP) := prop_ok (n := 1) (ps := ["self"]) A10 ⟨a10, g10, t10, r10, e10⟩ (ok_S (by decide +kernel)) rfl (ok_F (by decide +kernel)) rfl (by decide) (A10.fn.bindsN (ps := ["self"]) fun _ _ _ _ _ _ us hl => match us, hl with | [_], _ => rfl) (fun _ _ _ h => by cases h; rfl) mo_cLongest (fun G0 H0 ds P E h => b_Plan_longest (U := U) hC (blt_cons (PySem.W.mg_none_of X G z_len) blt_nil)  G0 H0 ds P E h)
  obtain ⟨fd11, A11⟩ := defAt (m := "rows") (qual := "Plan.rows") (st := mtop 31 4) l11 c11 k11
  have D_Plan_rows : MethOk U.P U.w U.K U.mg U.base CP "rows" ((S_Plan_rows).lv + 1) (cRows CP) := meth_ok (n := 1) (ps := ["self"]) A11 ⟨a11, i11, k11⟩ (ok_S (by decide +kernel)) rfl (ok_F (by decide +kernel)) rfl (by decide) (A11.fn.bindsN (ps := ["self"]) fun _ _ _ _ _ _ us hl => match us, hl with | [_], _ => rfl) (fun _ _ _ h => by cases h; rfl) mo_cRows (fun G0 H0 ds P E h => b_Plan_rows (U := U) hC (blt_cons (PySem.W.mg_none_of X G z_list) blt_nil)  G0 H0 ds P E h)
  obtain ⟨fd12, A12⟩ := defAt (m := "gaps") (qual := "Plan.gaps") (st := mtop 31 2) l12 c12 k12
  have D_Plan_gaps : PropOk U.P U.w U.K U.mg U.base CP "gaps" ((S_Plan_gaps).lv + 1) (cGaps CP) := prop_ok (n := 1) (ps := ["self"]) A12 ⟨a12, g12, t12, r12, e12⟩ (ok_S (by decide +kernel)) rfl (ok_F (by decide +kernel)) rfl (by decide) (A12.fn.bindsN (ps := ["self"]) fun _ _ _ _ _ _ us hl => match us, hl with | [_], _ => rfl) (fun _ _ _ h => by cases h; rfl) mo_cGaps (fun G0 H0 ds P E h => b_Plan_gaps (U := U) hC (blt_cons (PySem.W.mg_none_of X G z_enumerate) blt_nil) D_row_gaps G0 H0 ds P E h)
  obtain ⟨fd13, A13⟩ := defAt (m := "gapless") (qual := "Plan.gapless") (st := mtop 31 3) l13 c13 k13
  have D_Plan_gapless : PropOk U.P U.w U.K U.mg U.base CP "gapless" ((S_Plan_gapless).lv + 1) (cGapless CP) := prop_ok (n := 1) (ps := ["self"]) A13 ⟨a13, g13, t13, r13, e13⟩ (ok_S (by decide +kernel)) rfl (ok_F (by decide +kernel)) rfl (by decide) (A13.fn.bindsN (ps := ["self"]) fun _ _ _ _ _ _ us hl => match us, hl with | [_], _ => rfl) (fun _ _ _ h => by cases h; rfl) mo_cGapless (fun G0 H0 ds P E h => b_Plan_gapless (U := U) hC (blt_cons (PySem.W.mg_none_of X G z_len) blt_nil) D_Plan_gaps G0 H0 ds P E h)
  obtain ⟨fd14, A14⟩ := defAt (m := "__eq__") (qual := "Plan.__eq__") (st := mtop 31 15) l14 c14 k14
  have D_Plan___eq__ : MethOk U.P U.w U.K U.mg U.base CP "__eq__" ((S_Plan___eq__).lv + 1) (cEq CP) := meth_ok (n := 2) (ps := ["self", "other"]) A14 ⟨a14, i14, k14⟩ (ok_S (by decide +kernel)) rfl (ok_F (by decide +kernel)) rfl (by decide) (A14.fn.bindsN (ps := ["self", "other"]) fun _ _ _ _ _ _ us hl => match us, hl with | [_, _], _ => rfl) (fun _ _ _ h => by cases h; rfl) mo_cEq (fun G0 H0 ds P E h => b_Plan___eq__ (U := U) hC (blt_cons (PySem.W.mg_none_of X G z_isinstance) blt_nil)  G0 H0 ds P E h)
  have D__law_some : U.DefF "_law_some" ((S__law_some).lv + 1) [] cSome := def_okF (j := 0) (n := 2) (ps := ["store", "items"]) (funAt (U := U) X G a15 l15 c15 k15) (ok_S (by decide +kernel)) rfl (ok_F (by decide +kernel)) rfl (by decide) (fun _ _ F => ⟨[], .nil, F.bindsN (ps := ["store", "items"]) fun _ _ _ _ _ _ us hl => match us, hl with | [_, _], _ => rfl⟩) (fun _ _ => .nil) (fun _ _ _ h => by cases h; rfl) mo_cSome (fun G0 H0 ds P E h => b__law_some (U := U)  (blt_cons (PySem.W.mg_none_of X G z_len) blt_nil) D__law_take G0 H0 ds P E h)
  have D__law_next_goods : U.DefF "_law_next_goods" ((S__law_next_goods).lv + 1) [] cNextL := def_okF (j := 0) (n := 1) (ps := ["goods"]) (funAt (U := U) X G a16 l16 c16 k16) (ok_S (by decide +kernel)) rfl (ok_F (by decide +kernel)) rfl (by decide) (fun _ _ F => ⟨[], .nil, F.bindsN (ps := ["goods"]) fun _ _ _ _ _ _ us hl => match us, hl with | [_], _ => rfl⟩) (fun _ _ => .nil) (fun _ _ _ h => by cases h; rfl) mo_cNextL (fun G0 H0 ds P E h => b__law_next_goods (U := U)    G0 H0 ds P E h)
  have D__law_fixed_rows : U.DefF "_law_fixed_rows" ((S__law_fixed_rows).lv + 1) [] cFixed := def_okF (j := 0) (n := 1) (ps := ["m"]) (funAt (U := U) X G a17 l17 c17 k17) (ok_S (by decide +kernel)) rfl (ok_F (by decide +kernel)) rfl (by decide) (fun _ _ F => ⟨[], .nil, F.bindsN (ps := ["m"]) fun _ _ _ _ _ _ us hl => match us, hl with | [_], _ => rfl⟩) (fun _ _ => .nil) (fun _ _ _ h => by cases h; rfl) mo_cFixed (fun G0 H0 ds P E h => b__law_fixed_rows (U := U)  (blt_cons (PySem.W.mg_none_of X G z_list) (blt_cons (PySem.W.mg_none_of X G z_range) blt_nil))  G0 H0 ds P E h)
  have D__law_gapless_rows : U.DefF "_law_gapless_rows" ((S__law_gapless_rows).lv + 1) [] cGapless0 := def_okF (j := 0) (n := 2) (ps := ["store", "many"]) (funAt (U := U) X G a18 l18 c18 k18) (ok_S (by decide +kernel)) rfl (ok_F (by decide +kernel)) rfl (by decide) (fun _ _ F => ⟨[], .nil, F.bindsN (ps := ["store", "many"]) fun _ _ _ _ _ _ us hl => match us, hl with | [_, _], _ => rfl⟩) (fun _ _ => .nil) (fun _ _ _ h => by cases h; rfl) mo_cGapless0 (fun G0 H0 ds P E h => b__law_gapless_rows (U := U)  (blt_cons (PySem.W.mg_none_of X G z_range) (blt_cons (PySem.W.mg_none_of X G z_len) blt_nil)) D__law_take D__law_next_goods G0 H0 ds P E h)
  have D__law_gapped_rows : U.DefF "_law_gapped_rows" ((S__law_gapped_rows).lv + 1) [] cGapped := def_okF (j := 0) (n := 2) (ps := ["store", "many"]) (funAt (U := U) X G a19 l19 c19 k19) (ok_S (by decide +kernel)) rfl (ok_F (by decide +kernel)) rfl (by decide) (fun _ _ F => ⟨[], .nil, F.bindsN (ps := ["store", "many"]) fun _ _ _ _ _ _ us hl => match us, hl with | [_, _], _ => rfl⟩) (fun _ _ => .nil) (fun _ _ _ h => by cases h; rfl) mo_cGapped (fun G0 H0 ds P E h => b__law_gapped_rows (U := U)  (blt_cons (PySem.W.mg_none_of X G z_max) (blt_cons (PySem.W.mg_none_of X G z_len) (blt_cons (PySem.W.mg_none_of X G z_list) (blt_cons (PySem.W.mg_none_of X G z_range) blt_nil)))) D__law_take D__law_gapless_rows D__law_next_goods D__law_fixed_rows D__law_some G0 H0 ds P E h)
  have D__law_pick : U.Def "_law_pick" ((S__law_pick).lv + 1) [] cPick := def_ok (j := 0) (n := 2) (ps := ["store", "items"]) (funAt (U := U) X G a20 l20 c20 k20) (ok_S (by decide +kernel)) rfl (ok_F (by decide +kernel)) rfl (by decide) (fun _ _ F => ⟨[], .nil, F.bindsN (ps := ["store", "items"]) fun _ _ _ _ _ _ us hl => match us, hl with | [_, _], _ => rfl⟩) (fun _ _ => .nil) (fun _ _ _ h => by cases h; rfl) mo_cPick (fun G0 H0 ds P E h => b__law_pick (U := U)  (blt_cons (PySem.W.mg_none_of X G z_len) blt_nil) D__law_take G0 H0 ds P E h)
  have D__law_copy : U.DefM "_law_copy" ((S__law_copyM).lv + 1) [] cCopyM := def_okM (j := 0) (n := 1) (ps := ["rows"]) (funAt (U := U) X G a21 l21 c21 k21) (ok_S (by decide +kernel)) rfl (ok_F (by decide +kernel)) rfl (by decide) (fun _ _ F => ⟨[], .nil, F.bindsN (ps := ["rows"]) fun _ _ _ _ _ _ us hl => match us, hl with | [_], _ => rfl⟩) (fun _ _ => .nil) (fun _ _ _ h => by cases h; rfl) mo_cCopyM (fun G0 H0 ds P E h => b__law_copyM (U := U)  (blt_cons (PySem.W.mg_none_of X G z_list) blt_nil)  G0 H0 ds P E h)
  have D__law_gaps : U.Def "_law_gaps" ((S__law_gaps).lv + 1) [] cLawGaps := def_ok (j := 0) (n := 1) (ps := ["rows"]) (funAt (U := U) X G a22 l22 c22 k22) (ok_S (by decide +kernel)) rfl (ok_F (by decide +kernel)) rfl (by decide) (fun _ _ F => ⟨[], .nil, F.bindsN (ps := ["rows"]) fun _ _ _ _ _ _ us hl => match us, hl with | [_], _ => rfl⟩) (fun _ _ => .nil) (fun _ _ _ h => by cases h; rfl) mo_cLawGaps (fun G0 H0 ds P E h => b__law_gaps (U := U)  (blt_cons (PySem.W.mg_none_of X G z_range) (blt_cons (PySem.W.mg_none_of X G z_len) blt_nil))  G0 H0 ds P E h)
  have D_way_counts : U.DefF "way_counts" ((S_way_counts).lv + 1) [] cWayC := def_okF (j := 0) (n := 1) (ps := ["n"]) (funAt (U := U) X G a23 l23 c23 k23) (ok_S (by decide +kernel)) rfl (ok_F (by decide +kernel)) rfl (by decide) (fun _ _ F => ⟨[], .nil, F.bindsN (ps := ["n"]) fun _ _ _ _ _ _ us hl => match us, hl with | [_], _ => rfl⟩) (fun _ _ => .nil) (fun _ _ _ h => by cases h; rfl) mo_cWayC (fun G0 H0 ds P E h => b_way_counts (U := U)  (blt_cons (PySem.W.mg_none_of X G z_range) (blt_cons (PySem.W.mg_none_of X G z_sum) blt_nil))  G0 H0 ds P E h)
  have D_run_choices : U.Def "run_choices" ((S_run_choices).lv + 1) [] cRunC := def_ok (j := 0) (n := 2) (ps := ["first", "last"]) (funAt (U := U) X G a24 l24 c24 k24) (ok_S (by decide +kernel)) rfl (ok_F (by decide +kernel)) rfl (by decide) (fun _ _ F => ⟨[], .nil, F.bindsN (ps := ["first", "last"]) fun _ _ _ _ _ _ us hl => match us, hl with | [_, _], _ => rfl⟩) (fun _ _ => .nil) (fun _ _ _ h => by cases h; rfl) mo_cRunC (fun G0 H0 ds P E h => b_run_choices (U := U)  (blt_cons (PySem.W.mg_none_of X G z_range) blt_nil)  G0 H0 ds P E h)
  have D__law_runs : U.Def "_law_runs" ((S__law_runs).lv + 1) [] cLRuns := def_ok (j := 0) (n := 2) (ps := ["base", "many"]) (funAt (U := U) X G a25 l25 c25 k25) (ok_S (by decide +kernel)) rfl (ok_F (by decide +kernel)) rfl (by decide) (fun _ _ F => ⟨[], .nil, F.bindsN (ps := ["base", "many"]) fun _ _ _ _ _ _ us hl => match us, hl with | [_, _], _ => rfl⟩) (fun _ _ => .nil) (fun _ _ _ h => by cases h; rfl) mo_cLRuns (fun G0 H0 ds P E h => b__law_runs (U := U)  (blt_cons (PySem.W.mg_none_of X G z_range) blt_nil)  G0 H0 ds P E h)
  have D__law_counts : U.Def "_law_counts" ((S__law_counts).lv + 1) [] cLCounts := def_ok (j := 0) (n := 0) (ps := []) (funAt (U := U) X G a26 l26 c26 k26) (ok_S (by decide +kernel)) rfl (ok_F (by decide +kernel)) rfl (by decide) (fun _ _ F => ⟨[], .nil, F.bindsN (ps := []) fun _ _ _ _ _ _ us hl => match us, hl with | [], _ => rfl⟩) (fun _ _ => .nil) (fun _ _ _ h => by cases h; rfl) mo_cLCounts (fun G0 H0 ds P E h => b__law_counts (U := U)  (blt_cons (PySem.W.mg_none_of X G z_range) (blt_cons (PySem.W.mg_none_of X G z_sum) blt_nil))  G0 H0 ds P E h)
  have D_how_many : U.Def "how_many" ((S_how_many).lv + 1) [] (cHowMany XA) := def_ok (j := 0) (n := 1) (ps := ["n"]) (funAt (U := U) X G a27 l27 c27 k27) (ok_S (by decide +kernel)) rfl (ok_F (by decide +kernel)) rfl (by decide) (fun _ _ F => ⟨[], .nil, F.bindsN (ps := ["n"]) fun _ _ _ _ _ _ us hl => match us, hl with | [_], _ => rfl⟩) (fun _ _ => .nil) (fun _ _ _ h => by cases h; rfl) mo_cHowMany (fun G0 H0 ds P E h => b_how_many (U := U) hC hE  D_way_counts D_Plan G0 H0 ds P E h)
  have D_gapless_at : U.Def "gapless_at" ((S_gapless_at).lv + 1) [] (cGapAt CP XA) := def_ok (j := 0) (n := 2) (ps := ["n", "at"]) (funAt (U := U) X G a28 l28 c28 k28) (ok_S (by decide +kernel)) rfl (ok_F (by decide +kernel)) rfl (by decide) (fun _ _ F => ⟨[], .nil, F.bindsN (ps := ["n", "at"]) fun _ _ _ _ _ _ us hl => match us, hl with | [_, _], _ => rfl⟩) (fun _ _ => .nil) (fun _ _ _ h => by cases h; rfl) mo_cGapAt (fun G0 H0 ds P E h => b_gapless_at (U := U) hC hE (blt_cons (PySem.W.mg_none_of X G z_range) (blt_cons (PySem.W.mg_none_of X G z_list) blt_nil)) D_how_many D_way_counts D_run_choices D_Plan G0 H0 ds P E h)
  have D_rank_of : U.Def "rank_of" ((S_rank_of).lv + 1) [] (cRank CP XA) := def_ok (j := 0) (n := 1) (ps := ["plan"]) (funAt (U := U) X G a29 l29 c29 k29) (ok_S (by decide +kernel)) rfl (ok_F (by decide +kernel)) rfl (by decide) (fun _ _ F => ⟨[], .nil, F.bindsN (ps := ["plan"]) fun _ _ _ _ _ _ us hl => match us, hl with | [_], _ => rfl⟩) (fun _ _ => .nil) (fun _ _ _ h => by cases h; rfl) mo_cRank (fun G0 H0 ds P E h => b_rank_of (U := U) hC hE (blt_cons (PySem.W.mg_none_of X G z_enumerate) (blt_cons (PySem.W.mg_none_of X G z_sum) blt_nil)) D_way_counts D_run_choices D_Plan_gapless D_Plan_gaps D_Plan_rows D_Plan_longest G0 H0 ds P E h)
  have D__law_rows_at : U.Def "_law_rows_at" ((S__law_rows_at).lv + 1) [] cRowsAt := def_ok (j := 0) (n := 3) (ps := ["table", "n", "at"]) (funAt (U := U) X G a30 l30 c30 k30) (ok_S (by decide +kernel)) rfl (ok_F (by decide +kernel)) rfl (by decide) (fun _ _ F => ⟨[], .nil, F.bindsN (ps := ["table", "n", "at"]) fun _ _ _ _ _ _ us hl => match us, hl with | [_, _, _], _ => rfl⟩) (fun _ _ => .nil) (fun _ _ _ h => by cases h; rfl) mo_cRowsAt (fun G0 H0 ds P E h => b__law_rows_at (U := U)  (blt_cons (PySem.W.mg_none_of X G z_range) (blt_cons (PySem.W.mg_none_of X G z_len) blt_nil)) D__law_runs G0 H0 ds P E h)
  have D__law_number_of : U.Def "_law_number_of" ((S__law_number_of).lv + 1) [] cNumberOf := def_ok (j := 0) (n := 2) (ps := ["table", "rows"]) (funAt (U := U) X G a31 l31 c31 k31) (ok_S (by decide +kernel)) rfl (ok_F (by decide +kernel)) rfl (by decide) (fun _ _ F => ⟨[], .nil, F.bindsN (ps := ["table", "rows"]) fun _ _ _ _ _ _ us hl => match us, hl with | [_, _], _ => rfl⟩) (fun _ _ => .nil) (fun _ _ _ h => by cases h; rfl) mo_cNumberOf (fun G0 H0 ds P E h => b__law_number_of (U := U)  (blt_cons (PySem.W.mg_none_of X G z_range) (blt_cons (PySem.W.mg_none_of X G z_len) blt_nil)) D__law_runs G0 H0 ds P E h)
  have D__law_due : U.Def "_law_due" ((S__law_due).lv + 1) [] cDue := def_ok (j := 0) (n := 2) (ps := ["table", "question"]) (funAt (U := U) X G a32 l32 c32 k32) (ok_S (by decide +kernel)) rfl (ok_F (by decide +kernel)) rfl (by decide) (fun _ _ F => ⟨[], .nil, F.bindsN (ps := ["table", "question"]) fun _ _ _ _ _ _ us hl => match us, hl with | [_, _], _ => rfl⟩) (fun _ _ => .nil) (fun _ _ _ h => by cases h; rfl) mo_cDue (fun G0 H0 ds P E h => b__law_due (U := U)  (blt_cons (PySem.W.mg_none_of X G z_len) blt_nil) D__law_gaps D__law_number_of D__law_rows_at G0 H0 ds P E h)
  have D__law_ask : U.Def "_law_ask" ((S__law_ask).lv + 1) [] cAsk := def_ok (j := 0) (n := 1) (ps := ["question"]) (funAt (U := U) X G a33 l33 c33 k33) (ok_S (by decide +kernel)) rfl (ok_F (by decide +kernel)) rfl (by decide) (fun _ _ F => ⟨[], .nil, F.bindsN (ps := ["question"]) fun _ _ _ _ _ _ us hl => match us, hl with | [_], _ => rfl⟩) (fun _ _ => .nil) (fun _ _ _ h => by cases h; rfl) mo_cAsk (fun G0 H0 ds P E h => b__law_ask (U := U) hC hE (blt_cons (PySem.W.mg_none_of X G z_isinstance) (blt_cons (PySem.W.mg_none_of X G z_sum) (blt_cons (PySem.W.mg_none_of X G z_int) (blt_cons (PySem.W.mg_none_of X G z_ValueError) blt_nil)))) D_how_many D_gapless_at D_Plan D_rank_of D__law_copy D_Plan_rows G0 H0 ds P E h)
  exact fn_okC (U := U) (n := 1) FL (ok_S (by decide +kernel)) rfl (ok_F (by decide +kernel)) rfl (by decide) (fun _ _ _ h => by cases h; rfl) (fun G0 H0 ds P E h => b_law (U := U) hC hE (blt_cons (PySem.W.mg_none_of X G z_range) (blt_cons (PySem.W.mg_none_of X G z_max) (blt_cons (PySem.W.mg_none_of X G z_len) blt_nil))) D__law_draws D__law_counts D__law_between D__law_take D__law_pick D__law_rows_at D__law_gapless_rows D__law_number_of D__law_gapped_rows D_law_same5 D__law_ask D__law_due D_Plan D_rank_of D_gapless_at D__law_copy D_Plan_rows D_Plan___eq__ D_Plan_gapless D_Plan_gaps G0 H0 ds P E h)
end Z
open PySem PySem.W PyProof.Rows
set_option maxRecDepth 100000 in
set_option maxHeartbeats 0 in
theorem PySem.Challenge.cw_onetelling_k21_listing_of_gapless_plans_holds : PySem.Challenge.rw_onetelling_k21_listing_of_gapless_plans.Holds := by
  w_on; o_law; k_head; (case hw => w_witness2)
  k_fill
  refine Z.law_walk (tabsI := ⟨[]⟩) (l := PySem.Challenge.rw_onetelling_k21_listing_of_gapless_plans) (k := 9) (x := "script") rfl rfl rfl ⟨rfl, by decide, by decide⟩ (fun w h Y => PySem.W.kIn_of Y) ?F
  case F =>
    intro w mg fa h KX G hmg
    refine' Z.all_mk (tabsI := ⟨[]⟩) KX G hmg ?aC ?Qpg ?Qhd ?Qpo ?Qsa ?Qty ?Qmk ?Qkc ?Qn1 ?Qn2 ?Qhc ?Qhg ?Qht ?Qhm ?Qne ?Qob ?Qsf ?aML ?aTooLong ?beTooLong ?hdTooLong ?tyTooLong ?aTooMany ?beTooMany ?hdTooMany ?tyTooMany ?aHasGap ?beHasGap ?hdHasGap ?tyHasGap ?aBadText ?beBadText ?hdBadText ?tyBadText ?aBadEnds ?beBadEnds ?hdBadEnds ?tyBadEnds ?aBadPlan ?beBadPlan ?hdBadPlan ?tyBadPlan ?aBadTelling ?beBadTelling ?hdBadTelling ?tyBadTelling ?aBadVerdict ?beBadVerdict ?hdBadVerdict ?tyBadVerdict ?aBadCourse ?beBadCourse ?hdBadCourse ?tyBadCourse ?aNotStop ?beNotStop ?hdNotStop ?tyNotStop ?aBadLot ?beBadLot ?hdBadLot ?tyBadLot ?aBadShare ?beBadShare ?hdBadShare ?tyBadShare ?aBadPoly ?beBadPoly ?hdBadPoly ?tyBadPoly ?aBadFraction ?beBadFraction ?hdBadFraction ?tyBadFraction ?aBadDesign ?beBadDesign ?hdBadDesign ?tyBadDesign ?aUntold ?beUntold ?hdUntold ?tyUntold ?aTooDeep ?beTooDeep ?hdTooDeep ?tyTooDeep ?aBadPage ?beBadPage ?hdBadPage ?tyBadPage ?aRefused ?beRefused ?hdRefused ?tyRefused ?aTrialError ?beTrialError ?hdTrialError ?tyTrialError ?gaTooLong ?ggTooLong ?hcTooLong ?hmTooLong ?hvTooLong ?sTooLong_TooLong ?sTooLong_TooMany ?sTooLong_HasGap ?sTooLong_BadText ?sTooLong_BadEnds ?sTooLong_BadPlan ?sTooLong_BadTelling ?sTooLong_BadVerdict ?sTooLong_BadCourse ?sTooLong_NotStop ?sTooLong_BadLot ?sTooLong_BadShare ?sTooLong_BadPoly ?sTooLong_BadFraction ?sTooLong_BadDesign ?sTooLong_Untold ?sTooLong_TooDeep ?sTooLong_BadPage ?sTooLong_Refused ?sTooLong_TrialError ?nTooLong_TooMany ?nTooLong_HasGap ?nTooLong_BadText ?nTooLong_BadEnds ?nTooLong_BadPlan ?nTooLong_BadTelling ?nTooLong_BadVerdict ?nTooLong_BadCourse ?nTooLong_NotStop ?nTooLong_BadLot ?nTooLong_BadShare ?nTooLong_BadPoly ?nTooLong_BadFraction ?nTooLong_BadDesign ?nTooLong_Untold ?nTooLong_TooDeep ?nTooLong_BadPage ?nTooLong_Refused ?gaTooMany ?ggTooMany ?hcTooMany ?hmTooMany ?hvTooMany ?sTooMany_TooLong ?sTooMany_TooMany ?sTooMany_HasGap ?sTooMany_BadText ?sTooMany_BadEnds ?sTooMany_BadPlan ?sTooMany_BadTelling ?sTooMany_BadVerdict ?sTooMany_BadCourse ?sTooMany_NotStop ?sTooMany_BadLot ?sTooMany_BadShare ?sTooMany_BadPoly ?sTooMany_BadFraction ?sTooMany_BadDesign ?sTooMany_Untold ?sTooMany_TooDeep ?sTooMany_BadPage ?sTooMany_Refused ?sTooMany_TrialError ?nTooMany_TooLong ?nTooMany_HasGap ?nTooMany_BadText ?nTooMany_BadEnds ?nTooMany_BadPlan ?nTooMany_BadTelling ?nTooMany_BadVerdict ?nTooMany_BadCourse ?nTooMany_NotStop ?nTooMany_BadLot ?nTooMany_BadShare ?nTooMany_BadPoly ?nTooMany_BadFraction ?nTooMany_BadDesign ?nTooMany_Untold ?nTooMany_TooDeep ?nTooMany_BadPage ?nTooMany_Refused ?gaHasGap ?ggHasGap ?hcHasGap ?hmHasGap ?hvHasGap ?sHasGap_TooLong ?sHasGap_TooMany ?sHasGap_HasGap ?sHasGap_BadText ?sHasGap_BadEnds ?sHasGap_BadPlan ?sHasGap_BadTelling ?sHasGap_BadVerdict ?sHasGap_BadCourse ?sHasGap_NotStop ?sHasGap_BadLot ?sHasGap_BadShare ?sHasGap_BadPoly ?sHasGap_BadFraction ?sHasGap_BadDesign ?sHasGap_Untold ?sHasGap_TooDeep ?sHasGap_BadPage ?sHasGap_Refused ?sHasGap_TrialError ?nHasGap_TooLong ?nHasGap_TooMany ?nHasGap_BadText ?nHasGap_BadEnds ?nHasGap_BadPlan ?nHasGap_BadTelling ?nHasGap_BadVerdict ?nHasGap_BadCourse ?nHasGap_NotStop ?nHasGap_BadLot ?nHasGap_BadShare ?nHasGap_BadPoly ?nHasGap_BadFraction ?nHasGap_BadDesign ?nHasGap_Untold ?nHasGap_TooDeep ?nHasGap_BadPage ?nHasGap_Refused ?nsuper ?opq ?tops ?lcTooLong ?rvTooLong ?saTooLong ?kpTooLong ?fnTooLong ?iCTooLong ?tITooLong ?flTooLong ?cdTooLong ?coTooLong ?v2TooLong ?feTooLong ?ceTooLong ?mrTooLong ?smTooLong ?lcTooMany ?rvTooMany ?saTooMany ?kpTooMany ?fnTooMany ?iCTooMany ?tITooMany ?flTooMany ?cdTooMany ?coTooMany ?v2TooMany ?feTooMany ?ceTooMany ?mrTooMany ?smTooMany ?lcHasGap ?rvHasGap ?saHasGap ?kpHasGap ?fnHasGap ?iCHasGap ?tIHasGap ?flHasGap ?cdHasGap ?coHasGap ?v2HasGap ?feHasGap ?ceHasGap ?mrHasGap ?smHasGap ?a0 ?l0 ?c0 ?k0 ?a1 ?l1 ?c1 ?k1 ?a2 ?l2 ?c2 ?k2 ?a3 ?l3 ?c3 ?k3 ?a4 ?l4 ?c4 ?k4 ?a5 ?l5 ?c5 ?k5 ?a6 ?l6 ?c6 ?k6 ?a7 ?l7 ?c7 ?k7 ?a8 ?l8 ?c8 ?k8 ?a9 ?i9 ?l9 ?c9 ?k9 ?a10 ?g10 ?t10 ?e10 ?l10 ?c10 ?k10 ?a11 ?i11 ?l11 ?c11 ?k11 ?a12 ?g12 ?t12 ?e12 ?l12 ?c12 ?k12 ?a13 ?g13 ?t13 ?e13 ?l13 ?c13 ?k13 ?a14 ?i14 ?l14 ?c14 ?k14 ?a15 ?l15 ?c15 ?k15 ?a16 ?l16 ?c16 ?k16 ?a17 ?l17 ?c17 ?k17 ?a18 ?l18 ?c18 ?k18 ?a19 ?l19 ?c19 ?k19 ?a20 ?l20 ?c20 ?k20 ?a21 ?l21 ?c21 ?k21 ?a22 ?l22 ?c22 ?k22 ?a23 ?l23 ?c23 ?k23 ?a24 ?l24 ?c24 ?k24 ?a25 ?l25 ?c25 ?k25 ?a26 ?l26 ?c26 ?k26 ?a27 ?l27 ?c27 ?k27 ?a28 ?l28 ?c28 ?k28 ?a29 ?l29 ?c29 ?k29 ?a30 ?l30 ?c30 ?k30 ?a31 ?l31 ?c31 ?k31 ?a32 ?l32 ?c32 ?k32 ?a33 ?l33 ?c33 ?k33 ?a34 ?l34 ?c34 ?k34 ?z_int ?z_range ?z_len ?z_list ?z_isinstance ?z_bool ?z_str ?z_dict ?z_tuple ?z_enumerate ?z_zip ?z_max ?z_sum ?z_ValueError
    (case aC => k_is); (case Qpg => k_is); (case Qhd => k_is); (case Qpo => k_is)
    (case Qsa => k_is); (case Qty => k_is); (case Qmk => k_is); (case Qkc => k_is)
    (case Qn1 => k_is); (case Qn2 => k_is); (case Qhc => k_is); (case Qhg => k_is)
    (case Qht => k_is); (case Qhm => k_is); (case Qne => k_is); (case Qob => k_is)
    (case Qsf => k_is); (case aML => k_is); (case aTooLong => k_is); (case beTooLong => k_is)
    (case hdTooLong => k_is); (case tyTooLong => k_is); (case aTooMany => k_is); (case beTooMany => k_is)
    (case hdTooMany => k_is); (case tyTooMany => k_is); (case aHasGap => k_is); (case beHasGap => k_is)
    (case hdHasGap => k_is); (case tyHasGap => k_is); (case aBadText => k_is); (case beBadText => k_is)
    (case hdBadText => k_is); (case tyBadText => k_is); (case aBadEnds => k_is); (case beBadEnds => k_is)
    (case hdBadEnds => k_is); (case tyBadEnds => k_is); (case aBadPlan => k_is); (case beBadPlan => k_is)
    (case hdBadPlan => k_is); (case tyBadPlan => k_is); (case aBadTelling => k_is); (case beBadTelling => k_is)
    (case hdBadTelling => k_is); (case tyBadTelling => k_is); (case aBadVerdict => k_is); (case beBadVerdict => k_is)
    (case hdBadVerdict => k_is); (case tyBadVerdict => k_is); (case aBadCourse => k_is); (case beBadCourse => k_is)
    (case hdBadCourse => k_is); (case tyBadCourse => k_is); (case aNotStop => k_is); (case beNotStop => k_is)
    (case hdNotStop => k_is); (case tyNotStop => k_is); (case aBadLot => k_is); (case beBadLot => k_is)
    (case hdBadLot => k_is); (case tyBadLot => k_is); (case aBadShare => k_is); (case beBadShare => k_is)
    (case hdBadShare => k_is); (case tyBadShare => k_is); (case aBadPoly => k_is); (case beBadPoly => k_is)
    (case hdBadPoly => k_is); (case tyBadPoly => k_is); (case aBadFraction => k_is); (case beBadFraction => k_is)
    (case hdBadFraction => k_is); (case tyBadFraction => k_is); (case aBadDesign => k_is); (case beBadDesign => k_is)
    (case hdBadDesign => k_is); (case tyBadDesign => k_is); (case aUntold => k_is); (case beUntold => k_is)
    (case hdUntold => k_is); (case tyUntold => k_is); (case aTooDeep => k_is); (case beTooDeep => k_is)
    (case hdTooDeep => k_is); (case tyTooDeep => k_is); (case aBadPage => k_is); (case beBadPage => k_is)
    (case hdBadPage => k_is); (case tyBadPage => k_is); (case aRefused => k_is); (case beRefused => k_is)
    (case hdRefused => k_is); (case tyRefused => k_is); (case aTrialError => k_is); (case beTrialError => k_is)
    (case hdTrialError => k_is); (case tyTrialError => k_is); (case gaTooLong => k_is); (case ggTooLong => k_is)
    (case hcTooLong => k_is); (case hmTooLong => k_is); (case hvTooLong => k_is); (case sTooLong_TooLong => k_is)
    (case sTooLong_TooMany => k_is); (case sTooLong_HasGap => k_is); (case sTooLong_BadText => k_is); (case sTooLong_BadEnds => k_is)
    (case sTooLong_BadPlan => k_is); (case sTooLong_BadTelling => k_is); (case sTooLong_BadVerdict => k_is); (case sTooLong_BadCourse => k_is)
    (case sTooLong_NotStop => k_is); (case sTooLong_BadLot => k_is); (case sTooLong_BadShare => k_is); (case sTooLong_BadPoly => k_is)
    (case sTooLong_BadFraction => k_is); (case sTooLong_BadDesign => k_is); (case sTooLong_Untold => k_is); (case sTooLong_TooDeep => k_is)
    (case sTooLong_BadPage => k_is); (case sTooLong_Refused => k_is); (case sTooLong_TrialError => k_is); (case nTooLong_TooMany => decide)
    (case nTooLong_HasGap => decide); (case nTooLong_BadText => decide); (case nTooLong_BadEnds => decide); (case nTooLong_BadPlan => decide)
    (case nTooLong_BadTelling => decide); (case nTooLong_BadVerdict => decide); (case nTooLong_BadCourse => decide); (case nTooLong_NotStop => decide)
    (case nTooLong_BadLot => decide); (case nTooLong_BadShare => decide); (case nTooLong_BadPoly => decide); (case nTooLong_BadFraction => decide)
    (case nTooLong_BadDesign => decide); (case nTooLong_Untold => decide); (case nTooLong_TooDeep => decide); (case nTooLong_BadPage => decide)
    (case nTooLong_Refused => decide); (case gaTooMany => k_is); (case ggTooMany => k_is); (case hcTooMany => k_is)
    (case hmTooMany => k_is); (case hvTooMany => k_is); (case sTooMany_TooLong => k_is); (case sTooMany_TooMany => k_is)
    (case sTooMany_HasGap => k_is); (case sTooMany_BadText => k_is); (case sTooMany_BadEnds => k_is); (case sTooMany_BadPlan => k_is)
    (case sTooMany_BadTelling => k_is); (case sTooMany_BadVerdict => k_is); (case sTooMany_BadCourse => k_is); (case sTooMany_NotStop => k_is)
    (case sTooMany_BadLot => k_is); (case sTooMany_BadShare => k_is); (case sTooMany_BadPoly => k_is); (case sTooMany_BadFraction => k_is)
    (case sTooMany_BadDesign => k_is); (case sTooMany_Untold => k_is); (case sTooMany_TooDeep => k_is); (case sTooMany_BadPage => k_is)
    (case sTooMany_Refused => k_is); (case sTooMany_TrialError => k_is); (case nTooMany_TooLong => decide); (case nTooMany_HasGap => decide)
    (case nTooMany_BadText => decide); (case nTooMany_BadEnds => decide); (case nTooMany_BadPlan => decide); (case nTooMany_BadTelling => decide)
    (case nTooMany_BadVerdict => decide); (case nTooMany_BadCourse => decide); (case nTooMany_NotStop => decide); (case nTooMany_BadLot => decide)
    (case nTooMany_BadShare => decide); (case nTooMany_BadPoly => decide); (case nTooMany_BadFraction => decide); (case nTooMany_BadDesign => decide)
    (case nTooMany_Untold => decide); (case nTooMany_TooDeep => decide); (case nTooMany_BadPage => decide); (case nTooMany_Refused => decide)
    (case gaHasGap => k_is); (case ggHasGap => k_is); (case hcHasGap => k_is); (case hmHasGap => k_is)
    (case hvHasGap => k_is); (case sHasGap_TooLong => k_is); (case sHasGap_TooMany => k_is); (case sHasGap_HasGap => k_is)
    (case sHasGap_BadText => k_is); (case sHasGap_BadEnds => k_is); (case sHasGap_BadPlan => k_is); (case sHasGap_BadTelling => k_is)
    (case sHasGap_BadVerdict => k_is); (case sHasGap_BadCourse => k_is); (case sHasGap_NotStop => k_is); (case sHasGap_BadLot => k_is)
    (case sHasGap_BadShare => k_is); (case sHasGap_BadPoly => k_is); (case sHasGap_BadFraction => k_is); (case sHasGap_BadDesign => k_is)
    (case sHasGap_Untold => k_is); (case sHasGap_TooDeep => k_is); (case sHasGap_BadPage => k_is); (case sHasGap_Refused => k_is)
    (case sHasGap_TrialError => k_is); (case nHasGap_TooLong => decide); (case nHasGap_TooMany => decide); (case nHasGap_BadText => decide)
    (case nHasGap_BadEnds => decide); (case nHasGap_BadPlan => decide); (case nHasGap_BadTelling => decide); (case nHasGap_BadVerdict => decide)
    (case nHasGap_BadCourse => decide); (case nHasGap_NotStop => decide); (case nHasGap_BadLot => decide); (case nHasGap_BadShare => decide)
    (case nHasGap_BadPoly => decide); (case nHasGap_BadFraction => decide); (case nHasGap_BadDesign => decide); (case nHasGap_Untold => decide)
    (case nHasGap_TooDeep => decide); (case nHasGap_BadPage => decide); (case nHasGap_Refused => decide); (case nsuper => k_is)
    (case opq => k_is); (case tops => rfl); (case lcTooLong => k_is); (case rvTooLong => rfl)
    (case saTooLong => k_is); (case kpTooLong => k_is); (case fnTooLong => k_is); (case iCTooLong => k_is)
    (case tITooLong => k_is); (case flTooLong => k_is); (case cdTooLong => k_is); (case coTooLong => k_is)
    (case v2TooLong => rfl); (case feTooLong => first | rfl | decide +kernel); (case ceTooLong => k_is); (case mrTooLong => k_is)
    (case smTooLong => ks_is); (case lcTooMany => k_is); (case rvTooMany => rfl); (case saTooMany => k_is)
    (case kpTooMany => k_is); (case fnTooMany => k_is); (case iCTooMany => k_is); (case tITooMany => k_is)
    (case flTooMany => k_is); (case cdTooMany => k_is); (case coTooMany => k_is); (case v2TooMany => rfl)
    (case feTooMany => first | rfl | decide +kernel); (case ceTooMany => k_is); (case mrTooMany => k_is); (case smTooMany => ks_is)
    (case lcHasGap => k_is); (case rvHasGap => rfl); (case saHasGap => k_is); (case kpHasGap => k_is)
    (case fnHasGap => k_is); (case iCHasGap => k_is); (case tIHasGap => k_is); (case flHasGap => k_is)
    (case cdHasGap => k_is); (case coHasGap => k_is); (case v2HasGap => rfl); (case feHasGap => first | rfl | decide +kernel)
    (case ceHasGap => k_is); (case mrHasGap => k_is); (case smHasGap => ks_is); (case a0 => k_is)
    (case l0 => k_is); (case c0 => k_is); (case k0 => k_is); (case a1 => k_is)
    (case l1 => k_is); (case c1 => k_is); (case k1 => k_is); (case a2 => k_is)
    (case l2 => k_is); (case c2 => k_is); (case k2 => k_is); (case a3 => k_is)
    (case l3 => k_is); (case c3 => k_is); (case k3 => k_is); (case a4 => k_is)
    (case l4 => k_is); (case c4 => k_is); (case k4 => k_is); (case a5 => k_is)
    (case l5 => k_is); (case c5 => k_is); (case k5 => k_is); (case a6 => k_is)
    (case l6 => k_is); (case c6 => k_is); (case k6 => k_is); (case a7 => k_is)
    (case l7 => k_is); (case c7 => k_is); (case k7 => k_is); (case a8 => k_is)
    (case l8 => k_is); (case c8 => k_is); (case k8 => k_is); (case a9 => k_is)
    (case i9 => k_is); (case l9 => k_is); (case c9 => k_is); (case k9 => k_is)
    (case a10 => k_is); (case g10 => k_is); (case t10 => k_is); (case e10 => k_is)
    (case l10 => k_is); (case c10 => k_is); (case k10 => k_is); (case a11 => k_is)
    (case i11 => k_is); (case l11 => k_is); (case c11 => k_is); (case k11 => k_is)
    (case a12 => k_is); (case g12 => k_is); (case t12 => k_is); (case e12 => k_is)
    (case l12 => k_is); (case c12 => k_is); (case k12 => k_is); (case a13 => k_is)
    (case g13 => k_is); (case t13 => k_is); (case e13 => k_is); (case l13 => k_is)
    (case c13 => k_is); (case k13 => k_is); (case a14 => k_is); (case i14 => k_is)
    (case l14 => k_is); (case c14 => k_is); (case k14 => k_is); (case a15 => k_is)
    (case l15 => k_is); (case c15 => k_is); (case k15 => k_is); (case a16 => k_is)
    (case l16 => k_is); (case c16 => k_is); (case k16 => k_is); (case a17 => k_is)
    (case l17 => k_is); (case c17 => k_is); (case k17 => k_is); (case a18 => k_is)
    (case l18 => k_is); (case c18 => k_is); (case k18 => k_is); (case a19 => k_is)
    (case l19 => k_is); (case c19 => k_is); (case k19 => k_is); (case a20 => k_is)
    (case l20 => k_is); (case c20 => k_is); (case k20 => k_is); (case a21 => k_is)
    (case l21 => k_is); (case c21 => k_is); (case k21 => k_is); (case a22 => k_is)
    (case l22 => k_is); (case c22 => k_is); (case k22 => k_is); (case a23 => k_is)
    (case l23 => k_is); (case c23 => k_is); (case k23 => k_is); (case a24 => k_is)
    (case l24 => k_is); (case c24 => k_is); (case k24 => k_is); (case a25 => k_is)
    (case l25 => k_is); (case c25 => k_is); (case k25 => k_is); (case a26 => k_is)
    (case l26 => k_is); (case c26 => k_is); (case k26 => k_is); (case a27 => k_is)
    (case l27 => k_is); (case c27 => k_is); (case k27 => k_is); (case a28 => k_is)
    (case l28 => k_is); (case c28 => k_is); (case k28 => k_is); (case a29 => k_is)
    (case l29 => k_is); (case c29 => k_is); (case k29 => k_is); (case a30 => k_is)
    (case l30 => k_is); (case c30 => k_is); (case k30 => k_is); (case a31 => k_is)
    (case l31 => k_is); (case c31 => k_is); (case k31 => k_is); (case a32 => k_is)
    (case l32 => k_is); (case c32 => k_is); (case k32 => k_is); (case a33 => k_is)
    (case l33 => k_is); (case c33 => k_is); (case k33 => k_is); (case a34 => k_is)
    (case l34 => k_is); (case c34 => k_is); (case k34 => k_is); (case z_int => k_is)
    (case z_range => k_is); (case z_len => k_is); (case z_list => k_is); (case z_isinstance => k_is)
    (case z_bool => k_is); (case z_str => k_is); (case z_dict => k_is); (case z_tuple => k_is)
    (case z_enumerate => k_is); (case z_zip => k_is); (case z_max => k_is); (case z_sum => k_is)
    (case z_ValueError => k_is)
