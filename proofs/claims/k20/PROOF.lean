import PyProof.Rows.All
import Wide.All
import OpenK.AllK
import Wide.FinOn
import HandS.ForMost
import HandS.HotCalls
import HandS.Lambda
import HandS.ExcCtx
import HandS.ExcIs
import HandS.WordsExc
import HandS.EndTab
import KE.KDictDisplayH
import HandS.Walk
import HandS.IsInst
import HandS.Wide
import HandS.TupMul
import HandS.TupAny
import HandS.Evl
import HandS.More
import HandS.Conv
import HandS.Nested
import PySem.Challenge.RW_lookhouse_k20_terms_refused
set_option Elab.async false
set_option linter.all false
set_option maxRecDepth 100000
set_option maxHeartbeats 4000000
/-! While an exception is handled: a list's iterator at its end, sum of a list, a list comprehension over a list. -/
namespace Lk
open PySem PySem.Spec PyProof.Rows L2 HotX L2H
section
variable {prog : Program} {w : World} {A : Around} {E : Value → Shared → Prop} {s : Shared}
theorem hot_end {it l x1 : Addr} {i : Nat} {items : Array Value} {Q : Option Value → Shared → Prop} (hot : HotAt A x1 s.heap) (hne : x1 ≠ it)
    (hit : s.heap.IsListIter it l i) (hl : s.heap.IsList l items) (hx : items[i]? = none)
    (hQ : ∀ h', Heap.ExtBut it s.heap h' → Q none { s with heap := h' }) : wpAny (model prog w) A (pyNext (.ref it)) Q E s := by
  obtain ⟨oi, hoi, hci, hdi⟩ := id hit
  obtain ⟨oL, hoL, _, nL, hdL⟩ := hl
  obtain ⟨hh, o1, vs1, h1, d1, c1⟩ := hot
  unfold pyNext
  refine wpAny_bind (wpAny_attempt (wpAny_callSpecial?_slot (name := Str.ofString "__next__") hit.typeIs slot_listiter_next
    (wpAny_call_entry slot_listiter_next hit.typeIs entry_listiter_next ?g (args_listiter_next _))))
  case g =>
    show wpAny _ _ (field (.ref it) 0 >>= _) _ _ s
    refine wpAny_bind (wpAny_field hoi hdi (x := .ref l) rfl ?_)
    show wpAny _ _ (if (Value.ref l == Value.none) = true then _ else _) _ _ s
    rw [if_neg (show ¬ ((Value.ref l == Value.none) = true) from Bool.false_ne_true)]
    show wpAny _ _ (field (.ref it) 1 >>= _) _ _ s
    refine wpAny_bind (wpAny_field hoi hdi (x := .int i 0) rfl ?_)
    show wpAny _ _ (seqItems? (.ref l) >>= _) _ _ s
    refine wpAny_bind (wpAny_seqItems hoL hdL ?_)
    simp only [Int.toNat_natCast, hx]
    refine wpAny_bind (wpAny_rule (wpAny_bind (wpAny_setField hoi hdi (by simp) ?_)))
    generalize hg : s.heap.update it (Obj.mapFields (·.setIfInBounds 0 Value.none)) = g
    have g1 : g.get? x1 = some o1 := by rw [← hg, Heap.get?_update_other _ _ (Ne.symm hne)]; exact h1
    show wpAny _ _ (newExc (.type "StopIteration") [] >>= _) _ _ _
    refine wpAny_bind ?_
    simp only [newExc, newTuple]
    refine wpAny_bind (wpAny_newObj_type ?_ (by size_fits))
    refine wpAny_bind (m := firstArgMember _ _) (wpAny_of_eq (a := Value.none) (by first | rfl | (simp only [firstArgMember]; rfl)) ?_)
    refine wpAny_newObj_type ?_ (by size_fits)
    have p1 := Heap.get?_push_of_some ({ cls := .type "tuple", data := .seq #[] } : Obj) g1
    have nx := Nat.ne_of_lt (Heap.lt_size p1)
    refine raiseNew_hot (x1 := x1) ⟨hh, o1, vs1, Heap.get?_push_of_some _ p1, d1, c1⟩ nx (Heap.get?_push_size _ rfl) rfl (by first | (simp; done) | (simp only [Array.size_append]; simp; omega)) ?_
    refine wpAny_bind (wpAny_isInstance (T := "StopIteration") (b := true) ⟨_, Heap.get?_update_self _ (Heap.get?_push_size _ rfl) rfl, rfl⟩ isSubtype_stop ?_)
    refine wpAny_pure (hQ _ fun b o hb e => ?_)
    have e1 : g.get? b = some o := by rw [← hg, Heap.get?_update_other _ _ (Ne.symm hb)]; exact e
    have e2 := Heap.get?_push_of_some ({ cls := .type "tuple", data := .seq #[] } : Obj) e1
    rw [Heap.get?_update_other _ _ (Nat.ne_of_gt (Heap.lt_size e2))]
    exact Heap.get?_push_of_some _ e2

/-- a list's walk while the exception at x1 is handled -/
theorem hot_walk {x1 : Addr} (hh : A.handled = some (.ref x1)) (it ax : Addr) (hne : ax ≠ it) (hx1 : x1 ≠ it) (items : Array Value) :
    Walks prog w A it [it, ax, x1] [it] items.size (fun i v => items[i]? = some v) (fun i h => (h.IsListIter it ax i ∧ h.IsList ax items) ∧ HotAt A x1 h) where
  sub := fun b hb => by
    have e : b = it := by simpa using hb
    rw [e]; simp
  frame := fun _ _ _ st hk => by
    obtain ⟨⟨s1, s2⟩, hz, o, vs, g1, g2, g3⟩ := st
    exact ⟨⟨s1.at fun o e => hk it (by simp) o e, s2.at fun o e => hk ax (by simp) o e⟩, hz, o, vs, hk x1 (by simp) o g1, g2, g3⟩
  item := fun i s Q E hi st hQ => by
    obtain ⟨⟨s1, s2⟩, hz, o, vs, g1, g2, g3⟩ := st
    refine wpAny_pyNext_list_item s1 s2 (x := items[i]) (by simp [hi]) fun h' hit' hs' => ?_
    refine hQ _ h' s.toks (by simp [hi]) ⟨⟨hit', s2.extBut hs'.extBut hne⟩, hz, o, vs, hs'.extBut x1 o hx1 g1, g2, g3⟩ fun b o hb e => hs'.extBut b o (fun z => hb (by simp [z])) e
  done := fun s Q E st hQ => hot_end st.2 hx1 st.1.1 st.1.2 (by simp) fun h' he' => hQ h' s.toks fun b o hb e => he' b o (fun z => hb (by simp [z])) e
  self := fun _ _ _ _ st hQ => wpAny_pyIter_listiter st.1.1 hQ
theorem hot_sum {x1 l : Addr} {its : List Value} {ns : List Int} {Q : Value → Shared → Prop} (hot : HotAt A x1 s.heap) (hl : s.heap.IsList l its.toArray) (hi : IntsAre its ns)
    (h : ∀ h' tk t', (∀ b o, s.heap.get? b = some o → h'.get? b = some o) → Q (.int ns.sum t') { s with heap := h', toks := tk }) : wpAny (model prog w) A (call (.builtin "sum") [.ref l]) Q E s := by
  obtain ⟨xs, e⟩ := hi.allInts.items
  have hn : numsOf (intItems xs).toList = ns := by rw [← e]; exact hi.numsOf
  rw [nums_intItems] at hn
  rw [e] at hl
  obtain ⟨hh, o1, vs1, g1, g2, g3⟩ := hot
  refine call_sum_walkG (iter_intList hl fun s₂ e₂ st hfp hlI => ?_)
  subst e₂
  have k1 := Heap.get?_push_of_some ({ cls := .type "list_iterator", data := .fields #[.ref l, .int 0 0] } : Obj) g1
  refine ⟨_, _, _, _, _, _, numAt xs, rfl, hot_walk (A := A.in1) (x1 := x1) hh s.heap.objs.size l hlI (Nat.ne_of_lt (Heap.lt_size g1)) (intItems xs), ⟨st, hh, o1, vs1, k1, g2, g3⟩, fun b hb => ?_, (fun _ _ => intItems_at), fun h' tk t' hk => ?_⟩
  · rcases List.mem_cons.mp hb with z | hb
    · exact hfp b (by rw [z]; simp)
    · rcases List.mem_cons.mp hb with z | hb
      · exact hfp b (by rw [z]; simp)
      · have z : b = x1 := by simpa using hb
        rw [z]; exact Heap.lt_size k1
  · have q := h h' tk t' (old_kept hk)
    have e3 : preSum (numAt xs) (intItems xs).size = ns.sum := by
      have e4 : (intItems xs).size = xs.size := by simp [intItems]
      rw [e4, preSum_eq, List.take_of_length_le (by simp), hn]
    rw [e3]
    exact q
end
/-- sum(xs), ints, an exception being handled -/
theorem cr_sumH {X : Cx} (hc : HotC X) : CallR X (.builtin "sum") (rSum X.K) := by
  intro pins s σ H xs us Q I r h
  obtain ⟨a, ns, rfl, hS, q⟩ := h
  cases r with
  | cons r1 rr =>
    cases rr
    cases (show _ = Value.ref a from r1)
    obtain ⟨its, rv, hl, _⟩ := I.list hS
    obtain ⟨x1, hot⟩ := hc.at I
    exact hot_sum hot hl.isList rv.ints fun h' tk t' hk => ⟨.int _, H, I.kept hk, ⟨_, rfl⟩, q⟩
end Lk
set_option Elab.async false
set_option linter.all false
set_option maxRecDepth 100000
set_option maxHeartbeats 4000000
namespace Lk
open PySem PySem.Spec PyProof.Rows L2 HotX L2H
section
variable {X : Cx} {pins : List (Addr × Obj)} {σ : L2.St} {H : Hp} {s : Shared}
/-- the list's iterator gives an item -/
theorem it_item {tg : Expr} {a it : Addr} {i : Nat} {E : Value → Shared → Prop} (I : Inv X pins σ H s) (hf : FpOk X pins H it) (st : s.heap.IsListIter it a i) (hg : (Itl X.K a).go i H) :
    wpAny (model X.prog X.w) X.A (pyNext (.ref it)) (fun r s1 => ∃ u, r = some u ∧
      wpAny (model X.prog X.w) X.A (letOwnedTupleGo tg (.ref it) u) (fun _ s2 => ∃ x, Inv X pins σ H s2 ∧ RelV x u ∧ (Itl X.K a).yld i H x H ∧ s2.heap.IsListIter it a (i + 1)) E s1) E s := by
  obtain ⟨xs, x, hq, hx⟩ := hg
  obtain ⟨its, rv, p, hz⟩ := I.list hq
  obtain ⟨u, hu, ru⟩ := rv.get hx
  obtain ⟨f0, f1, f2, f3, f4, f5⟩ := hf
  refine wpAny_pyNext_list_item st p.isList (x := u) (by simpa using hu) fun h' st' sb => ?_
  have J : Inv X pins σ H { s with heap := h' } := I.turned (t' := s.toks) (fun b o hb e => (sb.2 b hb).trans e) f0 f1 f3 f4 f5
  obtain ⟨o, e, c, d⟩ := id st'
  exact ⟨u, rfl, go_of (s := { s with heap := h' }) e c d (by decide) ⟨x, J, ru, ⟨rfl, fun ys hy => by rw [I.list_inj hy hq]; exact hx⟩, st'⟩⟩
/-- .. or stops, the exception of the pin p being handled -/
theorem it_done {a it : Addr} {i : Nat} {E : Value → Shared → Prop} {p : Addr × Obj} (I : Inv X pins σ H s) (hp : p ∈ X.pn ++ pins) (hot : Hot1 X.A p) (hf : FpOk X pins H it) (st : s.heap.IsListIter it a i) (hg : (Itl X.K a).stop i H) :
    wpAny (model X.prog X.w) X.A (pyNext (.ref it)) (fun r s1 => r = none ∧ Inv X pins σ H s1) E s := by
  obtain ⟨xs, hq, hx⟩ := hg
  obtain ⟨its, rv, pl, hz⟩ := I.list hq
  obtain ⟨f0, f1, f2, f3, f4, f5⟩ := hf
  obtain ⟨hh, vs, d1, c1⟩ := hot
  have hl := rv.length
  exact hot_end (x1 := p.1) ⟨hh, p.2, vs, (I.pin p hp).1, d1, c1⟩ (f5 p hp) st pl.isList (by simp; omega) fun h' eb => ⟨rfl, I.turned (t' := s.toks) (fun b o hb e => eb b o hb e) f0 f1 f3 f4 f5⟩
end
section
variable {X : Cx}
/-- [elt for tg in l if ..], l a list, while an exception is handled -/
theorem pe_lcH {elt tg l : Expr} {ifs : List Expr} {scope : Scope} {own : List (Str × Nat)} {pos : Pos} {tl : TE} {g : TG} {tt : TT} {te : TE} (hc : HotC X) (hN : X.N.Nodup) (hl : PE X l tl) (ok : BlkOk X.N X.env.scope scope own)
    (hg : ∀ (s : Shared) (H : Hp) (C : Addr) (cl : List (Str × Addr)) (fp : List Addr), PG (X.blk s H scope (compEnvC scope cl C X.env) fp) tg g)
    (ht : ∀ (s : Shared) (H : Hp) (C : Addr) (cl : List (Str × Addr)) (fp : List Addr), PTs (X.blk s H scope (compEnvC scope cl C X.env) fp) ifs tt)
    (he : ∀ (s : Shared) (H : Hp) (C : Addr) (cl : List (Str × Addr)) (fp : List Addr), PE (X.blk s H scope (compEnvC scope cl C X.env) fp) elt te) (hs : ∀ x, foldedSetIterable l X.env x = pure x := by intro _; rfl) :
    PE X (.ListComp elt [⟨tg, l, ifs, 0⟩] scope pos) (tLc (iList X.K tl) g tt te (own.map (·.2))) := by
  refine ⟨fun pins s σ H Q I h => ?_⟩
  obtain ⟨p, hot, hp⟩ := hc
  rw [eval_ListComp]
  have hfree : ∀ y ∈ scope.names, y.2 = .free → ∃ c, X.env.cells.lookup y.1 = some c := fun y hy e =>
    (ok.free y hy e).elim (fun k => I.ok.has _ (.inl k)) (fun k => I.ok.has _ (.inr k))
  refine wpAny_comprehension_free (use := none) rfl hs (closure_ok hfree) ok.kind (fun y hy e => by rw [ok.uniq y hy, e])
    (thn (hl.run pins s σ H _ I h) fun xv s1 ⟨x1, H1, I1, r1, a, ea, ⟨xs, hq⟩, q⟩ => ?_)
  subst ea
  cases (show xv = Value.ref a from r1)
  obtain ⟨its, rv, pl, hz⟩ := I1.list hq
  refine wpAny_pyIter_list pl.isList ?_
  -- the iterator
  generalize hit : s1.heap.objs.size = it
  generalize hs2 : ({ s1 with heap := s1.heap.push { cls := .type "list_iterator", data := .fields #[.ref a, .int 0 0] } } : Shared) = s2
  have I2 : Inv X pins σ H1 s2 := by rw [← hs2]; exact I1.kept (t' := s1.toks) fun b o e => Heap.get?_push_of_some _ e
  have st2 : s2.heap.IsListIter it a 0 := by rw [← hs2, ← hit]; exact ⟨_, Heap.get?_push_size _ rfl, rfl, rfl⟩
  have f2 : FpOk X pins H1 it := I1.fpOk (Nat.le_of_eq hit) (I1.hok.fresh (Nat.le_of_eq hit))
  have lt2 : it < s2.heap.objs.size := by obtain ⟨o, e, _⟩ := st2; exact Heap.lt_size e
  refine wpAny_newObj_type (newEnv_comp ?_) (by show 0 ≤ sizeLine; decide)
  -- the new list
  generalize hD : s2.heap.objs.size = D
  have hDn : H1 D = none := I2.hok.fresh (Nat.le_of_eq hD)
  obtain ⟨W, ⟨m0, w0⟩, turn⟩ := q D hDn
  generalize hs3 : ({ s2 with heap := s2.heap.push { cls := .type "list", data := .seq ([] : List Value).toArray } } : Shared) = s3
  have h3 : s3.heap = s2.heap.push { cls := .type "list", data := .seq ([] : List Value).toArray } := by rw [← hs3]
  have I3 : Inv X pins σ (upd H1 D (.lst [])) s3 := by
    rw [← hs3]
    refine I2.laid (t' := s2.toks) (fun b o e => Heap.get?_push_of_some _ e) (Nat.le_of_eq hD) ⟨Nat.zero_le _, [], 0, .nil, ?_⟩
    rw [← hD]
    exact Heap.get?_push_size _ rfl
  generalize hH3 : upd H1 D (.lst []) = H3 at I3 w0
  have n3 : H3 it = none := by
    rw [← hH3, upd_ne (by rw [← hD]; exact Nat.ne_of_lt lt2)]
    exact f2.1
  have f3 : ∀ b ∈ [it], FpOk X pins H3 b ∧ b < s3.heap.objs.size := fun b hb => by
    have e : b = it := by simpa using hb
    rw [e]
    exact ⟨⟨n3, f2.2⟩, by rw [h3, Heap.size_push]; exact Nat.lt_succ_of_lt lt2⟩
  have st3 : s3.heap.IsListIter it a 0 := st2.at fun o e => by rw [h3]; exact Heap.get?_push_of_some _ e
  have I4 := block_start I3 ok hN f3
  have pg := hg s3 H3 s3.heap.objs.size (cellsFrom (s3.heap.objs.size + 1) scope.names (cloFrom X.env.cells scope.names [])) [it]
  have pt := ht s3 H3 s3.heap.objs.size (cellsFrom (s3.heap.objs.size + 1) scope.names (cloFrom X.env.cells scope.names [])) [it]
  have pe := he s3 H3 s3.heap.objs.size (cellsFrom (s3.heap.objs.size + 1) scope.names (cloFrom X.env.cells scope.names [])) [it]
  generalize hce : compEnvC scope (cellsFrom (s3.heap.objs.size + 1) scope.names (cloFrom X.env.cells scope.names [])) s3.heap.objs.size X.env = ce at I4 pg pt pe
  have cL : ce.locals = s3.heap.objs.size := by subst hce; rfl
  generalize hs4 : ({ s3 with heap := pushCells (s3.heap.push { cls := .type "dict", data := .dict #[] }) scope.names } : Shared) = s4 at I4
  have kp4 : ∀ b o, s3.heap.get? b = some o → s4.heap.get? b = some o := fun b o e => by rw [← hs4]; exact pushCells_keeps _ _ _ _ (Heap.get?_push_of_some _ e)
  have st4 : s4.heap.IsListIter it a 0 := st3.at fun o e => kp4 _ _ e
  have P3 := I3.pin p (List.mem_append_left _ hp)
  have I5 : Inv (X.blk s3 H3 scope ce [it]) [p] (wipe σ (own.map (·.2))) H3 s4 := I4.pins_of fun r hr => by
    have e : r = p := by simpa using hr
    rw [e]
    refine ⟨kp4 _ _ P3.1, P3.2.1, ?_, fun z => ?_, P3.2.2.2.2⟩
    · show p.1 ≠ ce.locals
      rw [cL]; exact Nat.ne_of_lt (Heap.lt_size P3.1)
    · exact (List.mem_cons.mp (I3.stkSub p.1 z)).elim P3.2.2.1 P3.2.2.2.1
  have nip : p.1 ≠ it := f2.2.2.2.2.2 p (List.mem_append_left _ hp)
  have stat : ∀ {σ' : L2.St} {H' : Hp} {s' : Shared}, Inv (X.blk s3 H3 scope ce [it]) [p] σ' H' s' → H' it = none → FpOk (X.blk s3 H3 scope ce [it]) [p] H' it := fun {σ' H' s'} J hn =>
    ⟨hn, (J.ok.exf it (by simp)).1, J.ok.exfs it (by simp), .inl (by simp), fun x c e => (J.ok.exf it (by simp)).2 x c e, fun r hr => by
      have e : r = p := by simpa using (show r ∈ ([] : List (Addr × Obj)) ++ [p] from hr)
      rw [e]; exact nip⟩
  show codeAny _ _ (.compStart (.ListComp elt [⟨tg, l, ifs, 0⟩] scope pos) 0 (.ref it) (.ref D) (compEnvC scope (cellsFrom (s3.heap.objs.size + 1) scope.names (cloFrom X.env.cells scope.names [])) s3.heap.objs.size X.env)) _ _
  rw [hce]
  have fin : codeAny (model X.prog X.w) X.A (.compLoop (.ListComp elt [⟨tg, l, ifs, 0⟩] scope pos) 0 (.ref it) (.ref D) ce) (compPost (model X.prog X.w) X.A X.xe none (EP X pins σ Q) (.ref D) s3.heap.objs.size) s4 := by
    refine compLoop_any (fun n s' => ∃ i H', Inv (X.blk s3 H3 scope ce [it]) [p] (wipe σ (own.map (·.2))) H' s' ∧ s'.heap.IsListIter it a i ∧ H' it = none ∧ W i n H') ?_ m0 ⟨0, H3, I5, st4, n3, w0⟩
    rintro n s5 ⟨i, H5, J5, st5, n5, w5⟩
    rcases turn i n H5 w5 with ⟨stop, qq⟩ | ⟨go, Nx, hNx, step⟩
    · refine thnF (it_done (X := X.blk s3 H3 scope ce [it]) J5 (by show p ∈ ([] : List (Addr × Obj)) ++ [p]; simp) hot (stat J5 n5) st5 stop) fun r s6 ⟨hr, J6⟩ => ?_
      subst hr
      have J7 : Inv X pins σ H5 s6 := I3.call' (ch := [it]) J6.os J6.base J6.hok J6.bare fun b hb => by
        obtain ⟨⟨_, z1, _, z2, z3, z4⟩, _⟩ := f3 b hb
        exact ⟨z2, z1, z3, z4⟩
      have nC : H5 s3.heap.objs.size = none := by
        have z : H5 ce.locals = none := J6.free
        rw [cL] at z
        exact z
      obtain ⟨m, hn, _⟩ := J6.loc
      have hn : s6.heap.Ns ce.locals m := hn
      rw [cL] at hn
      obtain ⟨f0, f1, _, f4, f5, f6⟩ := I3.fpOk (H' := H5) (Nat.le_refl _) nC
      exact ⟨m, hn, fun h'' sb => ⟨.ref D, H5, J7.turned (t' := s6.toks) (fun b o hb e => (sb.2 b hb).trans e) f0 f1 f4 f5 f6, rfl, qq⟩⟩
    · refine thnF (it_item (X := X.blk s3 H3 scope ce [it]) (tg := tg) J5 (stat J5 n5) st5 go) fun r s6 ⟨u, hr, h6⟩ => ?_
      subst hr
      refine thnF h6 fun _ s7 ⟨x, J7, r7, y7, st7⟩ => ?_
      have J8 := J7.pinned (fp := [it]) (fun b hb => by
        have e : b = it := by simpa using hb
        rw [e]; exact stat J7 n5) (fun b hb => by
        have e : b = it := by simpa using hb
        rw [e]
        obtain ⟨o, e1, _, e3⟩ := id st7
        exact ⟨o, e1, fun v z => by rw [e3] at z; cases z⟩)
      refine thnF (pg.run _ s7 _ H5 x u _ J8 r7 (step x H5 y7)) fun _ s8 ⟨σ8, H8, J9, hw8, q8⟩ => ?_
      refine thnF (pt.run _ s8 σ8 H8 _ J9 q8) fun b s9 ⟨H9, J10, q9⟩ => ?_
      have over : ∀ {s' : Shared} {H' : Hp}, Inv (X.blk s3 H3 scope ce [it]) ([p] ++ pinsAt [it] s7.heap) σ8 H' s' → Nx H' →
          ∃ m, m < n ∧ ∃ i H', Inv (X.blk s3 H3 scope ce [it]) [p] (wipe σ (own.map (·.2))) H' s' ∧ s'.heap.IsListIter it a i ∧ H' it = none ∧ W i m H' := fun {s' H'} J nx => by
        obtain ⟨m', hm, w'⟩ := hNx H' nx
        obtain ⟨o, e1, _⟩ := id st7
        have z := J.pin (it, o) (List.mem_append_right _ (List.mem_append_right _ (mem_pinsAt (by simp) e1)))
        have hl8 : (wipe σ (own.map (·.2))).length = σ8.length := by rw [← hw8, wipe_length]
        refine ⟨m', hm, i + 1, H', J.unpinned.weak hl8 (fun j v e => ?_), st7.at fun o' e' => ?_, z.2.1, w'⟩
        · rw [← hw8] at e
          exact (wipe_some e).1
        · rw [e1] at e'; cases e'
          exact z.1
      cases b with
      | false =>
        simp only [Bool.false_eq_true, if_false] at q9 ⊢
        exact over J10 q9
      | true =>
        simp only [if_true] at q9 ⊢
        refine thnF (pe.run _ s9 σ8 H9 _ J10 q9) fun z s10 ⟨yv, H10, J11, r10, acc, hD10, hz10, nx⟩ => ?_
        exact app_ok (X := X.blk s3 H3 scope ce [it]) J11 hD10 hz10 r10 fun s11 J12 => over J12 nx
  exact codeAny_compStart_list fin (wpAny_pyIter_listiter st4 fin)
end
end Lk
set_option Elab.async false
set_option linter.all false
set_option maxRecDepth 100000
set_option maxHeartbeats 4000000
/-! A lambda handed to a def that catches what it raises; exceptions whose context is None. -/
namespace Lk
open PySem PySem.Spec PyProof.Rows L2 HotX L2H LamX
/-! ### a def that may raise (its exception has no context) -/
theorem okN {P : Program} {w : World} {K : PySem.W.Frag} {mg : Str → Option Value} {base : Heap} {x qual : Str} {st : Stmt} {f : Addr} {fd : FuncData} {N ps : List Str} {k : Nat} {sp : Sp} (F : L2.Fun K x qual st f fd) (S : FnScope N ps (defScope st)) (len : ∀ vs H Q E, sp vs H Q E → vs.length = ps.length)
    (hbody : ∀ (cdv : Value) (A : Around) (outer : List Env) (s : Shared) (H : Hp) (vs : List V) (Q : VK) (E : XK), Room k (A.deeper (envOfC qual (defScope st) s.heap.objs.size f cdv)) → sp vs H Q E →
      ∃ t, PSs (cxOf (L2N.CX P w) P w K mg base N qual (defScope st) f cdv A outer s H E) (defBody st) t ∧ t { nx := fun _ H' => Q .non H', rt := Q } (start N vs) H) : FnOk P w K mg base (L2N.CX P w) (k + 1) f fd ps sp := by
  obtain ⟨oc, od, kV, doc, pm, an, cdv, ct, osl, rfl, lk, hcd⟩ := F.ex
  exact fn_of lk hcd S len fun A outer s H vs Q E hr hsp => hbody cdv A outer s H vs Q E hr hsp
/-! ### a def called while the exception of the pin p is handled: its promise speaks of p -/
structure FnP (P : Program) (w : World) (K : PySem.W.Frag) (mg : Str → Option Value) (base : Heap) (k : Nat) (f : Addr) (fd : FuncData) (ps : List Str) (sp : Addr × Obj → Sp) : Prop where
  len : ∀ p vs H Q E, sp p vs H Q E → vs.length = ps.length
  run : ∀ (A : Around) (outer : List Env) (s : Shared) (H : Hp) (args : Args) (us : List Value) (vs : List V) (Q : VK) (p : Addr × Obj), RoomH k A → Hot1 A p → PinOk outer H s p → Env0 P w K mg base A outer s H → BindsTo s fd args (ps.zip us) → Vals vs us → sp p vs H Q L2.E0 →
    codeAny (model P w) A (.call (.ref f) args) (CR L2.CX0 outer P w H s Q L2.E0) s
theorem okP {P : Program} {w : World} {K : PySem.W.Frag} {mg : Str → Option Value} {base : Heap} {x qual : Str} {st : Stmt} {f : Addr} {fd : FuncData} {N ps : List Str} {k : Nat} {sp : Addr × Obj → Sp} (F : L2.Fun K x qual st f fd) (S : FnScope N ps (defScope st))
    (len : ∀ p vs H Q E, sp p vs H Q E → vs.length = ps.length)
    (hbody : ∀ (cdv : Value) (A : Around) (outer : List Env) (s : Shared) (H : Hp) (vs : List V) (Q : VK) (p : Addr × Obj), Hot1 A p → RoomH k (A.deeper (envOfC qual (defScope st) s.heap.objs.size f cdv)) → sp p vs H Q L2.E0 →
      ∃ t, PSs (cxH L2.CX0 P w K mg base N qual (defScope st) f cdv A outer s H L2.E0 p).nox (defBody st) t ∧ t { nx := fun _ H' => Q .non H', rt := Q } (L2.start N vs) H) :
    FnP P w K mg base (k + 1) f fd ps sp := by
  obtain ⟨oc, od, kV, doc, pm, an, cdv, ct, osl, rfl, lk, hcd⟩ := F.ex
  refine ⟨len, fun A outer s H args us vs Q p hr hot hpin e0 hb r hsp => ?_⟩
  have hl := len _ _ _ _ _ hsp
  have KX : K.In s.heap := e0.mod.kin.keeps fun b o e => (e0.bs b o e).1
  have lim : s.heap.NoLimit := e0.mod.nolimit.keeps fun b o e => (e0.bs b o e).1
  have hkind : ∀ y ∈ ps.zip us, (defScope st).names.lookup y.1 = some .local ∨ ((defScope st).names.lookup y.1 = some .cell ∧ ((cellsFrom (s.heap.objs.size + 1) (defScope st).names []).lookup y.1).isSome = true) := fun ⟨n, v⟩ hy =>
    (S.par n (List.of_mem_zip hy).1).elim .inl fun q => .inr ⟨q, PySem.W.cellsFrom_some _ _ _ (.inl q)⟩
  refine codeAny_call_function hr.depth (KX _ _ lk) rfl S.co S.gen rfl (PySem.W.codeRec_of KX hcd) (hb _ _ _ _ ?_)
  refine wpAny_newFunctionEnv_cells S.kind hkind fun env he s1 xx => ?_
  subst he
  refine ⟨lim.keeps xx.toInCall.keep, codeAny_func ?_⟩
  obtain ⟨t, ht, hq⟩ := hbody cdv A outer s H vs Q p hot (hr.deeper _) hsp
  have I : Inv (cxH L2.CX0 P w K mg base N qual (defScope st) f cdv A outer s H L2.E0 p) [] (L2.start N vs) H s1 := inv_startH S hpin e0 hl r xx
  refine wpAny_mono (ht.nox.run [] s1 (L2.start N vs) H _ I hq) (fun fl s' hs => ?_) fun e s' hs => hs
  have fin : ∀ {σ' : L2.St} {H' : Hp} {v : V} {u : Value}, Inv (cxH L2.CX0 P w K mg base N qual (defScope st) f cdv A outer s H L2.E0 p) [] σ' H' s' → L2.RelV v u → Q v H' → CE outer P w H s Q u s' :=
    fun {σ' H' v u} J rv q => ⟨v, H', J.os, J.bare, J.base, J.hok, rv, q⟩
  cases fl with
  | ret u =>
    obtain ⟨v, σ', H', J, rv, q⟩ := hs
    exact fin J rv q
  | next =>
    obtain ⟨σ', H', J, q⟩ := hs
    exact fin (v := V.non) (u := Value.none) J rfl q
  | brk => exact hs.elim fun _ z => z.elim fun _ z => False.elim z.2
  | cont => exact hs.elim fun _ z => z.elim fun _ z => False.elim z.2
section
variable {X : Cx} {k : Nat} {f : Addr} {fd : FuncData} {ps : List Str} {sp : Addr × Obj → Sp} {x : Str} {q pos : Pos} {e : Expr} {es : List Expr} {t : TA} {p : Addr × Obj}
theorem pe_callP (F : FnP X.prog X.w X.K X.mg X.base k f fd ps sp) (hr : RoomH k X.A) (hot : Hot1 X.A p) (hp : p ∈ X.pn) (hg : Gl X x) (hm : X.mg x = some (.ref f)) (hk : PySem.W.keepIn X.K (.ref f) = true) (hb : Binds X.K fd ps [])
    (ha : PA X (e :: es) t) (hdb : (x == ("__debug__" : Str)) = false := by decide) (he : starEach (e :: es) X.env = (false, eval e X.env) :: starEach es X.env := by rfl) (hpl : (backTo pos (starEach es X.env)).any (·.1) = false := by rfl) :
    PE X (.Call (.Name x q) (e :: es) [] pos) (fun σ H Q => t σ H fun vs H1 => sp p vs H1 Q L2.E0) := by
  refine ⟨fun pins s σ H Q I h => ?_⟩
  refine wpAny_Call_Name_kw (ld_glob I hg hm ?_ hdb)
  refine PySem.W.callWith_K (h₀ := X.base) I.ok.mod.kin hk (thn (ha.run pos pins s σ H _ I h) fun us s1 ⟨vs, H1, I1, r, hsp⟩ => ⟨I1.kIn, ?_⟩) he hpl
  have hl : us.length = ps.length := by rw [← r.length]; exact F.len _ _ _ _ _ hsp
  have b := hb s1 us I1.kIn (by rw [List.append_nil]; exact hl)
  rw [List.append_nil] at b
  have P1 := I1.pin p (List.mem_append_left _ hp)
  have hpin : PinOk X.stack H1 s1 p := ⟨P1.1, P1.2.1, fun hm => (List.mem_cons.mp (I1.stkSub p.1 hm)).elim P1.2.2.1 P1.2.2.2.1, P1.2.2.2.2⟩
  refine wpAny_call (codeAny_mono (F.run X.A X.stack s1 H1 ⟨us, []⟩ us vs Q p hr hot hpin I1.env0 b r hsp) fun rr s' hq => ?_)
  cases rr with
  | error e => exact (show False from hq).elim
  | ok fl =>
    cases fl with
    | ret u => exact I1.after hq
    | next => exact False.elim hq
    | brk => exact False.elim hq
    | cont => exact False.elim hq
/-- isinstance(e, c), e the exception of the pin p -/
theorem call_isP {D : Addr} (C : ExcC X.K D) (hp : p ∈ X.pn) (hz : Zc (.ref D) none p.2) (hf : ∃ vs, p.2.data = .fields vs) : CallR X (.builtin "isinstance") (rIsE X.K D p.1) := by
  intro pins s σ H xs us Q I r h
  obtain ⟨c, cv, b, rfl, hcv, e, qq⟩ := h
  obtain ⟨u1, u2, rfl, r1, r2⟩ := vals2 r
  cases (show u1 = Value.ref p.1 from r1)
  have ec := hcv _ r2
  subst ec
  have hget := (I.pin p (List.mem_append_left _ hp)).1
  obtain ⟨vs, hv⟩ := hf
  have J : PySem.W.InstAt s.heap p.1 p.2 D none := by
    obtain ⟨pa, oc, od, oda, osl⟩ := p
    obtain ⟨h1, h2⟩ := hz
    dsimp only at h1 h2 hv hget
    subst h1 h2 hv
    exact ⟨hget, rfl, rfl, trivial⟩
  exact PySem.W.kia_one (PySem.W.handS_kitx_exc C.hg C.hk C.hs C.hd C.ha C.hn C.ht C.hm) I.kIn J e (fun z => nomatch z) fun tk => ⟨.bl b, H, I.kept (t' := tk) fun _ _ z => z, rfl, qq⟩
end
end Lk
set_option Elab.async false
set_option linter.all false
set_option maxRecDepth 100000
set_option maxHeartbeats 4000000
namespace Lk
open PySem PySem.Spec PyProof.Rows L2 HotX L2H LamX
/-- what the lambda's frame makes of an exception -/
def lamXe (X : Cx) (A : Around) (outer : List Env) (s : Shared) (H : Hp) (E : XK) (scope : Scope) (f c' : Addr) : Value → Shared → Prop := fun e s' =>
  wpAny (model X.prog X.w) (A.deeper (lamEnv X scope s.heap.objs.size f c')) (leaving (lamEnv X scope s.heap.objs.size f c') e) (fun _ s'' => L2N.CX X.prog X.w outer H s E e s'') (fun e' s'' => L2N.CX X.prog X.w outer H s E e' s'') s'
/-- the context of the lambda's body -/
abbrev lamCxN (X : Cx) (A : Around) (outer : List Env) (s : Shared) (H : Hp) (E : XK) (scope : Scope) (f c' : Addr) : Cx := (lamCx X A outer s H E scope f c').wish (lamXe X A outer s H E scope f c')
section
variable {X : Cx} {pins : List (Addr × Obj)} {σ : L2.St} {H : Hp} {s : Shared}
/-- a() in the def that got the lambda -/
theorem pe_actN {Ng : List Str} {qg : Str} {sg : Scope} {g f c' : Addr} {cdg pm ctv : Value} {params : Arguments} {body : Expr} {scope : Scope} {k i : Nat} {a : Str} {pn : List (Addr × Obj)} {xe : Value → Shared → Prop} {W : WX} {E : XK} {tb : TE} {p1 p2 : Pos}
    (I : Inv X pins σ H s) (L : LamS X.env.scope scope) (hf : s.heap.get? f = some (PySem.W.kla_obj "<lambda>" (X.env.qual ++ "<lambda>") params body scope (cloFrom X.env.cells scope.names []) pm c' ctv)) (hfn : H f = none) (hfr : f ∉ frs X.stack)
    (hbind : bindArgs (PySem.W.kla_fn "<lambda>" (X.env.qual ++ "<lambda>") params body scope (cloFrom X.env.cells scope.names []) pm (.ref c') ctv) ⟨[], []⟩ = pure [])
    (tk : L2N.Takes ((cxOf C8.CX0 X.prog X.w X.K X.mg X.base Ng qg sg g cdg X.A X.stack s H C8.E0).tr pn xe) W) (hW : ∀ cls d (σ' : L2.St) H', σ'.length = Ng.length → E cls d H' → W cls d σ' H') (hr : Room (k + 1) (X.A.deeper (envOfC qg sg s.heap.objs.size g cdg)))
    (hbody : ∀ (A : Around) (outer : List Env) (s : Shared) (H : Hp), Room k (A.deeper (lamEnv X scope s.heap.objs.size f c')) → PE (lamCxN X A outer s H E scope f c') body tb)
    (hN : Ng[i]? = some a) (hv : Vis sg a) (hd : (a == ("__debug__" : Str)) = false := by decide) (hcd : (a == ("__classdict__" : Str)) = false := by decide) :
    PE ((cxOf C8.CX0 X.prog X.w X.K X.mg X.base Ng qg sg g cdg X.A X.stack s H C8.E0).tr pn xe) (.Call (.Name a p1) [] [] p2)
      (fun σZ HZ Q => σZ[i]? = some (some (.ref f)) ∧ HZ c' = some (CodeO c' (X.env.qual ++ "<lambda>")) ∧ tb σ HZ Q) := by
  refine ⟨fun pinsZ sZ σZ HZ Q IZ ⟨hs, hc, ht⟩ => ?_⟩
  refine wpAny_Call_Name_kw (thn ((pe_var (pos := p1) (i := i) hN hv hd hcd).run pinsZ sZ σZ HZ (fun v H1 => v = .ref f ∧ H1 = HZ) IZ ⟨.ref f, hs, rfl, rfl⟩) fun u s1 ⟨v, H1, I1, r1, q1, q2⟩ => ?_)
  subst q1
  rw [q2] at I1
  cases (show u = Value.ref f from r1)
  have of1 : s1.heap.get? f = some (PySem.W.kla_obj "<lambda>" (X.env.qual ++ "<lambda>") params body scope (cloFrom X.env.cells scope.names []) pm c' ctv) := I1.base.keep f _ hf hfn hfr (fun z => nomatch (show f ∈ ([] : List Addr) from z))
  refine PySem.W.callWith_F0 ⟨_, _, _, _, of1⟩ ?_
  have un : Un (frs X.stack) [] H HZ s.heap s1.heap := I1.base
  obtain ⟨⟨oc, vs, t, hoc, hdc, hvc⟩, _, _⟩ := I1.hok c' _ hc
  have rc : codeAny (model X.prog X.w) (X.A.deeper (envOfC qg sg s.heap.objs.size g cdg)) (.call (.ref f) ⟨[], []⟩) (CR (L2N.CX X.prog X.w) (envOfC qg sg s.heap.objs.size g cdg :: X.stack) X.prog X.w HZ s1 Q E) s1 := by
    refine PySem.W.kla_callFunE hr.depth of1 rfl L.co L.gen rfl ⟨c', oc, vs, t, rfl, hoc, hdc, hvc⟩ ?_
    rw [hbind]
    refine wpAny_pure (wpAny_newFunctionEnv (fun y hy => (L.own y hy).2) (fun y hy => absurd hy (by simp)) (fun h₁ hns hsb => ⟨I1.nolimit.fresh _ hsb, ?_⟩) L.kind)
    show codeAny _ _ (.expr body (lamEnv X scope s1.heap.objs.size f c')) _ _
    have kp : ∀ b o, s1.heap.get? b = some o → h₁.get? b = some o := fun b o e => hsb.extBut b o (Nat.ne_of_lt (Heap.lt_size e)) (Heap.get?_push_of_some _ e)
    have J0 : Inv (lamCx X (X.A.deeper (envOfC qg sg s.heap.objs.size g cdg)) (envOfC qg sg s.heap.objs.size g cdg :: X.stack) s1 HZ E scope f c') [] σ HZ { s1 with heap := h₁, toks := s1.toks + ([] : List (Str × Value)).length } :=
      lam_start2 I L I1.env0 hr.hd un hns kp
    have J := J0.wish (lamXe X (X.A.deeper (envOfC qg sg s.heap.objs.size g cdg)) (envOfC qg sg s.heap.objs.size g cdg :: X.stack) s1 HZ E scope f c')
    refine PySem.W.kla_codeExpr (wpAny_mono ((hbody _ _ s1 HZ (hr.deeper _)).run [] _ _ HZ Q J ht) (fun v s' hq => ?_) fun e s' hq => hq)
    obtain ⟨w', H', J', rv, q⟩ := hq
    exact ⟨w', H', J'.os, J'.bare, J'.base, J'.hok, rv, q⟩
  refine wpAny_call (codeAny_mono rc fun r s' hq => ?_)
  cases r with
  | error e => exact tk e s' (L2N.XE.of_call I1 (fun cls d H' h => hW cls d σZ H' I1.len h) hq)
  | ok fl =>
    cases fl with
    | ret u => exact I1.after hq
    | next => exact False.elim hq
    | brk => exact False.elim hq
    | cont => exact False.elim hq
end
/-- the def that calls what it got, in the place a -/
def GivesN (X : Cx) (Ng : List Str) (x : Str) (sg : Scope) (g : Addr) (cdg : Value) (bg : List Stmt) (a : Str) (q : Str) (k : Nat) (TT : (XK → Hp → VK → Prop) → Hp → VK → Prop) : Prop :=
  ∀ (f c' : Addr) (s : Shared) (H : Hp) (Q : VK) (tl : XK → Hp → VK → Prop), Room k (X.A.deeper (envOfC x sg s.heap.objs.size g cdg)) →
    (∀ (W : WX) (pn : List (Addr × Obj)) (xe : Value → Shared → Prop) (E : XK) (p1 p2 : Pos), L2N.Takes ((cxOf C8.CX0 X.prog X.w X.K X.mg X.base Ng x sg g cdg X.A X.stack s H C8.E0).tr pn xe) W → (∀ cls d (σ' : L2.St) H', σ'.length = Ng.length → E cls d H' → W cls d σ' H') →
      PE ((cxOf C8.CX0 X.prog X.w X.K X.mg X.base Ng x sg g cdg X.A X.stack s H C8.E0).tr pn xe) (.Call (.Name a p1) [] [] p2) (fun σZ HZ Q => σZ[0]? = some (some (.ref f)) ∧ HZ c' = some (CodeO c' q) ∧ tl E HZ Q)) →
    H c' = some (CodeO c' q) → TT tl H Q →
    ∃ t, PSs (cxOf C8.CX0 X.prog X.w X.K X.mg X.base Ng x sg g cdg X.A X.stack s H C8.E0).nox bg t ∧ t { nx := fun _ H' => Q .non H', rt := Q } (L2.start Ng [.ref f]) H
section
variable {X : Cx}
/-- x(lambda: body) -/
theorem pe_lamN {T : List (Addr × Str)} {TT : (XK → Hp → VK → Prop) → Hp → VK → Prop} {x a : Str} {g c P : Addr} {k : Nat} {pg : Arguments} {bg : List Stmt} {sg : Scope} {dV kV doc pm cdv ct oc : Value} {an od : Option Addr} {osl : Array (Option Value)} {Ng : List Str}
    {params : Arguments} {body : Expr} {scope : Scope} {t : XK → TE} {p lpos pos : Pos} (hg : Gl X x) (hm : X.mg x = some (.ref g)) (hk : PySem.W.keepIn X.K (.ref g) = true)
    (lk : X.K.lookup g = some ⟨oc, od, .func (PySem.W.fnOf x x pg bg sg dV kV doc pm an cdv ct), osl⟩) (hcg : PySem.W.codeIn X.K cdv x = true) (hb : L2.Binds X.K (PySem.W.fnOf x x pg bg sg dV kV doc pm an cdv ct) [a] []) (Sg : FnScope Ng [a] sg) (hNg : Ng[0]? = some a) (hva : Vis sg a)
    (hG : GivesN X Ng x sg g cdv bg a (X.env.qual ++ "<lambda>") (k + 1) TT)
    (TB : TabB X.base X.mg c P) (hcode : X.env.code = .ref c) (hmT : (P, X.env.qual ++ "<lambda>") ∈ T) (hu : ∀ p ∈ T, p.1 = P → p.2 = X.env.qual ++ "<lambda>") (hr : Room (k + 2) X.A) (L : LamS X.env.scope scope) (hdef : defaultsOf params X.env = ([], []))
    (hbind : ∀ (q : Str) (cl : List (Str × Addr)) (pm cv ctv : Value), bindArgs (PySem.W.kla_fn "<lambda>" q params body scope cl pm cv ctv) ⟨[], []⟩ = pure [])
    (hbody : ∀ (A : Around) (outer : List Env) (s : Shared) (H : Hp) (E : XK) (f c' : Addr), Room k (A.deeper (lamEnv X scope s.heap.objs.size f c')) → PE (lamCxN X A outer s H E scope f c') body (t E))
    (hdb : (x == ("__debug__" : Str)) = false := by decide) (hd : (a == ("__debug__" : Str)) = false := by decide) (hcd : (a == ("__classdict__" : Str)) = false := by decide) :
    PE X (.Call (.Name x p) [.Lambda params body scope lpos] [] pos) (tLam T TT t) := by
  refine ⟨fun pins s σ H Q I ⟨hT, h⟩ => ?_⟩
  refine wpAny_Call_Name_kw (ld_glob I hg hm ?_ hdb)
  refine PySem.W.callWith_K (h₀ := X.base) I.ok.mod.kin hk ?_ (by rfl) (by rfl)
  show wpAny _ _ (spliced ((false, eval (.Lambda params body scope lpos) X.env) :: backTo pos (starEach [] X.env))) _ _ s
  refine Calls.spliced_cons (lam_make2 I TB hcode hmT hu hT hdef (L.has I.ok) fun f c' pm' ctv H1 s' I1 eN T1 hf hfn hfr hco => ?_)
  refine Calls.spliced_nil ⟨I1.kIn, ?_⟩
  have rc : codeAny (model X.prog X.w) X.A (.call (.ref g) ⟨[.ref f], []⟩) (CR C8.CX0 X.stack X.prog X.w H1 s' Q C8.E0) s' := by
    refine run_ofS (N := Ng) (ps := [a]) (us := [.ref f]) (vs := [.ref f]) lk hcg Sg hr I1.env0 (hb s' [.ref f] I1.kIn rfl) (.cons rfl .nil) rfl fun hr' => ?_
    obtain ⟨t', ht', hq'⟩ := hG f c' s' H1 Q (fun E H' Q' => t E σ H' Q') hr' (fun W pn xe E p1 p2 tk hW => pe_actN (i := 0) I1 L hf hfn hfr (hbind _ _ _ _ _) tk hW hr' (fun A outer s H hr2 => hbody A outer s H E f c' hr2) hNg hva hd hcd) hco (h H1 eN T1)
    exact ⟨t', ht'.nox, hq'⟩
  refine wpAny_call (codeAny_mono rc fun r s2 hq => ?_)
  cases r with
  | error e => exact (show False from hq).elim
  | ok fl =>
    cases fl with
    | ret u => exact I1.after hq
    | next => exact False.elim hq
    | brk => exact False.elim hq
    | cont => exact False.elim hq
end
end Lk
set_option Elab.async false
set_option linter.all false
set_option maxRecDepth 100000
set_option maxHeartbeats 4000000
/-! {k: v, ..} with keys that are tuples -/
namespace Lk
open PySem PySem.Spec PyProof.Rows L2 HotX L2H LamX
def mergeT (kvs more : List (List Key × V)) : List (List Key × V) := more.foldl (fun acc kv => putK acc kv.1 kv.2) kvs
/-- the pairs that were made, as keys and values -/
abbrev TupKeys (H : Hp) (ps : List (V × V)) (kvs : List (List Key × V)) : Prop := Paired (fun (x : V × V) (kv : List Key × V) => (∃ a, x.1 = .ref a ∧ H a = some (.tup (kv.1.map kV))) ∧ x.2 = kv.2) ps kvs
def tDispT (trs : List (TE × TE)) : TE := fun σ H Q => ∀ p, H p = none → tPairs trs σ (upd H p (.dT [])) fun ps H2 => H2 p = some (.dT []) ∧ ∃ kvs : List (List Key × V), TupKeys H2 ps kvs ∧ kvs.length ≤ 15 ∧ Q (.ref p) (upd H2 p (.dT (mergeT [] kvs)))
section
variable {P : Program} {w : World}
theorem carriesT {H : Hp} {h : Heap} (ok : HOk P w H h) : ∀ {ps : List (V × V)} {kvs : List (List Key × V)} {ws : List (Value × Value)}, TupKeys H ps kvs → VV ps ws →
    ∃ rs, CarriesH (tupleKind (mixKind P w)) h ws rs ∧ KT H kvs rs
  | _, _, _, .nil, .nil => ⟨[], True.intro, .nil⟩
  | _, _, _, .cons (b := kv) ⟨⟨a, e1, e2⟩, e3⟩ t, .cons (b := ww) ⟨r1, r2⟩ u => by
    obtain ⟨rs, c, q⟩ := carriesT ok t u
    rw [e1] at r1
    obtain ⟨w1, w2⟩ := ww
    cases (show w1 = Value.ref a from r1)
    exact ⟨(kv.1, a, w2) :: rs, ⟨rfl, rfl, key_of ok e2, c⟩, .cons ⟨rfl, e2, by rw [← e3]; exact r2⟩ q⟩
theorem kt_merge {H : Hp} : ∀ {more : List (List Key × V)} {rs : List (List Key × Addr × Value)} {kvs : List (List Key × V)} {xs : List (List Key × Addr × Value)}, KT H more rs → KT H kvs xs → KT H (mergeT kvs more) (storedAllH xs rs)
  | _, _, _, _, .nil, q => q
  | _, _, kvs, xs, .cons (a := kv) (b := r) ⟨e1, e2, e3⟩ t, q => by
    have q2 := q.put kv.1 (b := r.2.1) (y := kv.2) (u := r.2.2) e2 e3
    have z := kt_merge t q2
    obtain ⟨r1, r2, r3⟩ := r
    have e1' : kv.1 = r1 := e1
    subst e1'
    exact z
theorem length_mergeT : ∀ (more kvs : List (List Key × V)), (mergeT kvs more).length ≤ kvs.length + more.length
  | [], kvs => by show kvs.length ≤ kvs.length + 0; omega
  | p :: r, kvs => by
    have h1 := length_mergeT r (putK kvs p.1 p.2)
    have h2 := length_putK kvs p.1 p.2
    show (mergeT (putK kvs p.1 p.2) r).length ≤ _
    rw [List.length_cons]; omega
end
theorem pe_dispT {X : Cx} {pos : Pos} {keys : List (Option Expr)} {values : List Expr} {trs : List (TE × TE)} (hu : X.A.units + 1 < cLine) (h : PPs X pos keys values trs) (hall : keys.all (·.isSome) = true) (hl : keys.length = values.length) (h0 : keys ≠ [])
    (h15 : keys.length ≤ 15) : PE X (.Dict keys values pos) (tDispT trs) := by
  refine ⟨fun pins s σ H Q I q => ?_⟩
  have hn := I.hok.fresh (Nat.le_refl s.heap.objs.size)
  have I1 := I.laid (a := s.heap.objs.size) (o := .dT []) (h' := s.heap.push { cls := .type "dict", data := .dict #[] }) (t' := s.toks) (fun _ _ q => Heap.get?_push_of_some _ q) (Nat.le_refl _) (dt_empty s.heap I.big)
  have hpl := pairTrees_length keys values X.env pos hall hl
  have hp0 : pairTrees keys values X.env pos ≠ [] := fun z => by
    rw [z] at hpl
    exact h0 (List.length_eq_zero_iff.mp hpl.symm)
  rw [arm_eval_Dict, zip_pairTrees keys values X.env pos hall hl, dictDisplay_pairs _ hp0 (by omega)]
  refine wpAny_bind (wpAny_standAt (wpAny_bind (wpAny_subDictH (knd := tupleKind (mixKind X.prog X.w)) (show X.A.units < cLine by omega) (by omega)
    (thn (h.run pins _ σ _ _ I1 (q _ hn)) fun ws s2 ⟨ps, H2, I2, rel, e, kvs, tk, lk, q2⟩ => ?_))))
  obtain ⟨rs, c, rk⟩ := carriesT I2.hok tk rel
  obtain ⟨z, hd, xs0, r0, dd⟩ := dt_of I2.hok e
  cases r0
  refine ⟨rs, c, dd, fun h' tk' dd' hs => wpAny_pure ⟨.ref s.heap.objs.size, _, ?_, rfl, q2⟩⟩
  have hz : (mergeT [] kvs).length ≤ sizeLine := by
    have h1 := length_mergeT kvs []
    rw [List.length_nil] at h1
    rw [sizeLine_eq]; omega
  obtain ⟨oq, es, ep, hq, h2, h3, h4, _, h5⟩ := dd'
  refine d_write I2 (by rw [e]; exact True.intro) hs ⟨oq, hq⟩ ⟨hz, hd, _, (kt_merge rk .nil).keeps fun c ys ec => ?_, oq, es, ep, hq, h2, h3, h4, h5⟩
  rw [upd_ne (ne_of ec e (fun z => nomatch z))]
  exact ec
end Lk
set_option Elab.async false
set_option linter.all false
set_option maxRecDepth 100000
set_option maxHeartbeats 4000000
/-! Data of any depth: what a value stands for. -/
namespace Lk
open PySem PySem.Spec PyProof.Rows L2 HotX L2H LamX
def kD : Key → PyData
  | .inl i => .int i
  | .inr x => .str x
mutual
inductive R (H : Hp) : V → PyData → Prop
  | non : R H .non .none
  | bl (b : Bool) : R H (.bl b) (.bool b)
  | int (i : Int) : R H (.int i) (.int i)
  | str (x : Str) (h : x.length ≤ 100000) : R H (.str x) (.str x)
  | lst {a : Addr} {xs : List V} {ds : List PyData} : H a = some (.lst xs) → Rs H xs ds → R H (.ref a) (.list ds)
  | tup {a : Addr} {xs : List V} {ds : List PyData} : H a = some (.tup xs) → Rs H xs ds → R H (.ref a) (.tuple ds)
  | dT {a : Addr} {kvs : List (List Key × V)} {ds : List (PyData × PyData)} : H a = some (.dT kvs) → ((∀ kv ∈ kvs, ∀ x, Sum.inr x ∈ kv.1 → x.length ≤ 100000) ∧ (kvs.map Prod.fst).Nodup) → ds.map Prod.fst = kvs.map (fun kv => PyData.tuple (kv.1.map kD)) → Rs H (kvs.map Prod.snd) (ds.map Prod.snd) → R H (.ref a) (.dict ds)
  | dK {a : Addr} {kvs : List (Key × V)} {ds : List (PyData × PyData)} : H a = some (.dK kvs) → ((∀ kv ∈ kvs, ∀ x, kv.1 = Sum.inr x → x.length ≤ 100000) ∧ (kvs.map Prod.fst).Nodup) → ds.map Prod.fst = kvs.map (fun kv => kD kv.1) → Rs H (kvs.map Prod.snd) (ds.map Prod.snd) → R H (.ref a) (.dict ds)
inductive Rs (H : Hp) : List V → List PyData → Prop
  | nil : Rs H [] []
  | cons {v : V} {vs : List V} {d : PyData} {ds : List PyData} : R H v d → Rs H vs ds → Rs H (v :: vs) (d :: ds)
end
mutual
theorem R.ext {H H' : Hp} (e : ExtN H H') : ∀ {v : V} {d : PyData}, R H v d → R H' v d
  | _, _, .non => .non
  | _, _, .bl b => .bl b
  | _, _, .int i => .int i
  | _, _, .str x h => .str x h
  | _, _, .lst h r => .lst (e _ _ h (fun _ z => nomatch z)) (Rs.ext e r)
  | _, _, .tup h r => .tup (e _ _ h (fun _ z => nomatch z)) (Rs.ext e r)
  | _, _, .dT h kb k r => .dT (e _ _ h (fun _ z => nomatch z)) kb k (Rs.ext e r)
  | _, _, .dK h kb k r => .dK (e _ _ h (fun _ z => nomatch z)) kb k (Rs.ext e r)
theorem Rs.ext {H H' : Hp} (e : ExtN H H') : ∀ {vs : List V} {ds : List PyData}, Rs H vs ds → Rs H' vs ds
  | _, _, .nil => .nil
  | _, _, .cons r t => .cons (R.ext e r) (Rs.ext e t)
end
theorem pairs_eq {α β : Type} : ∀ {a b : List (α × β)}, a.map Prod.fst = b.map Prod.fst → a.map Prod.snd = b.map Prod.snd → a = b
  | [], [], _, _ => rfl
  | [], _ :: _, h, _ => by simp at h
  | _ :: _, [], h, _ => by simp at h
  | (x, y) :: a, (u, v) :: b, h, k => by
    simp only [List.map_cons, List.cons.injEq] at h k
    rw [h.1, k.1, pairs_eq h.2 k.2]
mutual
theorem R.uniq {H : Hp} : ∀ {v : V} {d e : PyData}, R H v d → R H v e → d = e
  | _, _, _, .non, .non => rfl
  | _, _, _, .bl _, .bl _ => rfl
  | _, _, _, .int _, .int _ => rfl
  | _, _, _, .str _ _, .str _ _ => rfl
  | _, _, _, .lst h r, .lst h' r' => by rw [h] at h'; cases h'; rw [Rs.uniq r r']
  | _, _, _, .tup h r, .tup h' r' => by rw [h] at h'; cases h'; rw [Rs.uniq r r']
  | _, _, _, .dT h _ k r, .dT h' _ k' r' => by rw [h] at h'; cases h'; rw [pairs_eq (k.trans k'.symm) (Rs.uniq r r')]
  | _, _, _, .dK h _ k r, .dK h' _ k' r' => by rw [h] at h'; cases h'; rw [pairs_eq (k.trans k'.symm) (Rs.uniq r r')]
  | _, _, _, .lst h _, .tup h' _ => by rw [h] at h'; cases h'
  | _, _, _, .lst h _, .dT h' _ _ _ => by rw [h] at h'; cases h'
  | _, _, _, .lst h _, .dK h' _ _ _ => by rw [h] at h'; cases h'
  | _, _, _, .tup h _, .lst h' _ => by rw [h] at h'; cases h'
  | _, _, _, .tup h _, .dT h' _ _ _ => by rw [h] at h'; cases h'
  | _, _, _, .tup h _, .dK h' _ _ _ => by rw [h] at h'; cases h'
  | _, _, _, .dT h _ _ _, .lst h' _ => by rw [h] at h'; cases h'
  | _, _, _, .dT h _ _ _, .tup h' _ => by rw [h] at h'; cases h'
  | _, _, _, .dT h _ _ _, .dK h' _ _ _ => by rw [h] at h'; cases h'
  | _, _, _, .dK h _ _ _, .lst h' _ => by rw [h] at h'; cases h'
  | _, _, _, .dK h _ _ _, .tup h' _ => by rw [h] at h'; cases h'
  | _, _, _, .dK h _ _ _, .dT h' _ _ _ => by rw [h] at h'; cases h'
theorem Rs.uniq {H : Hp} : ∀ {vs : List V} {ds es : List PyData}, Rs H vs ds → Rs H vs es → ds = es
  | _, _, _, .nil, .nil => rfl
  | _, _, _, .cons r t, .cons r' t' => by rw [R.uniq r r', Rs.uniq t t']
end
theorem size_snd : ∀ ds : List (PyData × PyData), sizeOf (ds.map Prod.snd) ≤ sizeOf ds
  | [] => by simp
  | (a, b) :: ds => by
    have h := size_snd ds
    simp only [List.map_cons, List.cons.sizeOf_spec, Prod.mk.sizeOf_spec]
    omega
/- what is smaller than the data at a does not hold a: the object at a may change -/
mutual
theorem R.but {H : Hp} {a : Addr} {D : PyData} {o : HO} (ha : R H (.ref a) D) : ∀ {v : V} {x : PyData}, R H v x → sizeOf x < sizeOf D → R (upd H a o) v x
  | _, _, .non, _ => .non
  | _, _, .bl b, _ => .bl b
  | _, _, .int i, _ => .int i
  | _, _, .str x h, _ => .str x h
  | _, _, .lst (a := b) h r, z => by
    have nb : b ≠ a := fun e => by
      subst e
      rw [← (R.uniq (.lst h r) ha)] at z
      exact Nat.lt_irrefl _ z
    exact .lst (by rw [upd_ne nb]; exact h) (Rs.but ha r (Nat.lt_of_lt_of_le (by simp only [PyData.list.sizeOf_spec]; omega) (Nat.le_of_lt z)))
  | _, _, .tup (a := b) h r, z => by
    have nb : b ≠ a := fun e => by
      subst e
      rw [← (R.uniq (.tup h r) ha)] at z
      exact Nat.lt_irrefl _ z
    exact .tup (by rw [upd_ne nb]; exact h) (Rs.but ha r (Nat.lt_of_lt_of_le (by simp only [PyData.tuple.sizeOf_spec]; omega) (Nat.le_of_lt z)))
  | _, _, .dT (a := b) (ds := ds) h kb k r, z => by
    have nb : b ≠ a := fun e => by
      subst e
      rw [← (R.uniq (.dT h kb k r) ha)] at z
      exact Nat.lt_irrefl _ z
    have hz := size_snd ds
    exact .dT (by rw [upd_ne nb]; exact h) kb k (Rs.but ha r (Nat.lt_of_lt_of_le (by simp only [PyData.dict.sizeOf_spec]; omega) (Nat.le_of_lt z)))
  | _, _, .dK (a := b) (ds := ds) h kb k r, z => by
    have nb : b ≠ a := fun e => by
      subst e
      rw [← (R.uniq (.dK h kb k r) ha)] at z
      exact Nat.lt_irrefl _ z
    have hz := size_snd ds
    exact .dK (by rw [upd_ne nb]; exact h) kb k (Rs.but ha r (Nat.lt_of_lt_of_le (by simp only [PyData.dict.sizeOf_spec]; omega) (Nat.le_of_lt z)))
theorem Rs.but {H : Hp} {a : Addr} {D : PyData} {o : HO} (ha : R H (.ref a) D) : ∀ {vs : List V} {ds : List PyData}, Rs H vs ds → sizeOf ds < sizeOf D → Rs (upd H a o) vs ds
  | _, _, .nil, _ => .nil
  | _, _, .cons r t, z => .cons (R.but ha r (Nat.lt_trans (by simp only [List.cons.sizeOf_spec]; omega) z)) (Rs.but ha t (Nat.lt_trans (by simp only [List.cons.sizeOf_spec]; omega) z))
end
theorem R.same {H H' : Hp} (e : Same H H') {v : V} {d : PyData} (r : R H v d) : R H' v d := r.ext fun b o h _ => e b o h
theorem Rs.same {H H' : Hp} (e : Same H H') {vs : List V} {ds : List PyData} (r : Rs H vs ds) : Rs H' vs ds := r.ext fun b o h _ => e b o h
theorem Rs.length {H : Hp} : ∀ {vs : List V} {ds : List PyData}, Rs H vs ds → vs.length = ds.length
  | _, _, .nil => rfl
  | _, _, .cons _ t => by rw [List.length_cons, List.length_cons, Rs.length t]
theorem Rs.get {H : Hp} : ∀ {vs : List V} {ds : List PyData} {i : Nat} {d : PyData}, Rs H vs ds → ds[i]? = some d → ∃ v, vs[i]? = some v ∧ R H v d
  | _, _, _, _, .nil, e => by simp at e
  | _, _, 0, _, .cons r _, e => by simp at e; subst e; exact ⟨_, rfl, r⟩
  | _, _, i + 1, d, .cons _ t, e => by
    obtain ⟨v, h1, h2⟩ := Rs.get (i := i) (d := d) t (by simpa using e)
    exact ⟨v, by simpa using h1, h2⟩
theorem Rs.get' {H : Hp} : ∀ {vs : List V} {ds : List PyData} {i : Nat} {v : V}, Rs H vs ds → vs[i]? = some v → ∃ d, ds[i]? = some d ∧ R H v d
  | _, _, _, _, .nil, e => by simp at e
  | _, _, 0, _, .cons r _, e => by simp at e; subst e; exact ⟨_, rfl, r⟩
  | _, _, i + 1, d, .cons _ t, e => by
    obtain ⟨v, h1, h2⟩ := Rs.get' (i := i) (v := d) t (by simpa using e)
    exact ⟨v, by simpa using h1, h2⟩
theorem Rs.append {H : Hp} : ∀ {vs : List V} {ds : List PyData} {ws : List V} {es : List PyData}, Rs H vs ds → Rs H ws es → Rs H (vs ++ ws) (ds ++ es)
  | _, _, _, _, .nil, s => s
  | _, _, _, _, .cons r t, s => .cons r (Rs.append t s)
/-- the kind of a thing, as isinstance asks it -/
def tyD : PyData → String
  | .none => "NoneType"
  | .bool _ => "bool"
  | .int _ => "int"
  | .str _ => "str"
  | .list _ => "list"
  | .tuple _ => "tuple"
  | .dict _ => "dict"
end Lk
set_option Elab.async false
set_option linter.all false
set_option maxRecDepth 100000
set_option maxHeartbeats 4000000
namespace Lk
open PySem PySem.Spec PyProof.Rows L2 HotX L2H LamX
section
variable {X : Cx} {pins : List (Addr × Obj)} {σ : L2.St} {H : Hp} {s : Shared}
theorem kitR {x : V} {u : Value} {d : PyData} (I : Inv X pins σ H s) (rx : RelV x u) (r : R H x d) : ∃ P : Heap → Prop, PySem.W.KitX X.K u (.type (tyD d)) P ∧ P s.heap ∧ u ≠ .builtin "__main__.__loader__#opaque" := by
  cases r with
  | non => exact kit_of I rx (.base .non)
  | bl b => exact kit_of I rx (.base (.bl b))
  | int i => exact kit_of I rx (.base (.int i))
  | str z _ => exact kit_of I rx (.base (.str z))
  | lst h _ => exact kit_of I rx (.base (.lst h))
  | tup h _ => exact kit_of I rx (.base (.tup h))
  | dT h _ _ _ => exact kit_of I rx (.base (.dT h))
  | dK h _ _ _ => exact kit_of I rx (.base (.dK h))
/-- isinstance(x, T): x any data, T a built-in class by its name -/
def rIsD (T : String) : List V → Hp → VK → Prop := fun xs H Q => ∃ (x : V) (d : PyData) (b : Bool), xs = [x, .ty T] ∧ R H x d ∧ kitB (tyD d) T = some b ∧ Q (.bl b) H
theorem call_isD {T : String} : CallR X (.builtin "isinstance") (rIsD T) := by
  intro pins s σ H xs us Q I r h
  obtain ⟨x, d, b, rfl, rd, e, q⟩ := h
  obtain ⟨u1, u2, rfl, r1, r2⟩ := vals2 r
  cases (show u2 = Value.type T from r2)
  obtain ⟨P, Z, p, hx⟩ := kitR I r1 rd
  exact PySem.W.kia_one Z I.kIn p (kit_ty e) hx fun tk => ⟨.bl b, H, I.tok tk, rfl, q⟩
end
/-! ### calls by promise -/
/-- the def of the name x keeps the promise sp, by level k -/
structure Df (P : Program) (w : World) (K : PySem.W.Frag) (mg : Str → Option Value) (base : Heap) (x : Str) (k : Nat) (ps : List Str) (sp : Sp) : Prop where
  ex : ∃ (f : Addr) (fd : FuncData), mg x = some (.ref f) ∧ PySem.W.keepIn K (.ref f) = true ∧ Binds K fd ps [] ∧ FnOk P w K mg base (L2N.CX P w) k f fd ps sp
theorem passN {X : Cx} : Passes (L2N.CX X.prog X.w) X L2.E0 := fun _ _ _ _ _ _ _ h => by
  obtain ⟨_, _, _, _, _, _, _, _, _, _, _, _, z⟩ := h
  exact z.elim
theorem taken {X : Cx} {W : WX} {E : XK} (tk : L2N.Takes X W) (hW : ∀ cls d σ H, E cls d H → W cls d σ H) : Passes (L2N.CX X.prog X.w) X E := L2N.passes_call tk hW
section
variable {X : Cx} {k j : Nat} {x : Str} {ps : List Str} {sp : Sp} {E : XK} {p pos : Pos} {e : Expr} {es : List Expr} {t : TA}
theorem pe_df (F : Df X.prog X.w X.K X.mg X.base x k ps sp) (hr : Room j X.A) (hk : k ≤ j) (hg : Gl X x) (hx : Passes (L2N.CX X.prog X.w) X E) (ha : PA X (e :: es) t)
    (hdb : (x == ("__debug__" : Str)) = false := by decide) (he : starEach (e :: es) X.env = (false, eval e X.env) :: starEach es X.env := by rfl) (hpl : (backTo pos (starEach es X.env)).any (·.1) = false := by rfl) :
    PE X (.Call (.Name x p) (e :: es) [] pos) (tCall sp [] E t) := by
  obtain ⟨f, fd, hm, hkp, hb, F⟩ := F.ex
  exact pe_call F (hr.mono hk) hg hm hkp hb .nil hx ha hdb he hpl
theorem pe_df0 (F : Df X.prog X.w X.K X.mg X.base x k ps sp) (hr : Room j X.A) (hk : k ≤ j) (hg : Gl X x) (hx : Passes (L2N.CX X.prog X.w) X E)
    (hdb : (x == ("__debug__" : Str)) = false := by decide) :
    PE X (.Call (.Name x p) [] [] pos) (tCall sp [] E tNil) := by
  obtain ⟨f, fd, hm, hkp, hb, F⟩ := F.ex
  exact pe_call0 F (hr.mono hk) hg hm hkp hb .nil hx hdb
end
/-- a def of the text, by its body -/
theorem df_of {P : Program} {w : World} {K : PySem.W.Frag} {mg : Str → Option Value} {base : Heap} {x qual : Str} {st : Stmt} {f : Addr} {fd : FuncData} {N ps : List Str} {k : Nat} {sp : Sp} (F : L2.Fun K x qual st f fd) (hm : mg x = some (.ref f)) (hb : Binds K fd ps [])
    (S : FnScope N ps (defScope st)) (len : ∀ vs H Q E, sp vs H Q E → vs.length = ps.length)
    (hbody : ∀ (cdv : Value) (A : Around) (outer : List Env) (s : Shared) (H : Hp) (vs : List V) (Q : VK) (E : XK), Room k (A.deeper (envOfC qual (defScope st) s.heap.objs.size f cdv)) → sp vs H Q E →
      ∃ t, PSs (cxOf (L2N.CX P w) P w K mg base N qual (defScope st) f cdv A outer s H E) (defBody st) t ∧ t { nx := fun _ H' => Q .non H', rt := Q } (start N vs) H) : Df P w K mg base x (k + 1) ps sp :=
  ⟨f, fd, hm, F.kp, hb, okN F S len hbody⟩
end Lk
set_option Elab.async false
set_option linter.all false
set_option maxRecDepth 100000
set_option maxHeartbeats 4000000
/-! What an expression comes to, as data. -/
namespace Lk
open PySem PySem.Spec PyProof.Rows L2 HotX L2H LamX
open Evl (Ev EvL EvA EvT Ex)
abbrev St := L2.St
theorem exN {H H' : Hp} (e : Ex H H') : ExtN H H' := fun b o h _ => e b o h
def EvD (te : TE) (σ : St) (H : Hp) (d : PyData) : Prop := ∀ H1, Ex H H1 → ∀ Q : VK, (∀ v H2, Ex H1 H2 → R H2 v d → Q v H2) → te σ H1 Q
def EvDs (ta : TA) (σ : St) (H : Hp) (ds : List PyData) : Prop := ∀ H1, Ex H H1 → ∀ Q : List V → Hp → Prop, (∀ vs H2, Ex H1 H2 → Rs H2 vs ds → Q vs H2) → ta σ H1 Q
section
variable {K : PySem.W.Frag} {σ : St} {H H' : Hp} {ta tb te : TE} {tr : TA} {d e : PyData} {ds : List PyData} {v : V} {b c : Bool} {i j : Int}
theorem EvD.mono (e : Ex H H') (h : EvD te σ H d) : EvD te σ H' d := fun H1 a Q q => h H1 (e.trans a) Q q
theorem EvDs.mono (e : Ex H H') (h : EvDs tr σ H ds) : EvDs tr σ H' ds := fun H1 a Q q => h H1 (e.trans a) Q q
theorem EvD.of (h : Ev te σ H v) (r : R H v d) : EvD te σ H d := fun H1 e Q q => h H1 e Q fun H2 e2 => q v H2 e2 (r.ext (exN (e.trans e2)))
theorem EvD.ofU {xs : List V} (h : Evl.EvU te σ H xs) (r : Rs H xs ds) : EvD te σ H (.tuple ds) := fun H1 e Q q => h H1 e Q fun p H2 _ e2 hp => q (.ref p) H2 e2 (.tup hp (r.ext (exN (e.trans e2))))
theorem EvD.ofL {xs : List V} (h : EvL te σ H xs) (r : Rs H xs ds) : EvD te σ H (.list ds) := fun H1 e Q q => h H1 e Q fun p H2 _ e2 hp => q (.ref p) H2 e2 (.lst hp (r.ext (exN (e.trans e2))))
theorem EvD.vb (h : EvD te σ H (.bool b)) : Ev te σ H (.bl b) := fun H1 e Q q => h H1 e Q fun v H2 e2 r => by cases r; exact q H2 e2
theorem EvD.ti (h : EvD te σ H (.int i)) : Ev te σ H (.int i) := fun H1 e Q q => h H1 e Q fun v H2 e2 r => by cases r; exact q H2 e2
theorem EvD.tn (h : EvD te σ H .none) : Ev te σ H .non := fun H1 e Q q => h H1 e Q fun v H2 e2 r => by cases r; exact q H2 e2
theorem EvD.ts {x : Str} (h : EvD te σ H (.str x)) : Ev te σ H (.str x) := fun H1 e Q q => h H1 e Q fun v H2 e2 r => by cases r; exact q H2 e2
theorem Ev.db (h : Ev te σ H (.bl b)) : EvD te σ H (.bool b) := EvD.of h (.bl b)
theorem Ev.di (h : Ev te σ H (.int i)) : EvD te σ H (.int i) := EvD.of h (.int i)
theorem ed_var {k : Nat} (h : σ[k]? = some (some v)) (r : R H v d) : EvD (tVar k) σ H d := EvD.of (Evl.ev_var h) r
theorem ed_c (r : R H v d) : EvD (tC v) σ H d := EvD.of Evl.ev_c r
theorem eds_nil : EvDs tNil σ H [] := fun H1 _ _ q => q [] H1 (Ex.refl H1) .nil
theorem eds_cons (h : EvD ta σ H d) (hr : EvDs tr σ H ds) : EvDs (tCons ta tr) σ H (d :: ds) := fun H1 e _ q =>
  h H1 e _ fun v H2 e2 r => hr H2 (e.trans e2) _ fun vs H3 e3 rs => q (v :: vs) H3 (e2.trans e3) (.cons (r.ext (exN e3)) rs)
theorem ed_tup (h : EvDs tr σ H ds) (hl : ds.length ≤ 100000) : EvD (tTup tr) σ H (.tuple ds) := fun H1 e _ q =>
  h H1 e _ fun vs H2 e2 rs => ⟨Evl.sz_of (by rw [rs.length]; exact hl), fun p hp => q (.ref p) _ (e2.trans (Ex.new hp)) (.tup upd_same (rs.ext (exN (Ex.new hp))))⟩
theorem ed_lst (h : EvDs tr σ H ds) (hl : ds.length ≤ 100000) : EvD (tLst tr) σ H (.list ds) := fun H1 e _ q =>
  h H1 e _ fun vs H2 e2 rs => ⟨Evl.sz_of (by rw [rs.length]; exact hl), fun p hp => q (.ref p) _ (e2.trans (Ex.new hp)) (.lst upd_same (rs.ext (exN (Ex.new hp))))⟩
/-- isinstance(x, T) -/
theorem ed_isi {T : String} (h : EvD ta σ H d) (hb : kitB (tyD d) T = some b) : EvD (tCB (rIsD T) (tCons ta (tCons (tC (.ty T)) tNil))) σ H (.bool b) := fun H1 e Q q =>
  h H1 e _ fun v H2 e2 r => ⟨v, d, b, rfl, r, hb, q _ H2 e2 (.bl b)⟩
theorem ed_and (h1 : EvD ta σ H (.bool b)) (h2 : b = true → EvD tb σ H (.bool c)) : EvD (tAndV ta tb) σ H (.bool (b && c)) := Ev.db (Evl.ev_andV h1.vb fun z => (h2 z).vb)
theorem ed_or (h1 : EvD ta σ H (.bool b)) (h2 : b = false → EvD tb σ H (.bool c)) : EvD (tOrV ta tb) σ H (.bool (b || c)) := Ev.db (Evl.ev_orV h1.vb fun z => (h2 z).vb)
theorem ed_not (h : EvD ta σ H (.bool b)) : EvD (tNotV ta) σ H (.bool (!b)) := Ev.db (Evl.ev_notV h.vb)
theorem ed_is (h : EvD te σ H d) (z : d = e) : EvD te σ H e := z ▸ h
/-- two ints -/
theorem ed_I0 {g : Int → Int → V} (h1 : EvD ta σ H (.int i)) (h2 : EvD tb σ H (.int j)) (r : R H (g i j) d) : EvD (tOp (rI0 g) ta tb) σ H d := EvD.of (Evl.ev_op h1.ti h2.ti Evl.rv_I0) r
theorem ed_I {C : Int → Int → Prop} {g : Int → Int → V} (h1 : EvD ta σ H (.int i)) (h2 : EvD tb σ H (.int j)) (hc : C i j) (r : R H (g i j) d) : EvD (tOp (rI C g) ta tb) σ H d := EvD.of (Evl.ev_op h1.ti h2.ti (Evl.rv_I hc)) r
/-- a <= b <= c of ints and the like -/
theorem ed_chain {f g : Int → Int → Bool} {tc : TE} {k : Int} (h1 : EvD ta σ H (.int i)) (h2 : EvD tb σ H (.int j)) (h3 : EvD tc σ H (.int k)) :
    EvD (tChain (rI0 fun a b => V.bl (f a b)) (rI0 fun a b => V.bl (g a b)) ta tb tc) σ H (.bool (f i j && g j k)) := fun H1 e Q q =>
  h1.ti H1 e _ fun H2 e2 => h2.ti H2 (e.trans e2) _ fun H3 e3 => ⟨i, j, rfl, rfl, f i j, rfl, by
    cases hf : f i j with
    | true =>
      show tc σ H3 _
      refine h3.ti H3 ((e.trans e2).trans e3) _ fun H4 e4 => ⟨j, k, rfl, rfl, ?_⟩
      exact q _ H4 ((e2.trans e3).trans e4) (by rw [hf, Bool.true_and]; exact .bl _)
    | false =>
      show Q (.bl false) H3
      exact q _ H3 (e2.trans e3) (by rw [hf, Bool.false_and]; exact .bl _)⟩
theorem ed_lenS {x : Str} (h : EvD ta σ H (.str x)) : EvD (tCB (fun xs H Q => ∃ z, xs = [V.str z] ∧ z.length ≤ sizeLine ∧ Q (V.int z.length) H) (tCons ta tNil)) σ H (.int x.length) := fun H1 e Q q =>
  h H1 e _ fun v H2 e2 r => by
    cases r with
    | str _ hz => exact ⟨x, rfl, Evl.sz_of hz, q _ H2 e2 (.int _)⟩
/-- len of a list or tuple -/
theorem ed_lenQ (h : EvD ta σ H d) (hd : d = .tuple ds ∨ d = .list ds) : EvD (tCB (Evl.rLenS K) (tCons ta tNil)) σ H (.int ds.length) := fun H1 e Q q =>
  h H1 e _ fun v H2 e2 r => by
    rcases hd with rfl | rfl
    · cases r with
      | tup hp rs => exact ⟨_, _, rfl, .inr (.inl (.inl hp)), by rw [rs.length]; exact q _ H2 e2 (.int _)⟩
    · cases r with
      | lst hp rs => exact ⟨_, _, rfl, .inl (.inl (.inl hp)), by rw [rs.length]; exact q _ H2 e2 (.int _)⟩
/-- t[i] of a tuple, i written -/
theorem ed_ixT {k : Nat} (h : EvD ta σ H (.tuple ds)) (h2 : EvD tb σ H (.int k)) (hk : ds[k]? = some d) : EvD (tOp (rIxT K) ta tb) σ H d := fun H1 e Q q =>
  h H1 e _ fun v H2 e2 r => h2.ti H2 (e.trans e2) _ fun H3 e3 => by
    cases r with
    | tup hp rs =>
      obtain ⟨w, hw, rw'⟩ := rs.get hk
      exact ⟨_, _, _, w, rfl, rfl, .inl (.inl (e3 _ _ hp)), atI_nat hw, q w H3 (e2.trans e3) (rw'.ext (exN e3))⟩
theorem ed_ixL {k : Nat} (h : EvD ta σ H (.list ds)) (h2 : EvD tb σ H (.int k)) (hk : ds[k]? = some d) : EvD (tOp (rIxL K) ta tb) σ H d := fun H1 e Q q =>
  h H1 e _ fun v H2 e2 r => h2.ti H2 (e.trans e2) _ fun H3 e3 => by
    cases r with
    | lst hp rs =>
      obtain ⟨w, hw, rw'⟩ := rs.get hk
      exact ⟨_, _, _, w, rfl, rfl, .inl (.inl (e3 _ _ hp)), atI_nat hw, q w H3 (e2.trans e3) (rw'.ext (exN e3))⟩
/-! ### [e for x in ..], no test -/
theorem given_all (ws : List V) : Evl.given ws.length (fun _ => true) (fun i => ws.getD i .non) = ws := by
  unfold Evl.given
  rw [List.filter_eq_self.mpr (by simp)]
  apply List.ext_getElem
  · simp
  · intro i h1 h2
    simp [List.getElem?_eq_getElem h2]
theorem yes_t {σ : St} {H : Hp} : EvT tYes σ H true := fun H1 _ _ q => q H1 (Ex.refl H1)
/-- the comprehension's own loop, over a walk that gives I i x -/
theorem lc_w {J : It} {n : Nat} {G : Hp → Prop} {I : Nat → V → Prop} {jx : Nat} {vs : List Nat} {D : Addr} {Q : VK} (wk : Walk J n G (fun i H x H' => H' = H ∧ I i x)) (hG : ∀ H', Ex H H' → G H') (ws : List V) (hn : ws.length = n) (hz : n ≤ 40000)
    (hw : ∀ x, wipe ((wipe σ vs).set jx (some x)) vs = wipe σ vs) (he : ∀ i x, i < n → I i x → Ev te ((wipe σ vs).set jx (some x)) H (ws.getD i .non)) (hD : H D = none) (q : ∀ H2, Ex H H2 → H2 D = some (.lst ws) → Q (.ref D) H2) :
    ∃ W : Nat → Nat → Hp → Prop, (∃ m, W 0 m (upd H D (.lst []))) ∧ ∀ i m H, W i m H →
      (J.stop i H ∧ Q (.ref D) H) ∨ (J.go i H ∧ ∃ Nx : Hp → Prop, (∀ H', Nx H' → ∃ m', m' < m ∧ W (i + 1) m' H') ∧ ∀ x H', J.yld i H x H' → gName jx x (wipe σ vs) H' fun σ2 H2 => wipe σ2 vs = wipe σ vs ∧ tYes σ2 H2 fun b H3 =>
        if b = true then te σ2 H3 fun y H4 => ∃ acc, H4 D = some (.lst acc) ∧ acc.length < sizeLine ∧ Nx (upd H4 D (.lst (acc ++ [y]))) else Nx H3) :=
  lc_it (σ := σ) (vs := vs) (g := gName jx) (tt := tYes) (te := te) (Qd := fun H => Q (.ref D) H) wk (Evl.Cw H (fun _ => true) (fun i => ws.getD i .non) D) ⟨hD, Ex.new hD, upd_same⟩ (fun i H' _ p => hG H' p.2.1)
    (fun i x H1 H' hi p ⟨e1, e2⟩ => by
      subst e1
      exact ⟨hw x, Evl.cw_turn p (by omega) yes_t fun _ => he i x hi e2⟩)
    (fun H' p => q H' p.2.1 (by rw [← hn] at p; rw [← given_all ws]; exact p.2.2))
theorem el_lcT {a : Addr} {xs : List V} {tl : TE} {jx : Nat} {vs : List Nat} (h : Ev tl σ H (.ref a)) (hx : H a = some (.tup xs)) (ws : List V) (hn : ws.length = xs.length) (hz : xs.length ≤ 40000)
    (hw : ∀ x, wipe ((wipe σ vs).set jx (some x)) vs = wipe σ vs) (he : ∀ (i : Nat) x H1, Ex H H1 → xs[i]? = some x → Ev te ((wipe σ vs).set jx (some x)) H1 (ws.getD i .non)) :
    EvL (tLc (iTup K tl) (gName jx) tYes te vs) σ H ws := fun H0 e Q q => h H0 e _ fun H1 e1 => ⟨a, rfl, ⟨xs, .inl (.inl ((e.trans e1) _ _ hx))⟩, fun D hD =>
  lc_w (walk_tup (K := K) (a := a) (xs := xs)) (fun H' e2 => .inl (.inl (((e.trans e1).trans e2) _ _ hx))) ws hn hz hw (fun i x hi hx' => he i x H1 (e.trans e1) hx') hD fun H2 e2 h2 => q D H2 (Evl.fresh_back e1 hD) (e1.trans e2) h2⟩
theorem el_lcS {z : Str} {tl : TE} {jx : Nat} {vs : List Nat} (h : Ev tl σ H (.str z)) (ws : List V) (hn : ws.length = z.cps.size) (hz : z.cps.size ≤ 40000)
    (hw : ∀ x, wipe ((wipe σ vs).set jx (some x)) vs = wipe σ vs) (he : ∀ (i : Nat) c H1, Ex H H1 → z.cps[i]? = some c → Ev te ((wipe σ vs).set jx (some (.str ⟨#[c]⟩))) H1 (ws.getD i .non)) :
    EvL (tLc (iStr tl) (gName jx) tYes te vs) σ H ws := fun H0 e Q q => h H0 e _ fun H1 e1 => ⟨z, rfl, fun D hD =>
  lc_w (walk_str (z := z)) (fun H' _ => trivial) ws hn hz hw (fun i x hi ⟨c, h1, h2⟩ => by rw [h2]; exact he i c H1 (e.trans e1) h1) hD fun H2 e2 h2 => q D H2 (Evl.fresh_back e1 hD) (e1.trans e2) h2⟩
theorem ed_all {bs : List Bool} (h : EvL ta σ H (bs.map V.bl)) : EvD (tCB (rAll K) (tCons ta tNil)) σ H (.bool (bs.all id)) := fun H1 e Q q =>
  h H1 e _ fun p H2 _ e2 hp => ⟨p, bs, rfl, .inl (.inl hp), q _ H2 e2 (.bl _)⟩
theorem ed_any {bs : List Bool} (h : EvL ta σ H (bs.map V.bl)) : EvD (tCB (rAny K) (tCons ta tNil)) σ H (.bool (bs.any id)) := fun H1 e Q q =>
  h H1 e _ fun p H2 _ e2 hp => ⟨p, bs, rfl, .inl (.inl hp), q _ H2 e2 (.bl _)⟩
end
end Lk
set_option Elab.async false
set_option linter.all false
set_option maxRecDepth 100000
set_option maxHeartbeats 4000000
namespace Lk
open PySem PySem.Spec PyProof.Rows L2 HotX L2H LamX
open Evl (Ev EvL EvA EvT Ex)
/-! ### == of data -/
mutual
theorem R.dp {K : PySem.W.Frag} {H : Hp} : ∀ {v : V} {d : PyData}, R H v d → d.canLay0 = true → Dp K H v d
  | _, _, .non, _ => .non
  | _, _, .bl b, _ => .bl b
  | _, _, .int i, _ => .int i
  | _, _, .str x _, _ => .str x
  | _, _, .lst h r, c => .lst (.inl (.inl h)) (Rs.dp r (by simpa only [PyData.canLay0] using c))
  | _, _, .tup h r, c => .tup (.inl (.inl h)) (Rs.dp r (by simpa only [PyData.canLay0] using c))
  | _, _, .dT _ _ _ _, c => by simp [PyData.canLay0] at c
  | _, _, .dK _ _ _ _, c => by simp [PyData.canLay0] at c
theorem Rs.dp {K : PySem.W.Frag} {H : Hp} : ∀ {vs : List V} {ds : List PyData}, Rs H vs ds → PyData.canLayAll0 ds = true → DpAll K H vs ds
  | _, _, .nil, _ => .nil
  | _, _, .cons r t, c => by
    simp only [PyData.canLayAll0, Bool.and_eq_true] at c
    exact .cons (R.dp r c.1) (Rs.dp t c.2)
end
section
variable {K : PySem.W.Frag} {σ : St} {H H' : Hp} {ta tb te : TE} {tr : TA} {d e : PyData} {ds : List PyData} {v : V} {b c : Bool} {i j : Int}
theorem ed_eq (h1 : EvD ta σ H d) (h2 : EvD tb σ H e) (s1 : SeqAt.shaped d = true) (s2 : SeqAt.shaped e = true) : EvD (tOp (rEqD K) ta tb) σ H (.bool (PyData.eqv d e)) := fun H1 a Q q =>
  h1 H1 a _ fun v1 H2 a2 r1 => h2 H2 (a.trans a2) _ fun v2 H3 a3 r2 =>
    ⟨d, e, (r1.ext (exN a3)).dp (SeqAt.canLay_of_shaped s1), r2.dp (SeqAt.canLay_of_shaped s2), s1, s2, q _ H3 (a2.trans a3) (.bl _)⟩
theorem ed_ne (h1 : EvD ta σ H d) (h2 : EvD tb σ H e) (s1 : SeqAt.shaped d = true) (s2 : SeqAt.shaped e = true) : EvD (tOp (rNeD K) ta tb) σ H (.bool (!PyData.eqv d e)) := fun H1 a Q q =>
  h1 H1 a _ fun v1 H2 a2 r1 => h2 H2 (a.trans a2) _ fun v2 H3 a3 r2 =>
    ⟨d, e, (r1.ext (exN a3)).dp (SeqAt.canLay_of_shaped s1), r2.dp (SeqAt.canLay_of_shaped s2), s1, s2, q _ H3 (a2.trans a3) (.bl _)⟩
/-! ### tests -/
theorem et_b {t : TE} (h : EvD t σ H (.bool b)) : EvT (tB t) σ H b := Evl.et_B h.vb
/-! ### comprehension over range(lo, hi) -/
theorem el_lcR2 {lo hi : Int} {jx : Nat} {vs : List Nat} (h : EvDs tr σ H [.int lo, .int hi]) (b1 : -100000 ≤ lo) (b2 : lo ≤ 100000) (b3 : -100000 ≤ hi) (b4 : hi ≤ 100000) (ws : List V) (hn : ws.length = (hi - lo).toNat) (hz : (hi - lo).toNat ≤ 40000)
    (hw : ∀ x, wipe ((wipe σ vs).set jx (some x)) vs = wipe σ vs) (he : ∀ (i : Nat) H1, Ex H H1 → i < (hi - lo).toNat → Ev te ((wipe σ vs).set jx (some (.int (lo + i)))) H1 (ws.getD i .non)) :
    EvL (tLc (iRng2 tr) (gName jx) tYes te vs) σ H ws := fun H0 e Q q => h H0 e _ fun xs H1 e1 rs => by
  obtain ⟨v, w, d', e', rfl, hd, r1, r2⟩ : ∃ v w d e, xs = [v, w] ∧ ([PyData.int lo, PyData.int hi] : List PyData) = [d, e] ∧ R H1 v d ∧ R H1 w e := by
    cases rs with
    | cons r t => cases t with
      | cons r' t' => cases t'; exact ⟨_, _, _, _, rfl, rfl, r, r'⟩
  cases hd
  cases r1
  cases r2
  refine ⟨lo, hi, rfl, ⟨by omega, by omega, by omega, by omega⟩, fun D hD => ?_⟩
  exact lc_w (walk_range (lo := lo) (n := (hi - lo).toNat)) (fun _ _ => trivial) ws hn hz hw (fun i x hi' hx => by rw [hx]; exact he i H1 (e.trans e1) hi') hD fun H2 e2 h2 => q D H2 (Evl.fresh_back e1 hD) (e1.trans e2) h2
end
/-! ### keys of a dict -/
theorem kD_inj {a b : Key} (h : kD a = kD b) : a = b := by
  cases a <;> cases b <;> simp [kD] at h <;> simp [h]
theorem kD_eqv (a b : Key) : PyData.eqv (kD a) (kD b) = decide (a = b) := by
  cases a with
  | inl i => cases b with
    | inl j => simp only [kD, PyData.eqv]; rw [key_ll]
    | inr y => simp [kD, PyData.eqv]
  | inr x => cases b with
    | inl j => simp [kD, PyData.eqv]
    | inr y => simp only [kD, PyData.eqv]; rw [key_rr]; by_cases h : x = y <;> simp [h]
theorem keys_eqv : ∀ a b : List Key, PyData.eqvAll (a.map kD) (b.map kD) = decide (a = b)
  | [], [] => by simp [PyData.eqvAll]
  | [], _ :: _ => by simp [PyData.eqvAll]
  | _ :: _, [] => by simp [PyData.eqvAll]
  | x :: a, y :: b => by
    simp only [List.map_cons, PyData.eqvAll, kD_eqv, keys_eqv a b, List.cons.injEq]
    by_cases h1 : x = y <;> by_cases h2 : a = b <;> simp [h1, h2]
theorem rs_keys {H : Hp} : ∀ k : List Key, (∀ x, Sum.inr x ∈ k → x.length ≤ 100000) → Rs H (k.map kV) (k.map kD)
  | [], _ => .nil
  | .inl i :: k, h => .cons (.int i) (rs_keys k fun x hx => h x (List.mem_cons_of_mem _ hx))
  | .inr x :: k, h => .cons (.str x (h x List.mem_cons_self)) (rs_keys k fun x hx => h x (List.mem_cons_of_mem _ hx))
theorem has_key {ds : List (PyData × PyData)} {kvs : List (List Key × V)} (h : ds.map Prod.fst = kvs.map (fun kv => PyData.tuple (kv.1.map kD))) (k : List Key) : (ds.any fun p => PyData.eqv p.1 (.tuple (k.map kD))) = (valV kvs k).isSome := by
  rw [← valV_any]
  have e1 : (ds.any fun p => PyData.eqv p.1 (.tuple (k.map kD))) = (ds.map Prod.fst).any fun x => PyData.eqv x (.tuple (k.map kD)) := by rw [List.any_map]; rfl
  rw [e1, h, List.any_map]
  congr 1
  funext kv
  show PyData.eqvAll (kv.1.map kD) (k.map kD) = decide (kv.1 = k)
  exact keys_eqv _ _
theorem val_at {κ : Type} [DecidableEq κ] : ∀ {kvs : List (κ × V)} {i : Nat} {k : κ} {v : V}, (kvs.map Prod.fst).Nodup → kvs[i]? = some (k, v) → valV kvs k = some v
  | [], _, _, _, _, h => by simp at h
  | p :: r, 0, k, v, _, h => by
    simp at h
    subst h
    exact valV_pos rfl
  | p :: r, i + 1, k, v, nd, h => by
    simp only [List.map_cons, List.nodup_cons] at nd
    have h' : r[i]? = some (k, v) := by simpa using h
    have hne : ¬ p.1 = k := fun e => nd.1 (List.mem_map.mpr ⟨(k, v), List.mem_of_getElem? h', e.symm⟩)
    rw [valV_neg hne]
    exact val_at nd.2 h'
theorem at_pair {ds : List (PyData × PyData)} {ks : List PyData} {H : Hp} {vs : List V} (h : ds.map Prod.fst = ks) (r : Rs H vs (ds.map Prod.snd)) {i : Nat} {x : PyData} {v : V} (hk : ks[i]? = some x) (hv : vs[i]? = some v) : ∃ p, ds[i]? = some p ∧ p.1 = x ∧ R H v p.2 := by
  obtain ⟨d, hd, rd⟩ := r.get' hv
  rw [← h, List.getElem?_map] at hk
  rw [List.getElem?_map] at hd
  cases e : ds[i]? with
  | none => rw [e] at hk; cases hk
  | some p =>
    rw [e] at hk hd
    cases hk
    cases hd
    exact ⟨p, rfl, rfl, rd⟩
end Lk
set_option Elab.async false
set_option linter.all false
set_option maxRecDepth 100000
set_option maxHeartbeats 4000000
/-! Written data: displays, +, * -/
namespace Lk
open PySem PySem.Spec PyProof.Rows L2 HotX L2H LamX
open Evl (Ev EvL EvA EvT Ex EvU)
def flatD : V → PyData
  | .bl b => .bool b
  | .int i => .int i
  | .str x => .str x
  | _ => .none
def flatOk : V → Bool
  | .non => true
  | .bl _ => true
  | .int _ => true
  | .str x => decide (x.length ≤ 100000)
  | _ => false
theorem flat_r {H : Hp} : ∀ {v : V}, flatOk v = true → R H v (flatD v)
  | .non, _ => .non
  | .bl b, _ => .bl b
  | .int i, _ => .int i
  | .str x, h => .str x (of_decide_eq_true h)
theorem flat_rs {H : Hp} : ∀ {vs : List V}, vs.all flatOk = true → Rs H vs (vs.map flatD)
  | [], _ => .nil
  | v :: vs, h => by
    rw [List.all_cons, Bool.and_eq_true] at h
    exact .cons (flat_r h.1) (flat_rs h.2)
def keyOk : Key → Bool
  | .inl _ => true
  | .inr x => decide (x.length ≤ 100000)
section
variable {K : PySem.W.Frag} {σ : St} {H H' : Hp} {ta tb tk : TE} {tr : TA} {d e : PyData} {ds es : List PyData} {v : V} {trs : List (TE × TE)}
theorem ed_catL (h1 : EvD ta σ H (.list ds)) (h2 : EvD tb σ H (.list es)) (hl : ds.length + es.length ≤ 100000) : EvD (tOp rCat ta tb) σ H (.list (ds ++ es)) := fun H1 a Q q =>
  h1 H1 a _ fun v1 H2 a2 r1 => h2 H2 (a.trans a2) _ fun v2 H3 a3 r2 => by
    have r1' := r1.ext (exN a3)
    cases r1' with
    | @lst l xs _ hx rx => cases r2 with
      | @lst l' ys _ hy ry =>
        refine ⟨l, l', xs, ys, rfl, rfl, hx, hy, Evl.sz_of (by rw [rx.length, ry.length]; exact hl), fun p hp => q _ _ ((a2.trans a3).trans (Ex.new hp)) (.lst upd_same ((rx.append ry).ext (exN (Ex.new hp))))⟩
theorem rs_rep {H : Hp} {vs : List V} {ds : List PyData} (r : Rs H vs ds) : ∀ n : Nat, Rs H (List.replicate n vs).flatten (List.replicate n ds).flatten
  | 0 => .nil
  | n + 1 => by
    rw [List.replicate_succ, List.replicate_succ, List.flatten_cons, List.flatten_cons]
    exact r.append (rs_rep r n)
theorem len_rep {α : Type} (l : List α) : ∀ n : Nat, (List.replicate n l).flatten.length = l.length * n
  | 0 => by simp
  | n + 1 => by rw [List.replicate_succ, List.flatten_cons, List.length_append, len_rep l n, Nat.mul_succ]; omega
/-- [x] * n -/
theorem ed_repL {n : Nat} (h1 : EvD ta σ H (.list ds)) (hl : ds.length * n ≤ 1000) (hn : n ≤ 1000) : EvD (tOp rRep ta (tC (.int (n : Int)))) σ H (.list (List.replicate n ds).flatten) := fun H1 a Q q =>
  h1 H1 a _ fun v1 H2 a2 r1 => by
    cases r1 with
    | @lst l xs _ hx rx =>
      refine ⟨l, (n : Int), xs, rfl, rfl, hx, by omega, by omega, ?_, fun p hp => q _ _ (a2.trans (Ex.new hp)) (.lst upd_same ((rs_rep rx n).ext (exN (Ex.new hp))))⟩
      rw [Int.toNat_natCast, rx.length]
      exact Evl.sz_of (by omega)
/-- (x,) * n -/
theorem eu_repT {n : Nat} {xs : List V} (h1 : EvU ta σ H xs) (h0 : xs ≠ []) (hl : xs.length ≤ 1000) (h2 : 2 ≤ n) (hn : n ≤ 1000) : EvU (tOp (rRepT K) ta (tC (.int (n : Int)))) σ H (List.replicate n xs).flatten := fun H1 a Q q =>
  h1 H1 a _ fun p H2 hp a2 hx => ⟨p, (n : Int), xs, rfl, rfl, .inl (.inl hx), h0, by omega, by omega, hl, fun p' hp' => q p' _ (Evl.fresh_back a2 hp') (a2.trans (Ex.new hp')) (by rw [Int.toNat_natCast]; exact upd_same)⟩
/-! dicts -/
def EvPs (trs : List (TE × TE)) (σ : St) (H : Hp) (ps : List (List Key × V)) : Prop := ∀ H1, Ex H H1 → ∀ Q : List (V × V) → Hp → Prop, (∀ xs H2, Ex H1 H2 → TupKeys H2 xs ps → Q xs H2) → tPairs trs σ H1 Q
theorem tk_ext {H H' : Hp} (e : Ex H H') : ∀ {xs : List (V × V)} {ps : List (List Key × V)}, TupKeys H xs ps → TupKeys H' xs ps
  | _, _, .nil => .nil
  | _, _, .cons ⟨⟨a, h1, h2⟩, h3⟩ t => .cons ⟨⟨a, h1, e _ _ h2⟩, h3⟩ (tk_ext e t)
theorem eps_nil : EvPs [] σ H [] := fun H1 _ _ q => q [] H1 (Ex.refl _) .nil
theorem eps_cons {k : List Key} {ps : List (List Key × V)} (h : EvU tk σ H (k.map kV)) (hr : EvPs trs σ H ps) : EvPs ((tk, tC v) :: trs) σ H ((k, v) :: ps) := fun H1 a Q q =>
  h H1 a _ fun p H2 _ a2 hp => hr H2 (a.trans a2) _ fun xs H3 a3 t => q _ H3 (a2.trans a3) (.cons ⟨⟨p, rfl, a3 _ _ hp⟩, rfl⟩ t)
theorem merge_nd : ∀ (ps acc : List (List Key × V)), ((acc ++ ps).map Prod.fst).Nodup → mergeT acc ps = acc ++ ps
  | [], acc, _ => by rw [List.append_nil]; rfl
  | p :: ps, acc, nd => by
    have hn : valV acc p.1 = none := by
      cases e : valV acc p.1 with
      | none => rfl
      | some v =>
        exfalso
        have hm : p.1 ∈ acc.map Prod.fst := by
          have : (valV acc p.1).isSome = true := by rw [e]; rfl
          rw [← valV_any, List.any_eq_true] at this
          obtain ⟨q, hq, eq⟩ := this
          exact List.mem_map.mpr ⟨q, hq, of_decide_eq_true eq⟩
        rw [List.map_append, List.map_cons, List.nodup_append] at nd
        exact nd.2.2 _ hm _ List.mem_cons_self rfl
    show mergeT (putK acc p.1 p.2) ps = _
    rw [putK_new _ hn, merge_nd ps _ (by rw [List.append_assoc]; exact nd), List.append_assoc]
    rfl
theorem ed_dispT {ps : List (List Key × V)} (h : EvPs trs σ H ps) (nd : (ps.map Prod.fst).Nodup) (hl : ps.length ≤ 15) (hv : (ps.all fun p => flatOk p.2 && p.1.all keyOk) = true) :
    EvD (tDispT trs) σ H (.dict (ps.map fun p => (.tuple (p.1.map kD), flatD p.2))) := fun H1 a Q q p hp =>
  h _ (a.trans (Ex.new hp)) _ fun xs H2 e2 t => by
    have h2 : H2 p = some (.dT []) := e2 _ _ upd_same
    refine ⟨h2, ps, t, hl, ?_⟩
    have em : mergeT [] ps = ps := merge_nd ps [] nd
    rw [em]
    rw [List.all_eq_true] at hv
    have hx : Ex H1 (upd H2 p (.dT ps)) := fun b o hb => by
      have nb : b ≠ p := ne_of_none hb hp
      rw [upd_ne nb]
      refine e2 _ _ ?_
      rw [upd_ne nb]
      exact hb
    refine q _ _ hx (.dT upd_same ⟨fun kv hkv x hx => ?_, nd⟩ ?_ ?_)
    · have := hv kv hkv
      rw [Bool.and_eq_true, List.all_eq_true] at this
      exact of_decide_eq_true (this.2 _ hx)
    · rw [List.map_map]
      rfl
    · rw [List.map_map]
      have e1 : (ps.map (Prod.snd ∘ fun p => (PyData.tuple (p.1.map kD), flatD p.2))) = (ps.map Prod.snd).map flatD := by rw [List.map_map]; rfl
      rw [e1]
      refine flat_rs ?_
      rw [List.all_map, List.all_eq_true]
      intro y hy
      have := hv y hy
      rw [Bool.and_eq_true] at this
      exact this.1
/-- {k: v}, one key, a text -/
theorem ed_dispK {x : Str} (hx : x.length ≤ 100000) (hv : flatOk v = true) : EvD (tDisp [(tC (.str x), tC v)]) σ H (.dict [(.str x, flatD v)]) := fun H1 a Q q p hp => by
  refine ⟨upd_same, [(Sum.inr x, v)], rfl, by simp, ?_⟩
  rw [upd_upd]
  refine q _ _ (Ex.new hp) (.dK upd_same ⟨fun kv hkv y hy => ?_, ?_⟩ rfl (.cons (flat_r hv) .nil))
  · have e1 : kv = (Sum.inr x, v) := by simpa [mergeK, putK] using hkv
    rw [e1] at hy
    cases hy
    exact hx
  · simp [mergeK, putK]
end
end Lk
set_option Elab.async false
set_option linter.all false
set_option maxRecDepth 100000
set_option maxHeartbeats 4000000
namespace Lk
open PySem PySem.Spec PyProof.Rows L2 HotX L2H LamX
open Evl (Ev EvL EvA EvT Ex)
def topS (i : Nat) : Stmt := PySem.Challenge.pw_lookhouse_k20_terms_refused.main.body.getD i (.Pass ⟨0, 0, 0, 0⟩)
abbrev sIsWord : Stmt := topS 13
abbrev sIsPath : Stmt := topS 14
abbrev sIsNumber : Stmt := topS 16
abbrev sIsState : Stmt := topS 18
abbrev sNeedState : Stmt := topS 19
/-! what the module's names hold -/
def smallS : Str := "abcdefghijklmnopqrstuvwxyz"
structure Tx (K : PySem.W.Frag) (mg : Str → Option Value) : Prop where
  isi : mg "isinstance" = none
  len : mg "len" = none
  all : mg "all" = none
  any : mg "any" = none
  abs : mg "abs" = none
  rng : mg "range" = none
  str : mg "str" = none
  tup : mg "tuple" = none
  int : mg "int" = none
  bool : mg "bool" = none
  dict : mg "dict" = none
  small : ∃ u, mg "SMALL" = some u ∧ RelV (.str smallS) u
  mword : ∃ u, mg "MOST_WORD" = some u ∧ RelV (.int 6) u
  mdeep : ∃ u, mg "MOST_DEEP" = some u ∧ RelV (.int 4) u
  mworth : ∃ u, mg "MOST_WORTH_states" = some u ∧ RelV (.int 1000000000) u
/-! ### what the defs come to -/
def isWord : PyData → Bool
  | .str x => (decide ((1 : Int) ≤ (x.length : Int)) && decide ((x.length : Int) ≤ 6)) && x.cps.toList.all fun c => decide (c ∈ smallS.cps.toList)
  | _ => false
def isPath : PyData → Bool
  | .tuple ds => decide ((ds.length : Int) ≤ 4) && ds.all isWord
  | _ => false
def isNumber (most : Int) : PyData → Bool
  | .int i => decide ((i.natAbs : Int) ≤ most)
  | _ => false
def isStr : PyData → Bool
  | .str _ => true
  | _ => false
def isTup : PyData → Bool
  | .tuple _ => true
  | _ => false
def isInt : PyData → Bool
  | .int _ => true
  | .bool _ => true
  | _ => false
def isBool : PyData → Bool
  | .bool _ => true
  | _ => false
def isDict : PyData → Bool
  | .dict _ => true
  | _ => false
theorem kit_str (d : PyData) : kitB (tyD d) "str" = some (isStr d) := by
  cases d <;> (show kitB _ _ = some _) <;> simp only [tyD, isStr] <;> decide +kernel
theorem kit_tup (d : PyData) : kitB (tyD d) "tuple" = some (isTup d) := by
  cases d <;> (show kitB _ _ = some _) <;> simp only [tyD, isTup] <;> decide +kernel
theorem kit_int (d : PyData) : kitB (tyD d) "int" = some (isInt d) := by
  cases d <;> (show kitB _ _ = some _) <;> simp only [tyD, isInt] <;> decide +kernel
theorem kit_bool (d : PyData) : kitB (tyD d) "bool" = some (isBool d) := by
  cases d <;> (show kitB _ _ = some _) <;> simp only [tyD, isBool] <;> decide +kernel
theorem kit_dict (d : PyData) : kitB (tyD d) "dict" = some (isDict d) := by
  cases d <;> (show kitB _ _ = some _) <;> simp only [tyD, isDict] <;> decide +kernel
/-- a promise that tells what comes of things, without a refusal -/
def spF (n : Nat) (f : List PyData → PyData) : Sp := fun vs H Q _ => ∃ ds, Rs H vs ds ∧ ds.length = n ∧ ∀ v H', Same H H' → R H' v (f ds) → Q v H'
theorem spF_len {n : Nat} {f : List PyData → PyData} {ps : List Str} (hn : ps.length = n) (vs : List V) (H : Hp) (Q : VK) (E : XK) (h : spF n f vs H Q E) : vs.length = ps.length := by
  obtain ⟨ds, r, hl, _⟩ := h
  rw [r.length, hl, hn]
def f1 (g : PyData → Bool) : List PyData → PyData
  | [d] => .bool (g d)
  | _ => .none
theorem Rs.one {H : Hp} {vs : List V} {ds : List PyData} (r : Rs H vs ds) (h : ds.length = 1) : ∃ v d, vs = [v] ∧ ds = [d] ∧ R H v d := by
  cases r with
  | nil => cases h
  | cons r t => cases t with
    | nil => exact ⟨_, _, rfl, rfl, r⟩
    | cons _ _ => cases h
theorem Rs.two {H : Hp} {vs : List V} {ds : List PyData} (r : Rs H vs ds) (h : ds.length = 2) : ∃ v w d e, vs = [v, w] ∧ ds = [d, e] ∧ R H v d ∧ R H w e := by
  cases r with
  | nil => cases h
  | cons r t =>
    obtain ⟨w, e, rfl, rfl, q⟩ := t.one (by simpa using h)
    exact ⟨_, _, _, _, rfl, rfl, r, q⟩
/-- a call of such a def -/
theorem ed_call {σ : St} {H : Hp} {n : Nat} {f : List PyData → PyData} {E : XK} {ta : TA} {ds : List PyData} {d : PyData} (h : EvDs ta σ H ds) (hn : ds.length = n) (hd : f ds = d) : EvD (tCall (spF n f) [] E ta) σ H d := fun H1 e Q q =>
  h H1 e _ fun vs H2 e2 rs => ⟨ds, by rw [List.append_nil]; exact rs, hn, fun v H3 s3 r => q v H3 (e2.trans s3) (by rw [← hd]; exact r)⟩
theorem s_retD {te : TE} {σ : St} {H : Hp} {d : PyData} {D : Ends} (h : EvD te σ H d) (k : ∀ v H1, Ex H H1 → R H1 v d → D.rt v H1) : tRet te D σ H := h H (Ex.refl H) _ k
section
variable {P : Program} {w : World} {K : PySem.W.Frag} {mg : Str → Option Value} {base : Heap}
theorem scIsWord : FnScope ["thing", "sign"] ["thing"] (defScope sIsWord) := ⟨rfl, rfl, rfl, by decide +kernel, rfl, by decide +kernel, by decide +kernel⟩
theorem ok_isWord {f : Addr} {fd : FuncData} (F : L2.Fun K "is_word" "is_word" sIsWord f fd) (hm : mg "is_word" = some (.ref f)) (hb : Binds K fd ["thing"] []) (T : Tx K mg) : Df P w K mg base "is_word" 1 ["thing"] (spF 1 (f1 isWord)) := by
  refine df_of F hm hb scIsWord (spF_len rfl) (fun cdv A outer s H vs Q E hr h => ?_)
  obtain ⟨ds, rs, hl, k⟩ := h
  obtain ⟨v, d, rfl, rfl, rd⟩ := rs.one hl
  refine ⟨_, pss_one (ps_ret (pe_and (pe_callB (call_isD (T := "str")) (by rfl) T.isi boot_isinstance (pa_cons (pv 0) (pa_cons (pe_bltn (v := .ty "str") (by rfl) T.str boot_str rfl) pa_nil)))
      (pe_and (pe_chain op_le op_le pe_int (pe_callB call_len_str (by rfl) T.len PySem.boot_len (pa_cons (pv 0) pa_nil)) (C8.pe_gc (by rfl) T.mword))
      (pe_one (pe_callB (cr_all rfl) (by rfl) T.all boot_all (pa_cons (pe_lc (own := [("sign", 1)]) (g := gName 1) (tt := tYes) rfl scIsWord.nd (pi_str (pv 0)) (blkOk_by (own := [("sign", 1)]) (N := ["thing", "sign"]) (sc := defScope sIsWord) (by decide +kernel))
        (fun _ _ _ _ _ => pg_name (i := 1) scIsWord.nd rfl (Or.inl rfl)) (fun _ _ _ _ _ => pts_nil) (fun _ _ _ _ _ => pe_cmpR op_in_sign (pv 1) (C8.pe_gc (by rfl) T.small) rfl)) pa_nil)))))), ?_⟩
  refine s_retD (d := .bool (isWord d)) ?_ fun v1 H1 e1 r1 => k v1 H1 e1 r1
  refine ed_is (ed_and (c := isWord d) (ed_isi (ed_var rfl rd) (kit_str d)) fun hs => ?_) (by cases d <;> simp [isStr, isWord])
  cases rd with
  | str z hz =>
    refine ed_is (ed_and (ed_chain (i := 1) (j := (z.length : Int)) (k := 6) (ed_c (.int 1)) (ed_lenS (ed_var rfl (.str z hz))) (ed_c (.int 6))) fun hc =>
      ed_all (bs := z.cps.toList.map fun c => decide (c ∈ smallS.cps.toList)) (el_lcS (z := z) (Evl.ev_var rfl) _ (by simp) ?_ (fun x => rfl) fun i c H1 _ hc => ?_)) ?_
    · have : z.cps.size = z.length := rfl
      have h6 : (z.length : Int) ≤ 6 := of_decide_eq_true (Bool.and_eq_true .. ▸ hc).2
      omega
    · refine Evl.ev_is (Evl.ev_op (Evl.ev_var rfl) Evl.ev_c (Evl.rv_val fun H2 _ Q q => ⟨c, smallS, rfl, rfl, q⟩)) ?_
      have hc' : z.cps.toList[i]? = some c := by rw [Array.getElem?_toList]; exact hc
      simp [hc']
    · rw [List.all_map]
      rfl
  | _ => cases hs
theorem scIsPath : FnScope ["thing", "word"] ["thing"] (defScope sIsPath) := ⟨rfl, rfl, rfl, by decide +kernel, rfl, by decide +kernel, by decide +kernel⟩
theorem ok_isPath {f : Addr} {fd : FuncData} (F : L2.Fun K "is_path" "is_path" sIsPath f fd) (hm : mg "is_path" = some (.ref f)) (hb : Binds K fd ["thing"] []) (T : Tx K mg) (D1 : Df P w K mg base "is_word" 1 ["thing"] (spF 1 (f1 isWord))) : Df P w K mg base "is_path" 2 ["thing"] (spF 1 (f1 isPath)) := by
  refine df_of F hm hb scIsPath (spF_len rfl) (fun cdv A outer s H vs Q E hr h => ?_)
  obtain ⟨ds, rs, hl, k⟩ := h
  obtain ⟨v, d, rfl, rfl, rd⟩ := rs.one hl
  refine ⟨_, pss_one (ps_ret (pe_and (pe_callB (call_isD (T := "tuple")) (by rfl) T.isi boot_isinstance (pa_cons (pv 0) (pa_cons (pe_bltn (v := .ty "tuple") (by rfl) T.tup boot_tuple rfl) pa_nil)))
      (pe_and (pe_cmpR op_le (pe_callB call_len_seq (by rfl) T.len PySem.boot_len (pa_cons (pv 0) pa_nil)) (C8.pe_gc (by rfl) T.mdeep) (nomark _))
      (pe_one (pe_callB (cr_all rfl) (by rfl) T.all boot_all (pa_cons (pe_lc (own := [("word", 1)]) (g := gName 1) (tt := tYes) rfl scIsPath.nd (pi_tup (pv 0)) (blkOk_by (own := [("word", 1)]) (N := ["thing", "word"]) (sc := defScope sIsPath) (by decide +kernel))
        (fun _ _ _ _ _ => pg_name (i := 1) scIsPath.nd rfl (Or.inl rfl)) (fun _ _ _ _ _ => pts_nil) (fun _ _ _ _ _ => pe_df D1 hr (Nat.le_refl _) (by rfl) passN (pa_cons (pv 1) pa_nil))) pa_nil)))))), ?_⟩
  refine s_retD (d := .bool (isPath d)) ?_ fun v1 H1 e1 r1 => k v1 H1 e1 r1
  refine ed_is (ed_and (c := isPath d) (ed_isi (ed_var rfl rd) (kit_tup d)) fun hs => ?_) (by cases d <;> simp [isTup, isPath])
  cases rd with
  | @tup a xs ds hp rs' =>
    refine ed_is (ed_and (ed_I0 (i := (ds.length : Int)) (j := 4) (ed_lenQ (ed_var rfl (.tup hp rs')) (.inl rfl)) (ed_c (.int 4)) (.bl _)) fun hc =>
      ed_all (bs := ds.map isWord) (el_lcT (a := a) (xs := xs) (Evl.ev_var rfl) hp _ ?_ ?_ (fun x => rfl) fun i x H1 e1 hx => ?_)) ?_
    · rw [List.length_map, List.length_map, rs'.length]
    · have h4 : (ds.length : Int) ≤ 4 := of_decide_eq_true hc
      rw [rs'.length]
      omega
    · obtain ⟨d', hd', rx⟩ := rs'.get' hx
      refine Evl.ev_is (EvD.vb (b := isWord d') (ed_call (eds_cons (ed_var rfl (rx.ext (exN e1))) eds_nil) rfl rfl)) ?_
      simp [hd']
    · rw [List.all_map]
      rfl
  | _ => cases hs
theorem scIsNumber : FnScope ["thing", "most"] ["thing", "most"] (defScope sIsNumber) := ⟨rfl, rfl, rfl, by decide +kernel, rfl, by decide +kernel, by decide +kernel⟩
def fNumber : List PyData → PyData
  | [d, .int m] => .bool (isNumber m d)
  | _ => .none
def spNumber : Sp := fun vs H Q _ => ∃ v d m, vs = [v, .int m] ∧ R H v d ∧ ∀ H', Same H H' → Q (.bl (isNumber m d)) H'
theorem ok_isNumber {f : Addr} {fd : FuncData} (F : L2.Fun K "is_number" "is_number" sIsNumber f fd) (hm : mg "is_number" = some (.ref f)) (hb : Binds K fd ["thing", "most"] []) (T : Tx K mg) : Df P w K mg base "is_number" 1 ["thing", "most"] spNumber := by
  refine df_of F hm hb scIsNumber (fun vs H Q E h => by obtain ⟨_, _, _, rfl, _⟩ := h; rfl) (fun cdv A outer s H vs Q E hr h => ?_)
  obtain ⟨v, d, m, rfl, rd, k⟩ := h
  refine ⟨_, pss_one (ps_ret (pe_and (pe_callB (call_isD (T := "int")) (by rfl) T.isi boot_isinstance (pa_cons (pv 0) (pa_cons (pe_bltn (v := .ty "int") (by rfl) T.int boot_int rfl) pa_nil)))
      (pe_and (pe_not (pe_callB (call_isD (T := "bool")) (by rfl) T.isi boot_isinstance (pa_cons (pv 0) (pa_cons (pe_bltn (v := .ty "bool") (by rfl) T.bool (by decide +kernel) rfl) pa_nil))))
      (pe_one (pe_cmpR op_le (pe_callB call_abs (by rfl) T.abs (by decide +kernel) (pa_cons (pv 0) pa_nil)) (pv 1) (nomark _)))))), ?_⟩
  refine s_retD (d := .bool (isNumber m d)) ?_ fun v1 H1 e1 r1 => by cases r1; exact k H1 e1
  refine ed_is (ed_and (c := isNumber m d) (ed_isi (ed_var rfl rd) (kit_int d)) fun hs => ed_is (ed_and (c := isNumber m d) (ed_not (ed_isi (ed_var rfl rd) (kit_bool d))) fun hb => ?_) (by cases d <;> simp [isBool, isNumber])) (by cases d <;> simp [isInt, isNumber])
  cases rd with
  | int i =>
    refine ed_is (ed_I0 (i := (i.natAbs : Int)) (j := m) (fun H1 e Q q => ?_) (ed_var rfl (.int m)) (.bl _)) rfl
    refine ⟨_, rfl, i, rfl, ?_⟩
    have : (if i < 0 then -i else i) = (i.natAbs : Int) := by omega
    rw [this]
    exact q _ H1 (Ex.refl _) (.int _)
  | bl b => cases hb
  | _ => cases hs
end
end Lk
set_option Elab.async false
set_option linter.all false
set_option maxRecDepth 100000
set_option maxHeartbeats 4000000
namespace Lk
open PySem PySem.Spec PyProof.Rows L2 HotX L2H LamX
open Evl (Ev EvL EvA EvT Ex)
/-- an own class of refusals, as raise asks it -/
structure Xc (K : PySem.W.Frag) (mg : Str → Option Value) (x : Str) (C : Addr) : Prop where
  g : mg x = some (.ref C)
  x : PySem.W.excIn K C [.type "ValueError", .type "Exception", .type "BaseException", .type "object"] "ValueError.__new__" = true
  kp : PySem.W.keepIn K (.ref C) = true
  sb : PySem.W.subIn K (.ref C) (.type "BaseException") = some true
  ty : PySem.W.typeIn K (.ref C) = some (.type "type")
def spNeed (C : Addr) : Sp := fun vs H Q E => ∃ b, vs = [.bl b] ∧ (b = true → Q .non H) ∧ (b = false → E (.ref C) none H)
/-- a thing is let by, or refused -/
def spRef (C : Addr) (f : PyData → Bool) : Sp := fun vs H Q E => ∃ v d, vs = [v] ∧ R H v d ∧ (f d = true → ∀ H', Same H H' → Q .non H') ∧ (f d = false → ∀ H', Same H H' → E (.ref C) none H')
/-! ### states -/
def takeD (n : Nat) : PyData → PyData
  | .tuple ds => .tuple (ds.take n)
  | d => d
def lenD : PyData → Nat
  | .tuple ds => ds.length
  | _ => 0
def hasD (ds : List (PyData × PyData)) (k : PyData) : Bool := ds.any fun p => PyData.eqv p.1 k
def aboveD (ds : List (PyData × PyData)) (k : PyData) : Bool := (List.range (lenD k - 1)).any fun n => hasD ds (takeD (n + 1) k)
def okEntry (ds : List (PyData × PyData)) (p : PyData × PyData) : Bool := !(!isPath p.1 || (PyData.eqv p.1 (.tuple []) || !isNumber 1000000000 p.2)) && !aboveD ds p.1
def isState : PyData → Bool
  | .dict ds => ds.all (okEntry ds)
  | _ => false
theorem shaped_path {d : PyData} (h : isPath d = true) : SeqAt.shaped d = true := by
  cases d with
  | tuple ds =>
    simp only [isPath, Bool.and_eq_true] at h
    have h2 := h.2
    have c : ∀ l : List PyData, l.all isWord = true → PyData.canLayAll0 l = true ∧ PyData.depthAll l = 0 := by
      intro l
      induction l with
      | nil => intro _; exact ⟨rfl, rfl⟩
      | cons x r ih =>
        intro hl
        simp only [List.all_cons, Bool.and_eq_true] at hl
        obtain ⟨c1, c2⟩ := ih hl.2
        cases x with
        | str z =>
          have hz : PyData.strOk z = true := by
            have hw := hl.1
            simp only [isWord, Bool.and_eq_true, List.all_eq_true] at hw
            have ha := hw.2
            unfold PyData.strOk
            rw [Array.all_eq_true]
            intro j hj
            have hm := ha z.cps[j] (by simp)
            have hm := of_decide_eq_true hm
            have key : ∀ c ∈ smallS.cps.toList, (decide (c < 1114112)) = true := by decide +kernel
            exact key _ hm
          exact ⟨by simp only [PyData.canLayAll0, PyData.canLay0, hz, c1, Bool.and_self], by simp only [PyData.depthAll, PyData.depth, c2]; rfl⟩
        | _ => simp [isWord] at hl
    obtain ⟨c1, c2⟩ := c ds h2
    simp [SeqAt.shaped, PyData.canLay0, c1, PyData.depth, c2]
  | _ => simp [isPath] at h
theorem ed_num {σ : St} {H : Hp} {E : XK} {ta : TA} {d : PyData} {m : Int} (h : EvDs ta σ H [d, .int m]) : EvD (tCall spNumber [] E ta) σ H (.bool (isNumber m d)) := fun H1 e Q q =>
  h H1 e _ fun vs H2 e2 rs => by
    obtain ⟨v, w, d', e', rfl, hd, r1, r2⟩ := rs.two rfl
    cases hd
    cases r2
    exact ⟨v, d, m, rfl, r1, fun H3 s3 => q _ H3 (e2.trans s3) (.bl _)⟩
section
variable {P : Program} {w : World} {K : PySem.W.Frag} {mg : Str → Option Value} {base : Heap}
theorem scIsState : FnScope ["state", "path", "many"] ["state"] (defScope sIsState) := ⟨rfl, rfl, rfl, by decide +kernel, rfl, by decide +kernel, by decide +kernel⟩
theorem ok_isState {f : Addr} {fd : FuncData} (F : L2.Fun K "is_state" "is_state" sIsState f fd) (hm : mg "is_state" = some (.ref f)) (hb : Binds K fd ["state"] []) (T : Tx K mg) (D2 : Df P w K mg base "is_path" 2 ["thing"] (spF 1 (f1 isPath))) (D1 : Df P w K mg base "is_number" 1 ["thing", "most"] spNumber) :
    Df P w K mg base "is_state" 3 ["state"] (spF 1 (f1 isState)) := by
  refine df_of F hm hb scIsState (spF_len rfl) (fun cdv A outer s H vs Q E hr h => ?_)
  obtain ⟨ds, rs, hl, k⟩ := h
  obtain ⟨v, d, rfl, rfl, rd⟩ := rs.one hl
  have hu := hu_of hr
  refine ⟨_, PSs.nox (pss_cons (ps_if (pt_not (pt_val (pe_callB (call_isD (T := "dict")) (by rfl) T.isi boot_isinstance (pa_cons (pv 0) (pa_cons (pe_bltn (v := .ty "dict") (by rfl) T.dict (by decide +kernel) rfl) pa_nil))))) (pss_one (ps_ret pe_bl)) pss_nil)
    (pss_cons (ps_lock (ps_for PassesOwn.never rfl (pi_keys (pv 0)) (pg_name (i := 1) scIsState.nd rfl (Or.inr rfl))
      (pss_cons (ps_if (PW.pt (pw_or (pt_not (pt_val (pe_df D2 hr (Nat.le_refl _) (by rfl) passN (pa_cons (pv 1) pa_nil))))
          (pw_or (pt_cmpR (op_eqD hr.units) (pv 1) (pe_tup pa_nil) (nomark _)) (pw_or1 (pt_not (pt_val (pe_df D1 hr (by decide) (by rfl) passN (pa_cons (pe_dget hu (pv 0) (pv 1) (fun _ _ => rfl)) (pa_cons (C8.pe_gc (by rfl) T.mworth) pa_nil))))))))) (pss_one (ps_ret pe_bl)) pss_nil)
      (pss_one (ps_if (pt_val (pe_callB (cr_any rfl) (by rfl) T.any boot_any (pa_cons (pe_lc (own := [("many", 2)]) (g := gName 2) (tt := tYes) rfl scIsState.nd (pi_range2 (by rfl) T.rng (pa_cons pe_int (pa_cons (pe_callB call_len_seq (by rfl) T.len PySem.boot_len (pa_cons (pv 1) pa_nil)) pa_nil))) (blkOk_by (own := [("many", 2)]) (N := ["state", "path", "many"]) (sc := defScope sIsState) (by decide +kernel))
        (fun _ _ _ _ _ => pg_name (i := 2) scIsState.nd rfl (Or.inl rfl)) (fun _ _ _ _ _ => pts_nil) (fun _ _ _ _ _ => pe_cmp (pc_din hu (pe_slice (r := rSlA K) sl_tupA (pv 1) po_none (po_some (pv 2))) (pv 0)) rfl)) pa_nil))) (pss_one (ps_ret pe_bl)) pss_nil)))))
    (pss_one (ps_ret pe_bl)))), ?_⟩
  refine Evl.q_when (b := !isDict d) (Evl.et_not (et_b (ed_isi (ed_var rfl rd) (kit_dict d)))) (fun hb H1 e1 => ?_) (fun hb H1 e1 => ?_)
  · refine k _ H1 e1 ?_
    cases d <;> simp [isDict] at hb <;> exact .bl false
  · have rd1 := rd.ext (exN e1)
    cases rd1 with
    | @dT a kvs ds ha hn hk hv =>
      refine ⟨a, _, ha, trivial, fun od => ?_⟩
      have ra : R H1 (.ref a) (.dict ds) := .dT ha hn hk hv
      have vz : sizeOf (ds.map Prod.snd) < sizeOf (PyData.dict ds) := by
        have := size_snd ds
        simp only [PyData.dict.sizeOf_spec]
        omega
      have hvL : Rs (upd H1 a (.frz od (.dT kvs))) (kvs.map Prod.snd) (ds.map Prod.snd) := Rs.but ra hv vz
      generalize hHL : upd H1 a (.frz od (.dT kvs)) = HL at hvL
      have hL : HL a = some (.frz od (.dT kvs)) := by rw [← hHL]; exact upd_same
      have back : ∀ {H2 : Hp}, Ex HL H2 → Same H (upd H2 a (.dT kvs)) := fun {H2} e2 b o hb => by
        by_cases z : b = a
        · subst z
          rw [upd_same]
          exact (ha.symm.trans (e1 _ _ hb))
        · rw [upd_ne z]
          refine e2 _ _ ?_
          rw [← hHL, upd_ne z]
          exact e1 _ _ hb
      refine ⟨_, rfl, a, od, rfl, .inr ⟨kvs, hL, ?_⟩⟩
      refine for_it (walk_keysT (d := a) (o := od) (kvs := kvs)) (fun i σ' H' => (∃ o1 o2, σ' = [some (.ref a), o1, o2]) ∧ Ex HL H' ∧ ∀ (j : Nat) p, j < i → ds[j]? = some p → okEntry ds p = true) ⟨⟨_, _, rfl⟩, Ex.refl _, fun j p hj => absurd hj (Nat.not_lt_zero _)⟩ (fun i σ' H' _ h => h.2.1 _ _ hL) ?_ ?_
      · rintro i x σ' H2 H3 hi ⟨⟨o1, o2, rfl⟩, e2, hall⟩ ⟨rfl, kk, vv, q, hkv, rfl, hq⟩
        obtain ⟨p, hp, hp1, rp0⟩ := at_pair hk hvL (i := i) (x := .tuple (kk.map kD)) (v := vv) (by rw [List.getElem?_map, hkv]; rfl) (by rw [List.getElem?_map, hkv]; rfl)
        have rp : R H3 vv p.2 := rp0.ext (exN e2)
        have rq : R H3 (.ref q) p.1 := by
          rw [hp1]
          exact .tup hq (rs_keys kk fun x hx => hn.1 (kk, vv) (List.mem_of_getElem? hkv) x hx)
        have hva := val_at hn.2 hkv
        have aL : H3 a = some (.frz od (.dT kvs)) := e2 _ _ hL
        have ret : ∀ H4, Ex H3 H4 → okEntry ds p = false → H4 a = some (.frz od (.dT kvs)) ∧ Q (.bl false) (upd H4 a (.dT kvs)) := fun H4 e4 hf => by
          refine ⟨e4 _ _ aL, k _ _ (back (e2.trans e4)) ?_⟩
          have : isState (.dict ds) = false := by
            show ds.all (okEntry ds) = false
            rw [List.all_eq_false]
            exact ⟨p, List.mem_of_getElem? hp, by rw [hf]; exact Bool.false_ne_true⟩
          show R _ _ (.bool (isState (.dict ds)))
          rw [this]
          exact .bl false
        show tSeq _ _ _ [some (.ref a), some (.ref q), o2] H3
        refine Evl.q_when (b := !isPath p.1 || (PyData.eqv p.1 (.tuple []) || !isNumber 1000000000 p.2)) (Evl.et_or (Evl.et_not (et_b (ed_call (eds_cons (ed_var rfl rq) eds_nil) rfl rfl))) fun hpath =>
          Evl.et_or (Evl.et_test (ed_eq (ed_var rfl rq) (ed_tup eds_nil (by decide)) (shaped_path (by simpa using hpath)) (by decide +kernel)).vb) fun _ => Evl.et_not (et_b (ed_num (eds_cons ?g1 (eds_cons (ed_c (.int _)) eds_nil))))) (fun hb4 H4 e4 => ?_) (fun hb4 H4 e4 => ?_)
        case g1 =>
          intro H5 e5 Q5 q5
          refine ⟨_, rfl, _, rfl, a, vv, rfl, .inr ⟨kvs, kk, q, .inr ⟨od, e5 _ _ aL⟩, rfl, e5 _ _ hq, hva.symm⟩, q5 _ H5 (Ex.refl _) (rp.ext (exN e5))⟩
        · exact ret H4 e4 (by simp only [okEntry, hb4, Bool.not_true, Bool.false_and])
        · refine Evl.s_when (b := aboveD ds p.1) (et_b ?g2) (fun hb5 H5 e5 => ?_) (fun hb5 H5 e5 => ?_)
          case g2 =>
            have hlen : lenD p.1 = kk.length := by rw [hp1]; simp [lenD]
            have h4 : kk.length ≤ 4 := by
              have hpath : isPath p.1 = true := by
                cases hz : isPath p.1
                · rw [hz] at hb4; simp at hb4
                · rfl
              rw [hp1] at hpath
              simp only [isPath, Bool.and_eq_true, List.length_map] at hpath
              have := of_decide_eq_true hpath.1
              omega
            refine ed_is (ed_any (bs := (List.range (kk.length - 1)).map fun n => hasD ds (takeD (n + 1) p.1)) (el_lcR2 (lo := 1) (hi := (kk.length : Int)) (eds_cons (ed_c (.int 1)) (eds_cons (ed_lenQ (ds := kk.map kD) (ed_var rfl (rq.ext (exN e4))) (.inl hp1) |> (ed_is · (by rw [List.length_map]))) eds_nil)) (by omega) (by omega) (by omega) (by omega) _ (by simp) (by omega) (fun x => rfl) fun n H5 e5 hn5 => ?_)) ?_
            · have hlt : n < kk.length - 1 := by omega
              have e45 : Ex H3 H5 := e4.trans e5
              have hv5 : (((List.range (kk.length - 1)).map fun n => hasD ds (takeD (n + 1) p.1)).map V.bl).getD n .non = .bl (hasD ds (takeD (n + 1) p.1)) := by
                simp [hlt]
              rw [hv5]
              intro H6 e6 Q6 q6
              have e36 : Ex H3 H6 := e45.trans e6
              refine ⟨_, rfl, _, rfl, _, rfl, q, kk.map kV, rfl, .inl (.inl (e36 _ _ hq)), fun hwh => ?_, fun _ p6 hp6 => ?_⟩
              · exfalso
                have z := hwh.2
                have e7 : (1 : Int) + (n : Int) = ((n + 1 : Nat) : Int) := by omega
                rw [e7, HT.sIx_nat, List.length_map] at z
                omega
              · have ecut : cutV (kk.map kV) none (some (1 + (n : Int))) = (kk.take (n + 1)).map kV := by
                  have e7 : (1 : Int) + (n : Int) = ((n + 1 : Nat) : Int) := by omega
                  unfold cutV
                  rw [e7, HT.sIx_nat, HT.sIx_none, List.length_map, List.drop_zero, Nat.sub_zero, Nat.min_eq_left (by omega), List.map_take]
                refine ⟨_, rfl, a, _, rfl, .inr ⟨kvs, kk.take (n + 1), p6, .inr ⟨od, ?_⟩, rfl, by rw [ecut]; exact upd_same, rfl⟩, ?_⟩
                · rw [upd_ne (ne_of_none (e36 _ _ aL) hp6)]
                  exact e36 _ _ aL
                · have := q6 (upd H6 p6 (.tup (cutV (kk.map kV) none (some (1 + (n : Int)))))) (Ex.new hp6)
                  have e8 : hasD ds (takeD (n + 1) p.1) = (valV kvs (kk.take (n + 1))).isSome := by
                    rw [hp1, ← has_key hk]
                    simp only [takeD, hasD, List.map_take]
                  rw [← e8]
                  exact this
            · rw [List.any_map]
              unfold aboveD
              rw [hlen]
              rfl
          · exact ret H5 (e4.trans e5) (by simp only [okEntry, hb4, hb5, Bool.not_true, Bool.and_false])
          · refine ⟨⟨_, _, rfl⟩, (e2.trans e4).trans e5, fun j p' hj hp' => ?_⟩
            rcases Nat.lt_succ_iff_lt_or_eq.mp hj with hj | rfl
            · exact hall j p' hj hp'
            · rw [hp] at hp'
              cases hp'
              simp only [okEntry, hb4, hb5, Bool.not_false, Bool.and_self]
      · rintro σ' H2 ⟨⟨o1, o2, rfl⟩, e2, hall⟩
        refine ⟨e2 _ _ hL, k _ _ (back e2) ?_⟩
        have hlen : ds.length = kvs.length := by
          have := congrArg List.length hk
          simpa using this
        have : isState (.dict ds) = true := by
          show ds.all (okEntry ds) = true
          rw [List.all_eq_true]
          intro p hp
          obtain ⟨j, hj, e⟩ := List.getElem_of_mem hp
          exact hall j p (by omega) (by rw [← e]; exact List.getElem?_eq_getElem hj)
        show R _ _ (.bool (isState (.dict ds)))
        rw [this]
        exact .bl true
    | @dK a kvs ds ha hn hk hv =>
      refine ⟨a, _, ha, trivial, fun od => ?_⟩
      generalize hHL : upd H1 a (.frz od (.dK kvs)) = HL
      have hL : HL a = some (.frz od (.dK kvs)) := by rw [← hHL]; exact upd_same
      have back : ∀ {H2 : Hp}, Ex HL H2 → Same H (upd H2 a (.dK kvs)) := fun {H2} e2 b o hb => by
        by_cases z : b = a
        · subst z
          rw [upd_same]
          exact (ha.symm.trans (e1 _ _ hb))
        · rw [upd_ne z]
          refine e2 _ _ ?_
          rw [← hHL, upd_ne z]
          exact e1 _ _ hb
      refine ⟨_, rfl, a, od, rfl, .inl ⟨kvs, hL, ?_⟩⟩
      refine for_it (walk_keys (d := a) (o := od) (kvs := kvs)) (fun i σ' H' => i = 0 ∧ σ' = [some (.ref a), none, none] ∧ Ex HL H') ⟨rfl, rfl, Ex.refl _⟩ (fun i σ' H' _ h => h.2.2 _ _ hL) ?_ ?_
      · rintro i x σ' H2 H3 hi ⟨rfl, rfl, e2⟩ ⟨rfl, kk, vv, hkv, rfl⟩
        have rq : R H3 (kV kk) (kD kk) := by
          cases kk with
          | inl i => exact .int i
          | inr x => exact .str x (hn.1 (Sum.inr x, vv) (List.mem_of_getElem? hkv) x rfl)
        have np : isPath (kD kk) = false := by cases kk <;> rfl
        show tSeq _ _ _ [some (.ref a), some (kV kk), none] H3
        refine Evl.q_when (b := true) (Evl.et_is (Evl.et_or (a := true) (b := true) (Evl.et_is (Evl.et_not (et_b (ed_call (d := .bool false) (eds_cons (ed_var rfl rq) eds_nil) rfl (by show PyData.bool (isPath (kD kk)) = _; rw [np])))) rfl) (fun z => by cases z)) rfl) (fun _ H4 e4 => ?_) (fun z => by cases z)
        refine ⟨e4 _ _ (e2 _ _ hL), k _ _ (back (e2.trans e4)) ?_⟩
        have hd0 : ∃ p r, ds = p :: r ∧ p.1 = kD kk := by
          cases ds with
          | nil =>
            have := congrArg List.length hk
            simp at this
            rw [this] at hkv
            simp at hkv
          | cons p r =>
            refine ⟨p, r, rfl, ?_⟩
            have h0 : (kvs.map fun kv => kD kv.1)[0]? = some (kD kk) := by rw [List.getElem?_map, hkv]; rfl
            rw [← hk] at h0
            simpa using h0
        obtain ⟨p, r, rfl, hp⟩ := hd0
        have : isState (.dict (p :: r)) = false := by
          show ((p :: r).all (okEntry (p :: r))) = false
          have h0 : okEntry (p :: r) p = false := by
            unfold okEntry
            rw [hp, np]
            rfl
          rw [List.all_cons, h0, Bool.false_and]
        show R _ _ (.bool (isState (.dict (p :: r))))
        rw [this]
        exact .bl false
      · rintro σ' H2 ⟨hn0, rfl, e2⟩
        refine ⟨e2 _ _ hL, k _ _ (back e2) ?_⟩
        have hd0 : ds = [] := by
          have := congrArg List.length hk
          simp only [List.length_map] at this
          exact List.length_eq_zero_iff.mp (by omega)
        subst hd0
        exact .bl true
    | _ => simp [isDict] at hb
end
end Lk
set_option Elab.async false
set_option linter.all false
set_option maxRecDepth 100000
set_option maxHeartbeats 4000000
namespace Lk
open PySem PySem.Spec PyProof.Rows L2 HotX L2H LamX
open Evl (Ev EvL EvA EvT Ex)
section
variable {K : PySem.W.Frag} {σ : St} {H H' : Hp} {ta tb te : TE} {tr : TA} {d e : PyData} {ds : List PyData} {v : V} {b c : Bool} {i j : Int} {D : Ends} {tz : TS} {E : XK} {C : Addr}
theorem q_need (h : EvD te σ H (.bool b)) (h1 : b = true → ∀ H1, Ex H H1 → tz D σ H1) (h2 : b = false → ∀ H1, Ex H H1 → E (.ref C) none H1) : tSeq (tDrop (tCall (spNeed C) [] E (tCons te tNil))) tz D σ H :=
  h.vb H (Ex.refl H) _ fun H1 e1 => ⟨b, rfl, fun z => h1 z H1 e1, fun z => h2 z H1 e1⟩
theorem s_need (h : EvD te σ H (.bool b)) (h1 : b = true → ∀ H1, Ex H H1 → D.nx σ H1) (h2 : b = false → ∀ H1, Ex H H1 → E (.ref C) none H1) : tDrop (tCall (spNeed C) [] E (tCons te tNil)) D σ H :=
  h.vb H (Ex.refl H) _ fun H1 e1 => ⟨b, rfl, fun z => h1 z H1 e1, fun z => h2 z H1 e1⟩
/-- x == y of two texts, of two ints -/
theorem ed_eqS {x y : Str} (h1 : EvD ta σ H (.str x)) (h2 : EvD tb σ H (.str y)) : EvD (tOp rEq ta tb) σ H (.bool (decide (x = y))) :=
  Ev.db (Evl.ev_is (Evl.ev_op h1.ts h2.ts (Evl.rv_eq rfl)) (by simp))
theorem ed_eqI (h1 : EvD ta σ H (.int i)) (h2 : EvD tb σ H (.int j)) : EvD (tOp rEq ta tb) σ H (.bool (decide (i = j))) :=
  Ev.db (Evl.ev_is (Evl.ev_op h1.ti h2.ti (Evl.rv_eq rfl)) (by simp))
/-- z in (a, b, ..), texts -/
theorem ed_inS {z : Str} {ws : List Str} (h1 : EvD ta σ H (.str z)) (h2 : Evl.EvU tb σ H (ws.map V.str)) : EvD (tOp (rIn K false) ta tb) σ H (.bool (decide (z ∈ ws))) :=
  Ev.db (Evl.ev_is (Evl.ev_inU h1.ts h2 rfl (by simp [flatV])) (by
    congr 1
    unfold inV
    rw [List.any_map]
    rw [Bool.eq_iff_iff, List.any_eq_true, decide_eq_true_iff]
    constructor
    · rintro ⟨y, hy, e⟩
      have e' : y = z := eq_of_beq (show (y == z) = true from e)
      rw [← e']
      exact hy
    · intro hz
      exact ⟨z, hz, show (z == z) = true from beq_self_eq_true z⟩))
end
section
variable {K : PySem.W.Frag} {σ : St} {H H' : Hp} {te : TE} {d : PyData} {D : Ends} {tz : TS} {E : XK} {C : Addr} {f : PyData → Bool}
theorem q_ref (h : EvD te σ H d) (h1 : f d = true → ∀ H1, Ex H H1 → tz D σ H1) (h2 : f d = false → ∀ H1, Ex H H1 → E (.ref C) none H1) : tSeq (tDrop (tCall (spRef C f) [] E (tCons te tNil))) tz D σ H :=
  h H (Ex.refl H) _ fun v H1 e1 r => ⟨v, d, rfl, r, fun z H2 s2 => h1 z H2 (e1.trans s2), fun z H2 s2 => h2 z H2 (e1.trans s2)⟩
theorem s_ref (h : EvD te σ H d) (h1 : f d = true → ∀ H1, Ex H H1 → D.nx σ H1) (h2 : f d = false → ∀ H1, Ex H H1 → E (.ref C) none H1) : tDrop (tCall (spRef C f) [] E (tCons te tNil)) D σ H :=
  h H (Ex.refl H) _ fun v H1 e1 r => ⟨v, d, rfl, r, fun z H2 s2 => h1 z H2 (e1.trans s2), fun z H2 s2 => h2 z H2 (e1.trans s2)⟩
end
theorem q_asgD {te : TE} {σ : St} {H : Hp} {d : PyData} {D : Ends} {tz : TS} {i : Nat} (h : EvD te σ H d) (k : ∀ v H1, Ex H H1 → R H1 v d → tz D (σ.set i (some v)) H1) : tSeq (tAsg te (gName i)) tz D σ H := h H (Ex.refl H) _ k
section
variable {P : Program} {w : World} {K : PySem.W.Frag} {mg : Str → Option Value} {base : Heap}
theorem scNeedState : FnScope ["state"] ["state"] (defScope sNeedState) := ⟨rfl, rfl, rfl, by decide +kernel, rfl, by decide +kernel, by decide +kernel⟩
theorem ok_needState {f C : Addr} {fd : FuncData} (F : L2.Fun K "need_state" "need_state" sNeedState f fd) (hm : mg "need_state" = some (.ref f)) (hb : Binds K fd ["state"] []) (X : Xc K mg "BadState" C) (D3 : Df P w K mg base "is_state" 3 ["state"] (spF 1 (f1 isState))) :
    Df P w K mg base "need_state" 4 ["state"] (spRef C isState) := by
  refine df_of F hm hb scNeedState (fun vs H Q E h => by obtain ⟨_, _, rfl, _⟩ := h; rfl) (fun cdv A outer s H vs Q E hr h => ?_)
  obtain ⟨v, d, rfl, rd, k1, k2⟩ := h
  refine ⟨_, pss_one (ps_if (pt_not (pt_val (pe_df D3 hr (Nat.le_refl _) (by rfl) passN (pa_cons (pv 0) pa_nil)))) (pss_one (L2N.ps_raise rfl (L2N.takes_of rfl rfl rfl rfl) (L2N.pmk_own PySem.F.excBase_ValueError X.x X.g X.kp (raises_own X.sb X.ty) (by rfl)))) pss_nil), ?_⟩
  refine Evl.s_if (b := !isState d) (Evl.et_not (et_b (ed_call (eds_cons (ed_var rfl rd) eds_nil) rfl rfl))) (fun hb H1 e1 => ?_) (fun hb H1 e1 => ?_)
  · exact k2 (by simpa using hb) H1 e1
  · exact k1 (by simpa using hb) H1 e1
end
end Lk
set_option Elab.async false
set_option linter.all false
set_option maxRecDepth 100000
set_option maxHeartbeats 4000000
namespace Lk
open PySem PySem.Spec PyProof.Rows L2 HotX L2H LamX
open Evl (Ev EvL EvA EvT Ex EvU)
abbrev sCell : Stmt := topS 42
abbrev sDrawn : Stmt := topS 43
/-- draws: some number that is not negative -/
def bigP : Int := 340282366920938463463374607431768211507
def spDrawn : Sp := fun vs H Q _ => ∃ c k : Int, vs = [.int c, .int k] ∧ 0 ≤ k ∧ k ≤ 100000 ∧ ∀ n H', 0 ≤ n → n < bigP → Same H H' → Q (.int n) H'
def spCell (K : PySem.W.Frag) : Sp := fun vs H Q _ => ∃ (a : Addr) (ns : List Int) (k : Int), vs = [.ref a, .int k] ∧ SqL K H a (ns.map V.int) ∧ ns.length ≤ 1000 ∧ 0 ≤ k ∧ k ≤ 100000 ∧ ∀ c H', Same H H' → Q (.int c) H'
theorem ev_I {K : PySem.W.Frag} {σ : St} {H : Hp} {ta tb : TE} {C : Int → Int → Prop} {g : Int → Int → V} {i j : Int} (h1 : Ev ta σ H (.int i)) (h2 : Ev tb σ H (.int j)) (hc : C i j) : Ev (tOp (rI C g) ta tb) σ H (g i j) := Evl.ev_op h1 h2 (Evl.rv_I hc)
theorem ev_I0 {σ : St} {H : Hp} {ta tb : TE} {g : Int → Int → V} {i j : Int} (h1 : Ev ta σ H (.int i)) (h2 : Ev tb σ H (.int j)) : Ev (tOp (rI0 g) ta tb) σ H (g i j) := Evl.ev_op h1 h2 Evl.rv_I0
theorem wide_bd {a b : Int} (ha : 0 ≤ a) (hb : 0 ≤ b) (h1 : a < 2 ^ 200) (h2 : b < 2 ^ 200) : CMulW a b :=
  wide_mul (a := 200) (b := 200) (by omega) (by omega) (by decide) (by decide) (by decide)
section
variable {P : Program} {w : World} {K : PySem.W.Frag} {mg : Str → Option Value} {base : Heap}
theorem scDrawn : FnScope ["cell", "k", "more"] ["cell", "k"] (defScope sDrawn) := ⟨rfl, rfl, rfl, by decide +kernel, rfl, by decide +kernel, by decide +kernel⟩
theorem ok_drawn {f : Addr} {fd : FuncData} (F : L2.Fun K "_law_drawn" "_law_drawn" sDrawn f fd) (hm : mg "_law_drawn" = some (.ref f)) (hb : Binds K fd ["cell", "k"] []) : Df P w K mg base "_law_drawn" 1 ["cell", "k"] spDrawn := by
  refine df_of F hm hb scDrawn (fun vs H Q E h => by obtain ⟨_, _, rfl, _⟩ := h; rfl) (fun cdv A outer s H vs Q E hr h => ?_)
  obtain ⟨c, k, rfl, h0, h1, kk⟩ := h
  refine ⟨_, PSs.nox (pss_cons (ps_set (i := 2) scDrawn.nd rfl (Or.inl rfl) (pe_op op_mod (pe_op op_add (pe_op op_mul (pv 0) pe_int) (pe_op op_mul (pe_op op_add (pv 1) pe_int) pe_int)) pe_int))
    (pss_cons (ps_set (i := 2) scDrawn.nd rfl (Or.inl rfl) (pe_op op_mod (pe_op op_mulW (pv 2) (pv 2)) pe_int))
    (pss_cons (ps_set (i := 2) scDrawn.nd rfl (Or.inl rfl) (pe_op op_mulW (pe_op op_mulW (pe_op op_add (pe_op op_mod (pv 2) pe_int) pe_int) (pe_op op_add (pe_op op_fdivW (pv 2) pe_int) pe_int)) (pv 2)))
    (pss_one (ps_ret (pe_op op_mod (pv 2) pe_int)))))), ?_⟩
  refine Evl.q_asg (ev_I (K := K) (ev_I0 (ev_I (K := K) (Evl.ev_var rfl) Evl.ev_c (.inr (by decide))) (ev_I (K := K) (ev_I0 (Evl.ev_var rfl) Evl.ev_c) Evl.ev_c (.inr (by decide)))) Evl.ev_c (by decide)) fun H1 e1 => ?_
  generalize hm1 : (c * 6364136223846793005 + (k + 1) * 1442695040888963407) % 340282366920938463463374607431768211507 = m1
  have a1 : 0 ≤ m1 := by rw [← hm1]; exact Int.emod_nonneg _ (by decide)
  have b1 : m1 < 340282366920938463463374607431768211507 := by rw [← hm1]; exact Int.emod_lt_of_pos _ (by decide)
  refine Evl.q_asg (ev_I (K := K) (ev_I (K := K) (Evl.ev_var rfl) (Evl.ev_var rfl) (wide_bd a1 a1 (by omega) (by omega))) Evl.ev_c (by decide)) fun H2 e2 => ?_
  generalize hm2 : m1 * m1 % 340282366920938463463374607431768211297 = m2
  have a2 : 0 ≤ m2 := by rw [← hm2]; exact Int.emod_nonneg _ (by decide)
  have b2 : m2 < 340282366920938463463374607431768211297 := by rw [← hm2]; exact Int.emod_lt_of_pos _ (by decide)
  have a3 : 0 ≤ m2 % 18446744073709551557 := Int.emod_nonneg _ (by decide)
  have b3 : m2 % 18446744073709551557 < 18446744073709551557 := Int.emod_lt_of_pos _ (by decide)
  have a4 : 0 ≤ m2 / 18446744073709551557 := Int.ediv_nonneg a2 (by decide)
  have b4 : m2 / 18446744073709551557 < 2 ^ 66 := by
    refine Int.ediv_lt_of_lt_mul (by decide) ?_
    omega
  have a5 : 0 ≤ (m2 % 18446744073709551557 + 1) * (m2 / 18446744073709551557 + 1) := Int.mul_nonneg (by omega) (by omega)
  have b5 : (m2 % 18446744073709551557 + 1) * (m2 / 18446744073709551557 + 1) < 2 ^ 200 := by
    have h := wide_lt (i := m2 % 18446744073709551557 + 1) (j := m2 / 18446744073709551557 + 1) (a := 70) (b := 70) (by omega) (by omega)
    have h' : (2 : Nat) ^ (70 + 70) ≤ 2 ^ 200 := Nat.pow_le_pow_right (by decide) (by decide)
    omega
  refine Evl.q_asg (ev_I (K := K) (ev_I (K := K) (ev_I0 (ev_I (K := K) (Evl.ev_var rfl) Evl.ev_c (by decide)) Evl.ev_c) (ev_I0 (ev_I (K := K) (Evl.ev_var rfl) Evl.ev_c (wide_div (b := 65) (by decide) (by decide) (by decide) (by decide))) Evl.ev_c) (wide_bd (by omega) (by omega) (by omega) (by omega))) (Evl.ev_var rfl) (wide_bd a5 a2 b5 (by omega))) fun H3 e3 => ?_
  refine Evl.s_ret (ev_I (K := K) (Evl.ev_var rfl) Evl.ev_c (by decide)) fun H4 e4 => kk _ H4 (Int.emod_nonneg _ (by decide)) (Int.emod_lt_of_pos _ (by decide)) (((e1.trans e2).trans e3).trans e4)
theorem scCell : FnScope ["script", "k"] ["script", "k"] (defScope sCell) := ⟨rfl, rfl, rfl, by decide +kernel, rfl, by decide +kernel, by decide +kernel⟩
theorem shaped_ints : ∀ ns : List Int, PyData.canLayAll0 (ns.map PyData.int) = true ∧ PyData.depthAll (ns.map PyData.int) = 0
  | [] => ⟨rfl, rfl⟩
  | n :: ns => by
    obtain ⟨h1, h2⟩ := shaped_ints ns
    exact ⟨by simp only [List.map_cons, PyData.canLayAll0, PyData.canLay0, h1, Bool.and_self], by simp only [List.map_cons, PyData.depthAll, PyData.depth, h2]; rfl⟩
theorem dp_ints {H : Hp} : ∀ ns : List Int, DpAll K H (ns.map V.int) (ns.map PyData.int)
  | [] => .nil
  | n :: ns => .cons (.int n) (dp_ints ns)
theorem ok_cell {f : Addr} {fd : FuncData} (F : L2.Fun K "_law_cell" "_law_cell" sCell f fd) (hm : mg "_law_cell" = some (.ref f)) (hb : Binds K fd ["script", "k"] []) (T : Tx K mg) : Df P w K mg base "_law_cell" 1 ["script", "k"] (spCell K) := by
  refine df_of F hm hb scCell (fun vs H Q E h => by obtain ⟨_, _, _, rfl, _⟩ := h; rfl) (fun cdv A outer s H vs Q E hr h => ?_)
  obtain ⟨a, ns, k, rfl, hS, hl, h0, h1, kk⟩ := h
  refine ⟨_, PSs.nox (pss_cons (ps_if (pt_cmpR (op_eqD hr.units) (pv 0) (pe_lst pa_nil) (nomark _)) (pss_one (ps_ret (pe_op op_mul (pv 1) pe_int))) pss_nil)
    (pss_one (ps_ret (pe_op op_add (pe_ix ix_list (pv 0) (pe_op op_mod (pv 1) (pe_callB call_len_seq (by rfl) T.len PySem.boot_len (pa_cons (pv 0) pa_nil))) (fun _ _ => rfl)) (pe_op op_mul (pe_op op_fdiv (pv 1) (pe_callB call_len_seq (by rfl) T.len PySem.boot_len (pa_cons (pv 0) pa_nil))) pe_int))))), ?_⟩
  refine Evl.q_when (b := ns.isEmpty) (Evl.et_test fun H1 e1 Q1 q1 => ?_) (fun hb H1 e1 => ?_) (fun hb H1 e1 => ?_)
  · refine ⟨_, rfl, by decide, fun p hp => ⟨.list (ns.map PyData.int), .list [], .lst (Evl.ex_l (e1.trans (Ex.new hp)) hS) (dp_ints ns), .lst (.inl (.inl upd_same)) .nil, ?_, by decide +kernel, ?_⟩⟩
    · obtain ⟨z1, z2⟩ := shaped_ints ns
      simp [SeqAt.shaped, PyData.canLay0, PyData.depth, z1, z2]
    · have e2 : PyData.eqv (.list (ns.map PyData.int)) (.list []) = ns.isEmpty := by cases ns <;> simp [PyData.eqv, PyData.eqvAll]
      rw [e2]
      exact q1 _ (Ex.new hp)
  · exact Evl.s_ret (ev_I (K := K) (Evl.ev_var rfl) Evl.ev_c (.inr (by decide))) fun H2 e2 => kk _ H2 (e1.trans e2)
  · have hn : 0 < ns.length := by
      cases ns with
      | nil => cases hb
      | cons _ _ => simp
    have hS1 : SqL K H1 a (ns.map V.int) := Evl.ex_l e1 hS
    have lenE : ∀ {H2 : Hp}, SqL K H2 a (ns.map V.int) → Ev (tCB (Evl.rLenS K) (tCons (tVar 0) tNil)) [some (V.ref a), some (V.int k)] H2 (.int (ns.length : Int)) := fun {H2} h2 => Evl.ev_is (Evl.ev_len (Evl.ev_var rfl) h2) (by rw [List.length_map])
    obtain ⟨j, hj⟩ : ∃ j : Nat, k % (ns.length : Int) = (j : Int) := ⟨(k % (ns.length : Int)).toNat, by have := Int.emod_nonneg k (b := (ns.length : Int)) (by omega); omega⟩
    have hjl : j < ns.length := by have := Int.emod_lt_of_pos k (b := (ns.length : Int)) (by omega); omega
    refine Evl.s_ret (v := .int (ns[j] + k / (ns.length : Int) * 104729)) (ev_I0 (i := ns[j]) (Evl.ev_op (Evl.ev_var rfl) (Evl.ev_is (ev_I (K := K) (Evl.ev_var rfl) (lenE hS1) (by omega)) (by rw [hj])) (Evl.rv_ixL hS1 (atI_nat (by simp [hjl])))) (ev_I (K := K) (ev_I (K := K) (Evl.ev_var rfl) (lenE hS1) ⟨by omega, by omega⟩) Evl.ev_c (.inr (by decide)))) fun H2 e2 => kk _ H2 (e1.trans e2)
end
end Lk
set_option Elab.async false
set_option linter.all false
set_option maxRecDepth 100000
set_option maxHeartbeats 4000000
namespace Lk
open PySem PySem.Spec PyProof.Rows L2 HotX L2H LamX
open Evl (Ev EvL EvA EvT Ex EvU)
abbrev sWord : Stmt := topS 44
abbrev sTold : Stmt := topS 45
/-- the names by which refusals are told -/
def wordsL : List Str := ["BadDeed", "BadLook", "BadNumber", "BadPath", "BadState", "Storm"]
/-- the class at D is the i-th of the classes cs, and no other; all stand under ValueError and under the class at CL -/
structure Own (K : PySem.W.Frag) (cs : List Addr) (CL D : Addr) (i : Nat) : Prop where
  exc : ExcC K D
  kit : ∀ (j : Nat) (c : Addr), cs[j]? = some c → PySem.W.kitOne K (.ref D) (.ref c) = some (decide (j = i))
  val : PySem.W.kitOne K (.ref D) (.type "ValueError") = some true
  exm : PySem.W.exmOne K (.ref D) (.ref CL) = some true
/-- what the module's names of classes hold -/
structure Cn (mg : Str → Option Value) (c0 c1 c2 c3 c4 c5 : Addr) : Prop where
  g0 : mg "BadDeed" = some (.ref c0)
  g1 : mg "BadLook" = some (.ref c1)
  g2 : mg "BadNumber" = some (.ref c2)
  g3 : mg "BadPath" = some (.ref c3)
  g4 : mg "BadState" = some (.ref c4)
  g5 : mg "Storm" = some (.ref c5)
  vE : mg "ValueError" = none
  sum : mg "sum" = none
def refused (nm : Str) : PyData := .tuple [.str "refused", .str nm]
def spWord (K : PySem.W.Frag) (cs : List Addr) (CL : Addr) : Addr × Obj → Sp := fun p vs H Q _ => ∃ (D : Addr) (i : Nat) (nm : Str), vs = [.ref p.1] ∧ Zc (.ref D) none p.2 ∧ (∃ fs, p.2.data = .fields fs) ∧ Own K cs CL D i ∧ wordsL[i]? = some nm ∧ ∀ v H', Same H H' → R H' v (refused nm) → Q v H'
def flagsL (i : Nat) : List Bool := [decide (0 = i), decide (1 = i), decide (2 = i), decide (3 = i), decide (4 = i), decide (5 = i)]
theorem ev_isE {K : PySem.W.Frag} {σ : St} {H : Hp} {D a c : Addr} {b : Bool} (h : σ[0]? = some (some (.ref a))) (hk : PySem.W.kitOne K (.ref D) (.ref c) = some b) : EvD (tCB (rIsE K D a) (tCons (tVar 0) (tCons (tC (.ref c)) tNil))) σ H (.bool b) :=
  fun H1 e Q q => ⟨_, h, .ref c, .ref c, b, rfl, fun u r => r, hk, q _ H1 (Ex.refl _) (.bl b)⟩
theorem ev_isV {K : PySem.W.Frag} {σ : St} {H : Hp} {D a : Addr} {T : String} {b : Bool} (h : σ[0]? = some (some (.ref a))) (hk : PySem.W.kitOne K (.ref D) (.type T) = some b) : EvD (tCB (rIsE K D a) (tCons (tVar 0) (tCons (tC (.ty T)) tNil))) σ H (.bool b) :=
  fun H1 e Q q => ⟨_, h, .ty T, .type T, b, rfl, fun u r => r, hk, q _ H1 (Ex.refl _) (.bl b)⟩
theorem ev_sum {K : PySem.W.Frag} {σ : St} {H : Hp} {ta : TE} {ns : List Int} (h : EvL ta σ H (ns.map V.int)) : Ev (tCB (rSum K) (tCons ta tNil)) σ H (.int ns.sum) := fun H1 e Q q =>
  h H1 e _ fun p H2 _ e2 hp => ⟨p, ns, rfl, .inl (.inl hp), q H2 e2⟩
section
variable {P : Program} {w : World} {K : PySem.W.Frag} {mg : Str → Option Value} {base : Heap}
theorem scWord : FnScope ["e", "flags", "flag"] ["e"] (defScope sWord) := ⟨rfl, rfl, rfl, by decide +kernel, rfl, by decide +kernel, by decide +kernel⟩
theorem ok_word {f c0 c1 c2 c3 c4 c5 CL : Addr} {fd : FuncData} (F : L2.Fun K "_law_word" "_law_word" sWord f fd) (T : Tx K mg) (N : Cn mg c0 c1 c2 c3 c4 c5) : FnP P w K mg base 1 f fd ["e"] (spWord K [c0, c1, c2, c3, c4, c5] CL) := by
  refine okP F scWord (fun p vs H Q E h => by obtain ⟨_, _, _, rfl, _⟩ := h; rfl) (fun cdv A outer s H vs Q p hot hr h => ?_)
  obtain ⟨D, i, nm, rfl, hz, hf, O, hnm, k⟩ := h
  have hc : HotC (cxH L2.CX0 P w K mg base ["e", "flags", "flag"] "_law_word" (defScope sWord) f cdv A outer s H L2.E0 p).nox := ⟨p, hot, List.mem_singleton.mpr rfl⟩
  have hpn : p ∈ (cxH L2.CX0 P w K mg base ["e", "flags", "flag"] "_law_word" (defScope sWord) f cdv A outer s H L2.E0 p).nox.pn := List.mem_singleton.mpr rfl
  have isi := @call_isP (cxH L2.CX0 P w K mg base ["e", "flags", "flag"] "_law_word" (defScope sWord) f cdv A outer s H L2.E0 p).nox p D O.exc hpn hz hf
  refine ⟨_, pss_cons (ps_set (i := 1) scWord.nd rfl (Or.inl rfl) (pe_lst (pa_cons (pe_callB isi (by rfl) T.isi boot_isinstance (pa_cons (pv 0) (pa_cons (C8.pe_gc (v := .ref c0) (by rfl) ⟨_, N.g0, rfl⟩) pa_nil)))
      (pa_cons (pe_callB isi (by rfl) T.isi boot_isinstance (pa_cons (pv 0) (pa_cons (C8.pe_gc (v := .ref c1) (by rfl) ⟨_, N.g1, rfl⟩) pa_nil)))
      (pa_cons (pe_callB isi (by rfl) T.isi boot_isinstance (pa_cons (pv 0) (pa_cons (C8.pe_gc (v := .ref c2) (by rfl) ⟨_, N.g2, rfl⟩) pa_nil))) pa_nil)))))
    (pss_cons (ps_set (i := 1) scWord.nd rfl (Or.inl rfl) (pe_op op_cat (pv 1) (pe_lst (pa_cons (pe_callB isi (by rfl) T.isi boot_isinstance (pa_cons (pv 0) (pa_cons (C8.pe_gc (v := .ref c3) (by rfl) ⟨_, N.g3, rfl⟩) pa_nil))) pa_nil))))
    (pss_cons (ps_set (i := 1) scWord.nd rfl (Or.inl rfl) (pe_op op_cat (pv 1) (pe_lst (pa_cons (pe_callB isi (by rfl) T.isi boot_isinstance (pa_cons (pv 0) (pa_cons (C8.pe_gc (v := .ref c4) (by rfl) ⟨_, N.g4, rfl⟩) pa_nil)))
      (pa_cons (pe_callB isi (by rfl) T.isi boot_isinstance (pa_cons (pv 0) (pa_cons (C8.pe_gc (v := .ref c5) (by rfl) ⟨_, N.g5, rfl⟩) pa_nil))) pa_nil)))))
    (pss_cons (ps_if (PW.pt (pw_or (pt_cmpR op_ne (pe_callB (cr_sumH hc) (by rfl) N.sum (by decide +kernel) (pa_cons (pe_lcH (own := [("flag", 2)]) (g := gName 2) (tt := tYes) hc scWord.nd (pv 1) (blkOk_by (own := [("flag", 2)]) (N := ["e", "flags", "flag"]) (sc := defScope sWord) (by decide +kernel))
        (fun _ _ _ _ _ => pg_name (i := 2) scWord.nd rfl (Or.inl rfl)) (fun _ _ _ _ _ => pts_nil) (fun _ _ _ _ _ => pe_callTy call_int1 (by rfl) T.int boot_int (pa_cons (pv 2) pa_nil))) pa_nil)) pe_int (nomark _))
        (pw_or1 (pt_not (pt_val (pe_callB isi (by rfl) T.isi boot_isinstance (pa_cons (pv 0) (pa_cons (pe_bltn (v := .ty "ValueError") (by rfl) N.vE (by decide +kernel) rfl) pa_nil)))))))) (pss_one (ps_ret (pe_tup (pa_cons pe_str (pa_cons pe_str pa_nil))))) pss_nil)
    (pss_one (ps_ret (pe_tup (pa_cons pe_str (pa_cons (pe_ix ix_list (pe_lst (pa_cons pe_str (pa_cons pe_str (pa_cons pe_str (pa_cons pe_str (pa_cons pe_str (pa_cons pe_str pa_nil))))))) (pe_bm PySem.F.plainAttrs_list PySem.F.slot_list_index PySem.F.type_list_index mt_index (pv 1) (pa_cons pe_bl pa_nil)) (fun _ _ => rfl)) pa_nil)))))))), ?_⟩
  have hi : i < 6 := by
    have := (List.getElem?_eq_some_iff.mp hnm).1
    exact this
  refine q_asgD (d := .list [.bool (decide (0 = i)), .bool (decide (1 = i)), .bool (decide (2 = i))]) (ed_lst (eds_cons (ev_isE rfl (O.kit 0 c0 rfl)) (eds_cons (ev_isE rfl (O.kit 1 c1 rfl)) (eds_cons (ev_isE rfl (O.kit 2 c2 rfl)) eds_nil))) (by simp)) fun v1 H1 e1 r1 => ?_
  refine q_asgD (d := .list ([.bool (decide (0 = i)), .bool (decide (1 = i)), .bool (decide (2 = i))] ++ [.bool (decide (3 = i))])) (ed_catL (es := [.bool (decide (3 = i))]) (ed_var rfl r1) (ed_lst (eds_cons (ev_isE rfl (O.kit 3 c3 rfl)) eds_nil) (by simp)) (by simp)) fun v2 H2 e2 r2 => ?_
  refine q_asgD (d := .list (([.bool (decide (0 = i)), .bool (decide (1 = i)), .bool (decide (2 = i))] ++ [.bool (decide (3 = i))]) ++ [.bool (decide (4 = i)), .bool (decide (5 = i))])) (ed_catL (es := [.bool (decide (4 = i)), .bool (decide (5 = i))]) (ed_var rfl r2) (ed_lst (eds_cons (ev_isE rfl (O.kit 4 c4 rfl)) (eds_cons (ev_isE rfl (O.kit 5 c5 rfl)) eds_nil)) (by simp)) (by simp)) fun v3 H3 e3 r3 => ?_
  have e03 : Ex H H3 := (e1.trans e2).trans e3
  have r3' : R H3 v3 (.list ((flagsL i).map PyData.bool)) := r3
  cases r3' with
  | @lst fa xs _ hx rx =>
    have hxs : xs = (flagsL i).map V.bl := by
      have : ∀ (bs : List Bool) (ys : List V), Rs H3 ys (bs.map PyData.bool) → ys = bs.map V.bl := by
        intro bs
        induction bs with
        | nil => intro ys h; cases h; rfl
        | cons b bs ih => intro ys h; cases h with
          | cons h t => cases h; rw [ih _ t]; rfl
      exact this _ _ rx
    subst hxs
    have nums : ((flagsL i).map fun b => if b then (1 : Int) else 0).sum = 1 := by
      have key : ∀ i < 6, ((flagsL i).map fun b => if b then (1 : Int) else 0).sum = 1 := by decide
      exact key i hi
    refine Evl.q_when (b := false) (Evl.et_is (Evl.et_or (a := false) (b := false) (Evl.et_test ?g1) fun _ => Evl.et_is (Evl.et_not (et_b (ev_isV rfl O.val))) rfl) rfl) (fun z => by cases z) (fun _ H4 e4 => ?_)
    case g1 =>
      refine Evl.ev_is (Evl.ev_op (x := .int 1) (y := .int 1) ?g2 Evl.ev_c (Evl.rv_ne rfl)) (by simp)
      refine Evl.ev_is (ev_sum (ns := (flagsL i).map fun b => if b then 1 else 0) (fun H0 e Q q => ⟨_, rfl, fa, rfl, ⟨_, .inl (.inl (e _ _ hx))⟩, fun Dl hD => ?_⟩)) (by rw [nums])
      refine lc_w (walk_list (K := K) (a := fa) (xs := (flagsL i).map V.bl)) (fun H' e2 => .inl (.inl ((e.trans e2) _ _ hx))) (((flagsL i).map fun b => if b then (1 : Int) else 0).map V.int) (by simp) (by simp [flagsL]) (fun x => rfl) (fun j x hj hx' => ?_) hD fun H2 e2 h2 => q Dl H2 hD e2 h2
      intro H7 e7 Q7 q7
      rw [List.getElem?_map] at hx'
      cases eb : (flagsL i)[j]? with
      | none => rw [eb] at hx'; cases hx'
      | some b =>
        rw [eb] at hx'
        cases hx'
        refine ⟨_, rfl, .inr ⟨b, rfl, ?_⟩⟩
        have := q7 H7 (Ex.refl _)
        simpa [eb] using this
    · have hx4 : H4 fa = some (.lst ((flagsL i).map V.bl)) := e4 _ _ hx
      refine s_retD (d := refused nm) (ed_tup (eds_cons (ed_c (.str _ (by decide +kernel))) (eds_cons (ed_ixL (k := i) (ds := wordsL.map PyData.str) ?g3 ?g4 (by rw [List.getElem?_map, hnm]; rfl)) eds_nil)) (by simp)) fun v9 H9 e9 r9 => k v9 H9 ((e03.trans e4).trans e9) r9
      case g3 => exact ed_lst (eds_cons (ed_c (.str _ (by decide +kernel))) (eds_cons (ed_c (.str _ (by decide +kernel))) (eds_cons (ed_c (.str _ (by decide +kernel))) (eds_cons (ed_c (.str _ (by decide +kernel))) (eds_cons (ed_c (.str _ (by decide +kernel))) (eds_cons (ed_c (.str _ (by decide +kernel))) eds_nil)))))) (by decide +kernel)
      case g4 =>
        intro H5 e5 Q5 q5
        have h5 : H5 fa = some (.lst ((flagsL i).map V.bl)) := e5 _ _ hx4
        have key : ∀ i < 6, (flagsL i)[i]? = some true ∧ ∀ m < i, (flagsL i)[m]? = some false := by decide
        obtain ⟨t1, t2⟩ := key i hi
        refine ⟨_, rfl, .inl ⟨rfl, _, .inl (.inl h5)⟩, fa, _, .bl true, i, .bl true, rfl, rfl, .inl (.inl h5), rfl, by simp [flagsL, flatV], by rw [List.getElem?_map, t1]; rfl, rfl, fun m z' hm' hz' => ?_, q5 _ H5 (Ex.refl _) (.int _)⟩
        rw [List.getElem?_map, t2 m hm'] at hz'
        cases hz'
        rfl
end
end Lk
set_option Elab.async false
set_option linter.all false
set_option maxRecDepth 100000
set_option maxHeartbeats 4000000
namespace Lk
open PySem PySem.Spec PyProof.Rows L2 HotX L2H LamX
open Evl (Ev EvL EvA EvT Ex EvU)
theorem takes0N {X : Cx} : L2N.Takes X (fun _ _ _ _ => False) := fun _ _ x => by
  obtain ⟨_, _, _, _, _, _, _, _, _, _, _, _, _, _, _, _, z⟩ := x
  exact z.elim
/-- what _law_told makes of a lambda: what it hands back, or the word of its refusal -/
def wishT (K : PySem.W.Frag) (cs : List Addr) (CL : Addr) (Q : VK) : XK := fun cls d H' => ∃ (D : Addr) (i : Nat) (nm : Str), cls = .ref D ∧ d = none ∧ Own K cs CL D i ∧ wordsL[i]? = some nm ∧ ∀ v H'', Same H' H'' → R H'' v (refused nm) → Q v H''
def TTold (K : PySem.W.Frag) (cs : List Addr) (CL : Addr) : (XK → Hp → VK → Prop) → Hp → VK → Prop := fun tl H Q => tl (wishT K cs CL Q) H Q
theorem scTold : FnScope ["deed", "e"] ["deed"] (defScope sTold) := ⟨rfl, rfl, rfl, by decide +kernel, rfl, by decide +kernel, by decide +kernel⟩
theorem told_gives {X : Cx} {g fw CL : Addr} {cdg : Value} {q : Str} {cs : List Addr} {fdw : FuncData} {k : Nat} (FW : FnP X.prog X.w X.K X.mg X.base 1 fw fdw ["e"] (spWord X.K cs CL)) (gw : X.mg "_law_word" = some (.ref fw)) (kw : PySem.W.keepIn X.K (.ref fw) = true) (bw : Binds X.K fdw ["e"] [])
    (gL : X.mg "LookError" = some (.ref CL)) : GivesN X ["deed", "e"] "_law_told" (defScope sTold) g cdg (defBody sTold) "deed" q (k + 1) (TTold X.K cs CL) := by
  intro f c' s H Q tl hr act hc h
  refine ⟨_, pss_one (L2N.ps_try_as (X := (cxOf C8.CX0 X.prog X.w X.K X.mg X.base ["deed", "e"] "_law_told" (defScope sTold) g cdg X.A X.stack s H C8.E0).nox) (c := .ref CL) (i := 1)
      (tb := fun W D σ H => ∃ Ech : XK, (∀ cls d (σ' : L2.St) H', σ'.length = 2 → Ech cls d H' → W cls d σ' H') ∧ σ[0]? = some (some (.ref f)) ∧ H c' = some (CodeO c' q) ∧ tl Ech H D.rt)
      (ts := fun a cls d D σ H => ∃ (D0 : Addr) (i : Nat) (nm : Str), cls = .ref D0 ∧ d = none ∧ Own X.K cs CL D0 i ∧ wordsL[i]? = some nm ∧ σ[1]? = some (some (.ref a)) ∧ ∀ v H', Same H H' → R H' v (refused nm) → D.rt v H')
      rfl rfl scTold.nd rfl rfl ⟨rfl, by decide, .inl gL⟩ takes0N (fun W pn xe tk _ => ?_) (fun a oe cls d pn hz hf => ?_)), ?_⟩
  · refine ⟨fun pins s' σ H' D I h' => ?_⟩
    obtain ⟨Ech, hW, h1, h2, h3⟩ := h'
    exact (pss_one (ps_ret (act W pn xe Ech _ _ tk hW))).run pins s' σ H' D I ⟨h1, h2, h3⟩
  · refine ⟨fun pins s' σ H' D I h' => ?_⟩
    obtain ⟨D0, i, nm, rfl, rfl, O, hnm, h1, h2⟩ := h'
    obtain ⟨fs, hfs⟩ := hf
    have hot : Hot1 ((cxOf C8.CX0 X.prog X.w X.K X.mg X.base ["deed", "e"] "_law_told" (defScope sTold) g cdg X.A X.stack s H C8.E0).nox.suite a ((a, oe) :: pn)).A (a, oe) := ⟨rfl, fs, hfs, hz.2.2 fs hfs⟩
    have rm : RoomH 1 ((cxOf C8.CX0 X.prog X.w X.K X.mg X.base ["deed", "e"] "_law_told" (defScope sTold) g cdg X.A X.stack s H C8.E0).nox.suite a ((a, oe) :: pn)).A := by
      have h0 := roomH_of (hr.mono (show 1 ≤ k + 1 by omega))
      exact ⟨h0.dp, h0.un⟩
    exact (pss_one (ps_ret (pe_callP (X := (cxOf C8.CX0 X.prog X.w X.K X.mg X.base ["deed", "e"] "_law_told" (defScope sTold) g cdg X.A X.stack s H C8.E0).nox.suite a ((a, oe) :: pn)) (p := (a, oe)) FW rm hot List.mem_cons_self (x := "_law_word") rfl gw kw bw (pa_cons (pv 1) pa_nil)))).run pins s' σ H' D I
      ⟨.ref a, h1, D0, i, nm, rfl, hz.zc, ⟨fs, hfs⟩, O, hnm, h2⟩
  · refine ⟨wishT X.K cs CL Q, fun cls d σ' H' hl ⟨D0, i, nm, e1, e2, O, hnm, hk⟩ => ?_, rfl, hc, h⟩
    subst e1 e2
    refine ⟨true, O.exm, fun _ a ha => ⟨D0, i, nm, rfl, rfl, O, hnm, ?_, hk⟩, fun z => by cases z⟩
    match σ', hl with
    | [_, _], _ => rfl
end Lk
set_option Elab.async false
set_option linter.all false
set_option maxRecDepth 100000
set_option maxHeartbeats 8000000
/-! What a law's frame does: lambdas told, lists of what was told. -/
namespace Lk
open PySem PySem.Spec PyProof.Rows L2 HotX L2H LamX
open Evl (Ev EvL EvA EvT Ex EvU)
theorem tabs_upd {T : List (Addr × Str)} {H : Hp} {l : Addr} {xs ys : List V} (t : Tabs T H) (h : H l = some (.lst xs)) : Tabs T (upd H l (.lst ys)) := fun p hp => by
  obtain ⟨ps, h1, h2, h3⟩ := t p hp
  refine ⟨ps, by rw [upd_ne (ne_of h1 h (fun z => nomatch z))]; exact h1, h2, fun pos cv hc => ?_⟩
  obtain ⟨c, e1, e2⟩ := h3 pos cv hc
  exact ⟨c, e1, by rw [upd_ne (ne_of e2 h (fun z => by unfold CodeO at z; cases z))]; exact e2⟩
theorem r_ref_upd {H : Hp} {l : Addr} {xs ys : List V} {v : V} {nm : Str} (r : R H v (refused nm)) (h : H l = some (.lst xs)) : R (upd H l (.lst ys)) v (refused nm) := by
  unfold refused at r ⊢
  cases r with
  | tup hq rs =>
    refine .tup (by rw [upd_ne (ne_of hq h (fun z => nomatch z))]; exact hq) ?_
    cases rs with
    | cons r1 t1 => cases t1 with
      | cons r2 t2 => cases t2; cases r1; cases r2; exact .cons (.str _ (by assumption)) (.cons (.str _ (by assumption)) .nil)
theorem rs_ref_upd {H : Hp} {l : Addr} {xs ys : List V} (h : H l = some (.lst xs)) : ∀ {vs : List V} {nms : List Str}, Rs H vs (nms.map refused) → Rs (upd H l (.lst ys)) vs (nms.map refused)
  | [], [], _ => .nil
  | _ :: _, _ :: _, .cons r t => .cons (r_ref_upd r h) (rs_ref_upd h t)
section
variable {K : PySem.W.Frag} {T0 : List (Addr × Str)} {cs : List Addr} {CL : Addr} {σ : St} {H Hb : Hp} {t : XK → TE} {D : Addr} {i : Nat} {nm : Str} {Q : VK} {Dn : Ends} {tz tu : TS}
/-- a lambda that is refused -/
theorem told_ev (hT : Tabs T0 H) (O : Own K cs CL D i) (hnm : wordsL[i]? = some nm) (ht : ∀ H1, ExtN H H1 → ∀ (E : XK) (Q : VK), (∀ H2, Same H1 H2 → E (.ref D) none H2) → t E σ H1 Q)
    (q : ∀ v H2, ExtN H H2 → Tabs T0 H2 → R H2 v (refused nm) → Q v H2) : tLam T0 (TTold K cs CL) t σ H Q :=
  ⟨hT, fun H1 e1 t1 => ht H1 e1 _ _ fun H2 s2 => ⟨D, i, nm, rfl, rfl, O, hnm, fun v H3 s3 r => q v H3 (e1.trans (ExtN.of (s2.trans s3))) (t1.ext (s2.trans s3)) r⟩⟩
/-- the list of what was told so far stands at l, apart from what stood in Hb -/
structure Sm (T0 : List (Addr × Str)) (Hb H : Hp) (l : Addr) (nms : List Str) : Prop where
  ex : ∃ xs, H l = some (.lst xs) ∧ Rs H xs (nms.map refused)
  ext : ExtN Hb H
  tabs : Tabs T0 H
  apart : ∀ b o, Hb b = some o → (∀ ps, o ≠ .tbl ps) → b ≠ l
theorem Sm.ofEx {l : Addr} {nms : List Str} {H' : Hp} (s : Sm T0 Hb H l nms) (e : Ex H H') : Sm T0 Hb H' l nms := by
  obtain ⟨xs, h1, h2⟩ := s.ex
  exact ⟨⟨xs, e _ _ h1, h2.ext (exN e)⟩, s.ext.trans (exN e), s.tabs.ext e, s.apart⟩
/-- some = [told] -/
theorem q_some {j : Nat} (hT : Tabs T0 H) (he : ExtN Hb H) (O : Own K cs CL D i) (hnm : wordsL[i]? = some nm) (ht : ∀ H1, ExtN H H1 → ∀ (E : XK) (Q : VK), (∀ H2, Same H1 H2 → E (.ref D) none H2) → t E σ H1 Q)
    (k : ∀ l H2, Sm T0 Hb H2 l [nm] → tz Dn (σ.set j (some (.ref l))) H2) : tSeq (tAsg (tLst (tCons (tLam T0 (TTold K cs CL) t) tNil)) (gName j)) tz Dn σ H :=
  told_ev hT O hnm ht fun v H2 e2 t2 r => ⟨Evl.sz_of (by simp), fun p hp => k p _ ⟨⟨[v], upd_same, .cons (r.ext (exN (Ex.new hp))) .nil⟩, (he.trans e2).trans (exN (Ex.new hp)), t2.ext (Ex.new hp), fun b o hb ho z => by
    have := (he.trans e2) b o hb ho
    rw [z, hp] at this
    cases this⟩⟩
/-- some.append(told) -/
theorem q_app {j : Nat} {l : Addr} {nms : List Str} (hs : σ[j]? = some (some (.ref l))) (S : Sm T0 Hb H l nms) (hz : nms.length < 1000) (O : Own K cs CL D i) (hnm : wordsL[i]? = some nm) (ht : ∀ H1, ExtN H H1 → ∀ (E : XK) (Q : VK), (∀ H2, Same H1 H2 → E (.ref D) none H2) → t E σ H1 Q)
    (k : ∀ H2, Sm T0 Hb H2 l (nms ++ [nm]) → tz Dn σ H2) : tSeq (tDrop (tBM K "list" rAppend (tVar j) (tCons (tLam T0 (TTold K cs CL) t) tNil))) tz Dn σ H := by
  obtain ⟨xs, h1, h2⟩ := S.ex
  refine ⟨_, hs, .inl ⟨rfl, xs, .inl (.inl h1)⟩, ?_⟩
  refine told_ev S.tabs O hnm ht fun v H2 e2 t2 r => ?_
  have hl2 : H2 l = some (.lst xs) := e2 _ _ h1 (fun _ z => nomatch z)
  have hx : xs.length = nms.length := by have := h2.length; rw [List.length_map] at this; exact this
  refine ⟨l, xs, v, rfl, rfl, hl2, Evl.sz_lt (by omega), k _ ⟨⟨xs ++ [v], upd_same, ?_⟩, ?_, tabs_upd t2 hl2, S.apart⟩⟩
  · rw [List.map_append]
    exact (rs_ref_upd hl2 (h2.ext e2)).append (.cons (r_ref_upd r hl2) .nil)
  · intro b o hb ho
    rw [upd_ne (S.apart b o hb ho)]
    exact (S.ext.trans e2) b o hb ho
/-- for x in [..], what is written there -/
theorem q_forD {tl : TE} {ds : List PyData} {j : Nat} (h : EvD tl σ H (.list ds)) (In : Nat → St → Hp → Prop) (h0 : ∀ H1, Ex H H1 → In 0 σ H1)
    (hs : ∀ H1 (n : Nat) x d σ' H', Ex H H1 → ds[n]? = some d → R H1 x d → ExtN H1 H' → In n σ' H' → tu { Dn with nx := fun σ2 H2 => In (n + 1) σ2 H2 ∧ ExtN H1 H2, ct := fun σ2 H2 => In (n + 1) σ2 H2 ∧ ExtN H1 H2, bk := tz Dn } (σ'.set j (some x)) H')
    (hd : ∀ σ' H', In ds.length σ' H' → tz Dn σ' H') : tSeq (tFor (iList K tl) (gName j) tu) tz Dn σ H :=
  h H (Ex.refl H) _ fun v H1 e1 r => by
    cases r with
    | @lst p xs _ hp rs =>
      refine ⟨p, rfl, ⟨xs, .inl (.inl hp)⟩, for_list (K := K) (a := p) (xs := xs) (fun n σ' H' => In n σ' H' ∧ ExtN H1 H') ⟨h0 H1 e1, ExtN.refl _⟩ (fun n σ' H' _ hh => .inl (.inl (hh.2 _ _ hp (fun _ z => nomatch z)))) (fun n x σ' H' hx hh => ?_) (fun σ' H' hh => hd σ' H' (by rw [← rs.length]; exact hh.1))⟩
      obtain ⟨d, hd', rx⟩ := rs.get' hx
      exact hs H1 n x d σ' H' e1 hd' rx hh.2 hh.1
end
theorem shaped_ref (nms : List Str) (h : nms.all PyData.strOk = true) : SeqAt.shaped (.list (nms.map refused)) = true := by
  have c : ∀ l : List Str, l.all PyData.strOk = true → PyData.canLayAll0 (l.map refused) = true ∧ PyData.depthAll (l.map refused) ≤ 1 := by
    intro l
    induction l with
    | nil => intro _; exact ⟨rfl, by decide⟩
    | cons x r ih =>
      intro hl
      rw [List.all_cons, Bool.and_eq_true] at hl
      obtain ⟨c1, c2⟩ := ih hl.2
      have hr : PyData.strOk "refused" = true := by decide +kernel
      refine ⟨by simp only [List.map_cons, refused, PyData.canLayAll0, PyData.canLay0, hl.1, hr, Bool.and_self]; simpa [refused] using c1, ?_⟩
      simp only [List.map_cons, refused, PyData.depthAll, PyData.depth]
      omega
  obtain ⟨c1, c2⟩ := c nms h
  simp only [SeqAt.shaped, PyData.canLay0, c1, Bool.true_and, PyData.depth]
  exact decide_eq_true (by omega)
end Lk
set_option Elab.async false
set_option linter.all false
set_option maxRecDepth 100000
set_option maxHeartbeats 4000000
namespace Lk
open PySem PySem.Spec PyProof.Rows L2 HotX L2H LamX
open Evl (Ev EvL EvA EvT Ex EvU)
abbrev sNeedName : Stmt := topS 15
abbrev sNeedT : Stmt := topS 27
abbrev sDeep : Stmt := topS 29
abbrev sNeedTerm : Stmt := topS 30
abbrev sNeedL : Stmt := topS 37
/-- a tuple of the written part -/
def KTup (K : PySem.W.Frag) (a : Addr) (xs : List V) : Prop := ∃ (o : Obj) (its : Array Value) (n : Nat), K.lookup a = some o ∧ o.cls = .type "tuple" ∧ o.data = .seq its n ∧ its.size ≤ sizeLine ∧ Vals xs its.toList
def readW : List Str := ["at", "there", "sum", "many"]
def twoW : List Str := ["plus", "less", "times", "same", "below"]
structure Tt (K : PySem.W.Frag) (mg : Str → Option Value) (aR aT : Addr) : Prop where
  mnum : ∃ u, mg "MOST_NUMBER" = some u ∧ RelV (.int 1000000000) u
  mwith : ∃ u, mg "MOST_WITHIN" = some u ∧ RelV (.int 8) u
  gR : mg "READING" = some (.ref aR)
  kR : KTup K aR (readW.map V.str)
  gT : mg "TWO" = some (.ref aT)
  kT : KTup K aT (twoW.map V.str)
section
variable {K : PySem.W.Frag} {σ : St} {H H' : Hp} {ta tb te : TE} {tr : TA} {d e : PyData} {ds : List PyData} {v : V} {b c : Bool} {i j : Int} {D : Ends} {tz : TS} {E : XK} {C : Addr}
theorem in_any {z : Str} {ws : List Str} : inV (.str z) (ws.map V.str) = decide (z ∈ ws) := by
  unfold inV
  rw [List.any_map]
  rw [Bool.eq_iff_iff, List.any_eq_true, decide_eq_true_iff]
  constructor
  · rintro ⟨y, hy, e⟩
    have e' : y = z := eq_of_beq (show (y == z) = true from e)
    rw [← e']
    exact hy
  · intro hz
    exact ⟨z, hz, show (z == z) = true from beq_self_eq_true z⟩
/-- z in a tuple of texts that the module holds -/
theorem ed_inK {a : Addr} {z : Str} {ws : List Str} (h1 : EvD ta σ H (.str z)) (hk : KTup K a (ws.map V.str)) : EvD (tOp (rIn K false) ta (tC (.ref a))) σ H (.bool (decide (z ∈ ws))) := fun H1 e Q q =>
  h1.ts H1 e _ fun H2 e2 => ⟨a, _, rfl, .inr (.inr hk), rfl, by simp [flatV], by
    have hh : (if false = true then !inV (.str z) (ws.map V.str) else inV (.str z) (ws.map V.str)) = decide (z ∈ ws) := in_any
    rw [hh]
    exact q _ H2 e2 (.bl _)⟩
/-- for x in t[1:] -/
theorem s_forTail {x0 : PyData} {r : List PyData} {jx : Nat} {tu : TS} (h : EvD ta σ H (.tuple (x0 :: r))) (hr : r ≠ []) (In : Nat → St → Hp → Prop) (h0 : ∀ H1, Ex H H1 → In 0 σ H1)
    (hs : ∀ H1 (n : Nat) x d σ' H', Ex H H1 → r[n]? = some d → R H1 x d → ExtN H1 H' → In n σ' H' → tu { D with nx := fun σ2 H2 => In (n + 1) σ2 H2 ∧ ExtN H1 H2, ct := fun σ2 H2 => In (n + 1) σ2 H2 ∧ ExtN H1 H2, bk := D.nx } (σ'.set jx (some x)) H')
    (hd : ∀ σ' H', In r.length σ' H' → D.nx σ' H') : tFor (iTup K (tSl (rSlA K) ta (tPart (tC (.int 1))) tNoPart)) (gName jx) tu D σ H :=
  h H (Ex.refl H) _ fun v H1 e1 rv => by
    cases rv with
    | @tup p xs _ hp rs =>
      cases rs with
      | @cons y ys _ _ r1 rs1 =>
        have hl : ys.length = r.length := rs1.length
        have hpos : 0 < r.length := List.length_pos_iff.mpr hr
        refine ⟨1, rfl, p, y :: ys, rfl, .inl (.inl hp), fun hw => ?_, fun _ q hq => ?_⟩
        · exfalso
          have z := hw.1
          have e7 : (1 : Int) = ((1 : Nat) : Int) := rfl
          rw [e7, HT.sIx_nat, List.length_cons] at z
          omega
        · have ecut : cutV (y :: ys) (some 1) none = ys := by
            have e7 : (1 : Int) = ((1 : Nat) : Int) := rfl
            unfold cutV
            rw [e7, HT.sIx_nat, HT.sIx_none, List.length_cons, Nat.min_eq_left (by omega)]
            simp
          rw [ecut]
          have hx := Ex.new (o := .tup ys) hq
          refine ⟨q, rfl, ⟨ys, .inl (.inl upd_same)⟩, for_tup (K := K) (a := q) (xs := ys) (fun n σ' H' => In n σ' H' ∧ ExtN (upd H1 q (.tup ys)) H') ⟨h0 _ (e1.trans hx), ExtN.refl _⟩ (fun n σ' H' _ hh => .inl (.inl (hh.2 _ _ upd_same (fun _ z => nomatch z)))) (fun n x σ' H' hxx hh => ?_) (fun σ' H' hh => hd σ' H' (by rw [← hl]; exact hh.1))⟩
          obtain ⟨d, hd', rx⟩ := rs1.get' hxx
          exact hs _ n x d σ' H' (e1.trans hx) hd' (rx.ext (exN hx)) hh.2 hh.1
end
def deepOk : Nat → PyData → Bool
  | n + 1, .tuple (.str z :: x :: r) =>
    if z = "num" then decide (((r.length + 2 : Nat) : Int) = 2) && isNumber 1000000000 x
    else if z ∈ readW then decide (((r.length + 2 : Nat) : Int) = 2) && isPath x
    else if z = "look" then decide (((r.length + 2 : Nat) : Int) = 2) && isWord x
    else ((decide (z ∈ twoW) && decide (((r.length + 2 : Nat) : Int) = 3)) || (decide (z = "when") && decide (((r.length + 2 : Nat) : Int) = 4))) && (x :: r).all (deepOk n)
  | _, _ => false
def headT : PyData → Bool
  | .tuple (.str _ :: _ :: _) => true
  | _ => false
def spDeep (C : Addr) (n : Nat) : Sp := fun vs H Q E => ∃ v d, vs = [v, .int (8 - (n : Int))] ∧ R H v d ∧ (deepOk n d = true → ∀ H', Same H H' → Q .non H') ∧ (deepOk n d = false → ∀ H', Same H H' → E (.ref C) none H')
section
variable {P : Program} {w : World} {K : PySem.W.Frag} {mg : Str → Option Value} {base : Heap}
theorem scNeedName : FnScope ["name"] ["name"] (defScope sNeedName) := ⟨rfl, rfl, rfl, by decide +kernel, rfl, by decide +kernel, by decide +kernel⟩
theorem ok_needName {f C : Addr} {fd : FuncData} (F : L2.Fun K "need_name" "need_name" sNeedName f fd) (hm : mg "need_name" = some (.ref f)) (hb : Binds K fd ["name"] []) (X : Xc K mg "BadPath" C) (D1 : Df P w K mg base "is_word" 1 ["thing"] (spF 1 (f1 isWord))) :
    Df P w K mg base "need_name" 2 ["name"] (spRef C isWord) := by
  refine df_of F hm hb scNeedName (fun vs H Q E h => by obtain ⟨_, _, rfl, _⟩ := h; rfl) (fun cdv A outer s H vs Q E hr h => ?_)
  obtain ⟨v, d, rfl, rd, k1, k2⟩ := h
  refine ⟨_, pss_one (ps_if (pt_not (pt_val (pe_df D1 hr (Nat.le_refl _) (by rfl) passN (pa_cons (pv 0) pa_nil)))) (pss_one (L2N.ps_raise rfl (L2N.takes_of rfl rfl rfl rfl) (L2N.pmk_own PySem.F.excBase_ValueError X.x X.g X.kp (raises_own X.sb X.ty) (by rfl)))) pss_nil), ?_⟩
  refine Evl.s_if (b := !isWord d) (Evl.et_not (et_b (ed_call (eds_cons (ed_var rfl rd) eds_nil) rfl rfl))) (fun hb H1 e1 => ?_) (fun hb H1 e1 => ?_)
  · exact k2 (by simpa using hb) H1 e1
  · exact k1 (by simpa using hb) H1 e1
theorem scNeedT : FnScope ["good"] ["good"] (defScope sNeedT) := ⟨rfl, rfl, rfl, by decide +kernel, rfl, by decide +kernel, by decide +kernel⟩
theorem scNeedL : FnScope ["good"] ["good"] (defScope sNeedL) := ⟨rfl, rfl, rfl, by decide +kernel, rfl, by decide +kernel, by decide +kernel⟩
/-- a def that stands under another name too -/
theorem df_as {x y qual : Str} {st : Stmt} {f : Addr} {fd : FuncData} {N ps : List Str} {k : Nat} {sp : Sp} (F : L2.Fun K x qual st f fd) (hm : mg y = some (.ref f)) (hb : Binds K fd ps [])
    (S : FnScope N ps (defScope st)) (len : ∀ vs H Q E, sp vs H Q E → vs.length = ps.length)
    (hbody : ∀ (cdv : Value) (A : Around) (outer : List Env) (s : Shared) (H : Hp) (vs : List V) (Q : VK) (E : XK), Room k (A.deeper (envOfC qual (defScope st) s.heap.objs.size f cdv)) → sp vs H Q E →
      ∃ t, PSs (cxOf (L2N.CX P w) P w K mg base N qual (defScope st) f cdv A outer s H E) (defBody st) t ∧ t { nx := fun _ H' => Q .non H', rt := Q } (start N vs) H) : Df P w K mg base y (k + 1) ps sp :=
  ⟨f, fd, hm, F.kp, hb, okN F S len hbody⟩
theorem ok_needT {f C : Addr} {fd : FuncData} (F : L2.Fun K "need" "need" sNeedT f fd) (hm : mg "need_terms" = some (.ref f)) (hb : Binds K fd ["good"] []) (X : Xc K mg "BadLook" C) : Df P w K mg base "need_terms" 1 ["good"] (spNeed C) := by
  refine df_as F hm hb scNeedT (fun vs H Q E h => by obtain ⟨_, rfl, _⟩ := h; rfl) (fun cdv A outer s H vs Q E hr h => ?_)
  obtain ⟨b, rfl, k1, k2⟩ := h
  refine ⟨_, pss_one (ps_if (pt_not (pt_val (pv 0))) (pss_one (L2N.ps_raise rfl (L2N.takes_of rfl rfl rfl rfl) (L2N.pmk_own PySem.F.excBase_ValueError X.x X.g X.kp (raises_own X.sb X.ty) (by rfl)))) pss_nil), ?_⟩
  refine ⟨_, rfl, b, rfl, ?_⟩
  cases b with
  | true => exact iteF (k1 rfl)
  | false => exact iteT (k2 rfl)
theorem ok_needL {f C : Addr} {fd : FuncData} (F : L2.Fun K "need" "need" sNeedL f fd) (hm : mg "need_looks" = some (.ref f)) (hb : Binds K fd ["good"] []) (X : Xc K mg "BadLook" C) : Df P w K mg base "need_looks" 1 ["good"] (spNeed C) := by
  refine df_as F hm hb scNeedL (fun vs H Q E h => by obtain ⟨_, rfl, _⟩ := h; rfl) (fun cdv A outer s H vs Q E hr h => ?_)
  obtain ⟨b, rfl, k1, k2⟩ := h
  refine ⟨_, pss_one (ps_if (pt_not (pt_val (pv 0))) (pss_one (L2N.ps_raise rfl (L2N.takes_of rfl rfl rfl rfl) (L2N.pmk_own PySem.F.excBase_ValueError X.x X.g X.kp (raises_own X.sb X.ty) (by rfl)))) pss_nil), ?_⟩
  refine ⟨_, rfl, b, rfl, ?_⟩
  cases b with
  | true => exact iteF (k1 rfl)
  | false => exact iteT (k2 rfl)
theorem scDeep : FnScope ["term", "deep", "word", "one"] ["term", "deep"] (defScope sDeep) := ⟨rfl, rfl, rfl, by decide +kernel, rfl, by decide +kernel, by decide +kernel⟩
/-- the first question of need_deep -/
theorem ed_headT {σ : St} {H : Hp} {v : V} {d : PyData} {n : Nat} (h0 : σ[0]? = some (some v)) (h1 : σ[1]? = some (some (.int (8 - (n : Int))))) (rd : R H v d) :
    EvD (tAndV (tCB (rIsD "tuple") (tCons (tVar 0) (tCons (tC (.ty "tuple")) tNil))) (tAndV (tOp (rI0 fun i j => V.bl (decide (j < i))) (tCB (Evl.rLenS K) (tCons (tVar 0) tNil)) (tC (.int 1))) (tAndV (tCB (rIsD "str") (tCons (tOp (rIxT K) (tVar 0) (tC (.int 0))) (tCons (tC (.ty "str")) tNil))) (tOp (rI0 fun i j => V.bl (decide (i < j))) (tVar 1) (tC (.int 8)))))) σ H (.bool (headT d && decide (0 < n))) := by
  refine ed_is (ed_and (c := headT d && decide (0 < n)) (ed_isi (ed_var h0 rd) (kit_tup d)) fun hs => ?_) (by cases d <;> simp [isTup, headT])
  cases rd with
  | @tup a xs ds hp rs' =>
    have rt : R H (.ref a) (.tuple ds) := .tup hp rs'
    refine ed_is (ed_and (c := headT (.tuple ds) && decide (0 < n)) (ed_I0 (i := (ds.length : Int)) (j := 1) (ed_lenQ (ed_var h0 rt) (.inl rfl)) (ed_c (.int 1)) (.bl _)) fun hlen => ?_) ?_
    · have hl : 1 < ds.length := by
        have := of_decide_eq_true hlen
        omega
      match ds, hl, rt with
      | x :: p :: r, _, rt =>
        refine ed_is (ed_and (c := headT (.tuple (x :: p :: r)) && decide (0 < n)) (ed_isi (ed_ixT (k := 0) (ed_var h0 rt) (ed_c (.int 0)) rfl) (kit_str x)) fun hstr => ?_) (by cases x <;> simp [isStr, headT])
        cases x with
        | str z =>
          refine ed_is (ed_I0 (i := 8 - (n : Int)) (j := 8) (ed_var h1 (.int _)) (ed_c (.int 8)) (.bl _)) ?_
          show PyData.bool _ = .bool (true && decide (0 < n))
          rw [Bool.true_and]
          congr 1
          rw [decide_eq_decide]
          omega
        | _ => cases hstr
    · match ds with
      | [] => rfl
      | [x] => cases x <;> rfl
      | _ :: _ :: _ =>
        show PyData.bool (decide ((1 : Int) < ((_ + 1 + 1 : Nat) : Int)) && _) = _
        rw [decide_eq_true (by omega), Bool.true_and]
  | _ => cases hs
theorem deep_head {n : Nat} {d : PyData} (h : (headT d && decide (0 < n)) = false) : deepOk n d = false := by
  cases n with
  | zero => rfl
  | succ n =>
    have h' : headT d = false := by simpa using h
    cases d with
    | tuple ds =>
      match ds, h' with
      | [], _ => rfl
      | [x], _ => cases x <;> rfl
      | x :: _ :: _, h' => cases x <;> first | rfl | cases h'
    | _ => rfl
theorem ok_deep0 {f C aR aT : Addr} {fd : FuncData} (F : L2.Fun K "need_deep" "need_deep" sDeep f fd) (hm : mg "need_deep" = some (.ref f)) (hb : Binds K fd ["term", "deep"] []) (T : Tx K mg) (TT : Tt K mg aR aT) (D0 : Df P w K mg base "need_terms" 1 ["good"] (spNeed C)) :
    Df P w K mg base "need_deep" 3 ["term", "deep"] (spDeep C 0) := by
  refine df_of F hm hb scDeep (fun vs H Q E h => by obtain ⟨_, _, rfl, _⟩ := h; rfl) (fun cdv A outer s H vs Q E hr h => ?_)
  obtain ⟨v, d, rfl, rd, k1, k2⟩ := h
  have tk := L2N.takes_of (X := cxOf (L2N.CX P w) P w K mg base ["term", "deep", "word", "one"] "need_deep" (defScope sDeep) f cdv A outer s H E) (E := E) (E₁ := fun e' s'' => L2N.CX P w outer H s E e' s'') rfl rfl rfl rfl
  refine ⟨_, pss_cons (ps_expr (pe_df D0 hr (by decide) (by rfl) (taken tk fun _ _ _ _ h => h) (pa_cons (pe_and (pe_callB (call_isD (T := "tuple")) (by rfl) T.isi boot_isinstance (pa_cons (pv 0) (pa_cons (pe_bltn (v := .ty "tuple") (by rfl) T.tup boot_tuple rfl) pa_nil)))
      (pe_and (pe_cmpR op_gt (pe_callB call_len_seq (by rfl) T.len PySem.boot_len (pa_cons (pv 0) pa_nil)) pe_int (nomark _))
      (pe_and (pe_callB (call_isD (T := "str")) (by rfl) T.isi boot_isinstance (pa_cons (pe_ix ix_tup (pv 0) pe_int (fun _ _ => rfl)) (pa_cons (pe_bltn (v := .ty "str") (by rfl) T.str boot_str rfl) pa_nil)))
      (pe_one (pe_cmpR op_lt (pv 1) (C8.pe_gc (by rfl) TT.mwith) (nomark _)))))) pa_nil))) pss_never, ?_⟩
  refine q_need (ed_headT (n := 0) rfl rfl rd) (fun hb H1 e1 => ?_) (fun hb H1 e1 => ?_)
  · simp at hb
  · exact k2 rfl H1 e1
theorem ok_deep {f C aR aT : Addr} {fd : FuncData} (F : L2.Fun K "need_deep" "need_deep" sDeep f fd) (hm : mg "need_deep" = some (.ref f)) (hb : Binds K fd ["term", "deep"] []) (T : Tx K mg) (TT : Tt K mg aR aT) (D0 : Df P w K mg base "need_terms" 1 ["good"] (spNeed C))
    (Dw : Df P w K mg base "is_word" 1 ["thing"] (spF 1 (f1 isWord))) (Dp : Df P w K mg base "is_path" 2 ["thing"] (spF 1 (f1 isPath))) (Dn : Df P w K mg base "is_number" 1 ["thing", "most"] spNumber) :
    ∀ n, Df P w K mg base "need_deep" (n + 3) ["term", "deep"] (spDeep C n)
  | 0 => ok_deep0 F hm hb T TT D0
  | n + 1 => by
    have ih := ok_deep F hm hb T TT D0 Dw Dp Dn n
    refine df_of F hm hb scDeep (fun vs H Q E h => by obtain ⟨_, _, rfl, _⟩ := h; rfl) (fun cdv A outer s H vs Q E hr h => ?_)
    obtain ⟨v, d, rfl, rd, k1, k2⟩ := h
    have tk := L2N.takes_of (X := cxOf (L2N.CX P w) P w K mg base ["term", "deep", "word", "one"] "need_deep" (defScope sDeep) f cdv A outer s H E) (E := E) (E₁ := fun e' s'' => L2N.CX P w outer H s E e' s'') rfl rfl rfl rfl
    refine ⟨_, pss_cons (ps_expr (pe_df D0 hr (by omega) (by rfl) (taken tk fun _ _ _ _ h => h) (pa_cons (pe_and (pe_callB (call_isD (T := "tuple")) (by rfl) T.isi boot_isinstance (pa_cons (pv 0) (pa_cons (pe_bltn (v := .ty "tuple") (by rfl) T.tup boot_tuple rfl) pa_nil)))
      (pe_and (pe_cmpR op_gt (pe_callB call_len_seq (by rfl) T.len PySem.boot_len (pa_cons (pv 0) pa_nil)) pe_int (nomark _))
      (pe_and (pe_callB (call_isD (T := "str")) (by rfl) T.isi boot_isinstance (pa_cons (pe_ix ix_tup (pv 0) pe_int (fun _ _ => rfl)) (pa_cons (pe_bltn (v := .ty "str") (by rfl) T.str boot_str rfl) pa_nil)))
      (pe_one (pe_cmpR op_lt (pv 1) (C8.pe_gc (by rfl) TT.mwith) (nomark _)))))) pa_nil)))
      (pss_cons (ps_set (i := 2) scDeep.nd rfl (Or.inl rfl) (pe_ix ix_tup (pv 0) pe_int (fun _ _ => rfl)))
      (pss_one (ps_if (pt_cmpR op_eq (pv 2) pe_str (nomark _))
        (pss_one (ps_expr (pe_df D0 hr (by omega) (by rfl) (taken tk fun _ _ _ _ h => h) (pa_cons (pe_and (pe_cmpR op_eq (pe_callB call_len_seq (by rfl) T.len PySem.boot_len (pa_cons (pv 0) pa_nil)) pe_int (nomark _)) (pe_one (pe_df Dn hr (by omega) (by rfl) passN (pa_cons (pe_ix ix_tup (pv 0) pe_int (fun _ _ => rfl)) (pa_cons (C8.pe_gc (by rfl) TT.mnum) pa_nil))))) pa_nil))))
      (pss_one (ps_if (pt_cmpR op_in_seq (pv 2) (C8.pe_gc (v := .ref aR) (by rfl) ⟨_, TT.gR, rfl⟩) rfl)
        (pss_one (ps_expr (pe_df D0 hr (by omega) (by rfl) (taken tk fun _ _ _ _ h => h) (pa_cons (pe_and (pe_cmpR op_eq (pe_callB call_len_seq (by rfl) T.len PySem.boot_len (pa_cons (pv 0) pa_nil)) pe_int (nomark _)) (pe_one (pe_df Dp hr (by omega) (by rfl) passN (pa_cons (pe_ix ix_tup (pv 0) pe_int (fun _ _ => rfl)) pa_nil)))) pa_nil))))
      (pss_one (ps_if (pt_cmpR op_eq (pv 2) pe_str (nomark _))
        (pss_one (ps_expr (pe_df D0 hr (by omega) (by rfl) (taken tk fun _ _ _ _ h => h) (pa_cons (pe_and (pe_cmpR op_eq (pe_callB call_len_seq (by rfl) T.len PySem.boot_len (pa_cons (pv 0) pa_nil)) pe_int (nomark _)) (pe_one (pe_df Dw hr (by omega) (by rfl) passN (pa_cons (pe_ix ix_tup (pv 0) pe_int (fun _ _ => rfl)) pa_nil)))) pa_nil))))
      (pss_cons (ps_expr (pe_df D0 hr (by omega) (by rfl) (taken tk fun _ _ _ _ h => h) (pa_cons (pe_or (pe_and (pe_cmpR op_in_seq (pv 2) (C8.pe_gc (v := .ref aT) (by rfl) ⟨_, TT.gT, rfl⟩) rfl) (pe_one (pe_cmpR op_eq (pe_callB call_len_seq (by rfl) T.len PySem.boot_len (pa_cons (pv 0) pa_nil)) pe_int (nomark _)))) (pe_one (pe_and (pe_cmpR op_eq (pv 2) pe_str (nomark _)) (pe_one (pe_cmpR op_eq (pe_callB call_len_seq (by rfl) T.len PySem.boot_len (pa_cons (pv 0) pa_nil)) pe_int (nomark _)))))) pa_nil)))
      (pss_one (ps_for (passes_of (K := fun e s'' => L2N.CX P w outer H s E e s'') (E₁ := fun e s'' => L2N.CX P w outer H s E e s'') rfl) rfl (pi_tup (pe_slice sl_tupA (pv 0) (po_some pe_int) po_none)) (pg_name (i := 3) scDeep.nd rfl (Or.inl rfl))
        (pss_one (ps_expr (pe_df ih hr (by omega) (by rfl) (taken tk fun _ _ _ _ h => h) (pa_cons (pv 3) (pa_cons (pe_op op_add (pv 1) pe_int) pa_nil))))))))))))))), ?_⟩
    refine q_need (ed_headT (n := n + 1) rfl rfl rd) (fun hb H1 e1 => ?_) (fun hb H1 e1 => k2 (deep_head hb) H1 e1)
    have hh : headT d = true := (Bool.and_eq_true .. ▸ hb).1
    cases rd with
    | @tup a xs ds hp rs' =>
      match ds, hh, hp, rs' with
      | .str z :: x :: r, _, hp, rs' =>
        have rt : R H (.ref a) (.tuple (.str z :: x :: r)) := .tup hp rs'
        have rt1 : R H1 (.ref a) (.tuple (.str z :: x :: r)) := rt.ext (exN e1)
        refine q_asgD (d := .str z) (ed_ixT (k := 0) (ed_var rfl rt1) (ed_c (.int 0)) rfl) fun vz H2 e2 rz => ?_
        cases rz with
        | str _ hz =>
        have rt2 : R H2 (.ref a) (.tuple (.str z :: x :: r)) := rt1.ext (exN e2)
        show tIfS _ _ _ _ [some (.ref a), some (.int (8 - ((n + 1 : Nat) : Int))), some (.str z), none] H2
        have elen : ∀ {H3 : Hp} (m : Int), Ex H2 H3 → EvD (tOp rEq (tCB (Evl.rLenS K) (tCons (tVar 0) tNil)) (tC (.int m))) [some (.ref a), some (.int (8 - ((n + 1 : Nat) : Int))), some (.str z), none] H3 (.bool (decide (((r.length + 2 : Nat) : Int) = m))) := fun {H3} m e3 => ed_eqI (i := ((r.length + 2 : Nat) : Int)) (ed_is (ed_lenQ (ed_var rfl (rt2.ext (exN e3))) (.inl rfl)) rfl) (ed_c (.int m))
        have e12 : Ex H H2 := e1.trans e2
        refine Evl.s_if (b := decide (z = "num")) (et_b (ed_eqS (ed_var rfl (.str z hz)) (ed_c (.str _ (by decide +kernel)))) |> fun q => q) (fun c1 H3 e3 => ?_) (fun c1 H3 e3 => ?_)
        · have c1' := of_decide_eq_true c1
          have hk : deepOk (n + 1) (.tuple (.str z :: x :: r)) = (decide (((r.length + 2 : Nat) : Int) = 2) && isNumber 1000000000 x) := by
            rw [deepOk, if_pos c1']
          exact s_need (ed_and (elen 2 e3) fun _ => ed_num (eds_cons (ed_ixT (k := 1) (ed_var rfl (rt2.ext (exN e3))) (ed_c (.int 1)) rfl) (eds_cons (ed_c (.int _)) eds_nil))) (fun h4 H4 e4 => k1 (hk.trans h4) H4 ((e12.trans e3).trans e4)) (fun h4 H4 e4 => k2 (hk.trans h4) H4 ((e12.trans e3).trans e4))
        · have c1' := of_decide_eq_false c1
          refine Evl.s_if (b := decide (z ∈ readW)) (et_b (ed_inK (ed_var rfl (.str z hz)) TT.kR)) (fun c2 H4 e4 => ?_) (fun c2 H4 e4 => ?_)
          · have c2' := of_decide_eq_true c2
            have hk : deepOk (n + 1) (.tuple (.str z :: x :: r)) = (decide (((r.length + 2 : Nat) : Int) = 2) && isPath x) := by
              rw [deepOk, if_neg c1', if_pos c2']
            exact s_need (ed_and (elen 2 (e3.trans e4)) fun _ => ed_call (eds_cons (ed_ixT (k := 1) (ed_var rfl (rt2.ext (exN (e3.trans e4)))) (ed_c (.int 1)) rfl) eds_nil) rfl rfl) (fun h5 H5 e5 => k1 (hk.trans h5) H5 ((e12.trans (e3.trans e4)).trans e5)) (fun h5 H5 e5 => k2 (hk.trans h5) H5 ((e12.trans (e3.trans e4)).trans e5))
          · have c2' := of_decide_eq_false c2
            refine Evl.s_if (b := decide (z = "look")) (et_b (ed_eqS (ed_var rfl (.str z hz)) (ed_c (.str _ (by decide +kernel))))) (fun c3 H5 e5 => ?_) (fun c3 H5 e5 => ?_)
            · have c3' := of_decide_eq_true c3
              have hk : deepOk (n + 1) (.tuple (.str z :: x :: r)) = (decide (((r.length + 2 : Nat) : Int) = 2) && isWord x) := by
                rw [deepOk, if_neg c1', if_neg c2', if_pos c3']
              have e25 := (e3.trans e4).trans e5
              exact s_need (ed_and (elen 2 e25) fun _ => ed_call (eds_cons (ed_ixT (k := 1) (ed_var rfl (rt2.ext (exN e25))) (ed_c (.int 1)) rfl) eds_nil) rfl rfl) (fun h6 H6 e6 => k1 (hk.trans h6) H6 ((e12.trans e25).trans e6)) (fun h6 H6 e6 => k2 (hk.trans h6) H6 ((e12.trans e25).trans e6))
            · have c3' := of_decide_eq_false c3
              have e25 := (e3.trans e4).trans e5
              generalize hg : ((decide (z ∈ twoW) && decide (((r.length + 2 : Nat) : Int) = 3)) || (decide (z = "when") && decide (((r.length + 2 : Nat) : Int) = 4))) = g
              have hk : deepOk (n + 1) (.tuple (.str z :: x :: r)) = (g && (x :: r).all (deepOk n)) := by
                rw [deepOk, if_neg c1', if_neg c2', if_neg c3', hg]
              refine q_need (b := g) (ed_is (ed_or (ed_and (ed_inK (ed_var rfl (.str z hz)) TT.kT) fun _ => elen 3 e25) fun _ => ed_and (ed_eqS (ed_var rfl (.str z hz)) (ed_c (.str _ (by decide +kernel)))) fun _ => elen 4 e25) (by rw [hg])) (fun h6 H6 e6 => ?_) (fun h6 H6 e6 => k2 (by rw [hk, h6]; rfl) H6 ((e12.trans e25).trans e6))
              have e06 := (e12.trans e25).trans e6
              have rt6 := rt2.ext (exN (e25.trans e6))
              refine s_forTail (ed_var rfl rt6) (by simp) (fun i σ' H' => (∃ o, σ' = [some (.ref a), some (.int (8 - ((n + 1 : Nat) : Int))), some (.str z), o]) ∧ Ex H H' ∧ ∀ (j : Nat) p, j < i → (x :: r)[j]? = some p → deepOk n p = true) (fun H7 e7 => ⟨⟨_, rfl⟩, e06.trans e7, fun j p hj => absurd hj (Nat.not_lt_zero _)⟩) (fun H7 i y d' σ' H8 e7 hd' ry x8 ⟨⟨o, e⟩, e8, hall⟩ => ?_) (fun σ' H7 ⟨⟨o, e⟩, e7, hall⟩ => ?_)
              · subst e
                refine ⟨_, rfl, _, rfl, _, _, rfl, rfl, y, d', ?_, ry.ext x8, fun hd1 H9 s9 => ?_, fun hd1 H9 s9 => ?_⟩
                · show [y, V.int (8 - ((n + 1 : Nat) : Int) + 1)] = [y, V.int (8 - (n : Int))]
                  congr 3
                  omega
                · refine ⟨⟨⟨_, rfl⟩, e8.trans s9, fun j p hj hp' => ?_⟩, x8.trans (exN s9)⟩
                  rcases Nat.lt_succ_iff_lt_or_eq.mp hj with hj | rfl
                  · exact hall j p hj hp'
                  · rw [hd'] at hp'
                    cases hp'
                    exact hd1
                · refine k2 ?_ H9 (e8.trans s9)
                  have : (x :: r).all (deepOk n) = false := by
                    rw [List.all_eq_false]
                    exact ⟨d', List.mem_of_getElem? hd', by rw [hd1]; exact Bool.false_ne_true⟩
                  rw [hk, this, Bool.and_false]
              · refine k1 ?_ H7 e7
                have : (x :: r).all (deepOk n) = true := by
                  rw [List.all_eq_true]
                  intro p hp'
                  obtain ⟨j, hj, e9⟩ := List.getElem_of_mem hp'
                  exact hall j p hj (by rw [← e9]; exact List.getElem?_eq_getElem hj)
                rw [hk, h6, this]
                rfl
    | _ => cases hh
theorem scNeedTerm : FnScope ["term"] ["term"] (defScope sNeedTerm) := ⟨rfl, rfl, rfl, by decide +kernel, rfl, by decide +kernel, by decide +kernel⟩
theorem ok_needTerm {f C : Addr} {fd : FuncData} (F : L2.Fun K "need_term" "need_term" sNeedTerm f fd) (hm : mg "need_term" = some (.ref f)) (hb : Binds K fd ["term"] []) (D : Df P w K mg base "need_deep" 11 ["term", "deep"] (spDeep C 8)) :
    Df P w K mg base "need_term" 12 ["term"] (spRef C (deepOk 8)) := by
  refine df_of F hm hb scNeedTerm (fun vs H Q E h => by obtain ⟨_, _, rfl, _⟩ := h; rfl) (fun cdv A outer s H vs Q E hr h => ?_)
  obtain ⟨v, d, rfl, rd, k1, k2⟩ := h
  have tk := L2N.takes_of (X := cxOf (L2N.CX P w) P w K mg base ["term"] "need_term" (defScope sNeedTerm) f cdv A outer s H E) (E := E) (E₁ := fun e' s'' => L2N.CX P w outer H s E e' s'') rfl rfl rfl rfl
  refine ⟨_, pss_one (ps_expr (pe_df D hr (Nat.le_refl _) (by rfl) (taken tk fun _ _ _ _ h => h) (pa_cons (pv 0) (pa_cons pe_int pa_nil)))), ?_⟩
  exact ⟨_, rfl, v, d, rfl, rd, k1, k2⟩
end
end Lk
set_option Elab.async false
set_option linter.all false
set_option maxRecDepth 100000
set_option maxHeartbeats 4000000
namespace Lk
open PySem PySem.Spec PyProof.Rows L2 HotX L2H LamX
open Evl (Ev EvL EvA EvT Ex EvU)
abbrev sTower : Stmt := topS 47
def towerD : Nat → PyData
  | 0 => .tuple [.str "at", .tuple [.str "a"]]
  | j + 1 => if j % 2 = 0 then .tuple [.str "plus", towerD j, .tuple [.str "num", .int 1]] else .tuple [.str "when", .tuple [.str "num", .int 1], towerD j, .tuple [.str "num", .int 2]]
def spTower : Sp := fun vs H Q _ => ∃ m : Nat, vs = [.int m] ∧ m ≤ 100 ∧ ∀ v H', Same H H' → R H' v (towerD m) → Q v H'
theorem ed_tower {σ : St} {H : Hp} {E : XK} {ta : TE} {m : Nat} (h : EvD ta σ H (.int m)) (hm : m ≤ 100) : EvD (tCall spTower [] E (tCons ta tNil)) σ H (towerD m) := fun H1 e Q q =>
  h.ti H1 e _ fun H2 e2 => ⟨m, rfl, hm, fun v H3 s3 r => q v H3 (e2.trans s3) r⟩
section
variable {P : Program} {w : World} {K : PySem.W.Frag} {mg : Str → Option Value} {base : Heap}
theorem scTower : FnScope ["many", "term", "j"] ["many"] (defScope sTower) := ⟨rfl, rfl, rfl, by decide +kernel, rfl, by decide +kernel, by decide +kernel⟩
theorem ok_tower {f : Addr} {fd : FuncData} (F : L2.Fun K "_law_tower" "_law_tower" sTower f fd) (hm : mg "_law_tower" = some (.ref f)) (hb : Binds K fd ["many"] []) (T : Tx K mg) : Df P w K mg base "_law_tower" 1 ["many"] spTower := by
  refine df_of F hm hb scTower (fun vs H Q E h => by obtain ⟨_, rfl, _⟩ := h; rfl) (fun cdv A outer s H vs Q E hr h => ?_)
  obtain ⟨m, rfl, hm100, k⟩ := h
  refine ⟨_, PSs.nox (pss_cons (ps_set (i := 1) scTower.nd rfl (Or.inl rfl) (pe_tup (pa_cons pe_str (pa_cons (pe_tup (pa_cons pe_str pa_nil)) pa_nil))))
    (pss_cons (ps_for PassesOwn.never rfl (pi_range1 (by rfl) T.rng (pa_cons (pv 0) pa_nil)) (pg_name (i := 2) scTower.nd rfl (Or.inl rfl))
      (pss_one (ps_set (i := 1) scTower.nd rfl (Or.inl rfl) (pe_ix ix_list (pe_lst (pa_cons (pe_tup (pa_cons pe_str (pa_cons (pv 1) (pa_cons (pe_tup (pa_cons pe_str (pa_cons pe_int pa_nil))) pa_nil)))) (pa_cons (pe_tup (pa_cons pe_str (pa_cons (pe_tup (pa_cons pe_str (pa_cons pe_int pa_nil))) (pa_cons (pv 1) (pa_cons (pe_tup (pa_cons pe_str (pa_cons pe_int pa_nil))) pa_nil))))) pa_nil))) (pe_op op_mod (pv 2) pe_int) (fun _ _ => rfl)))))
    (pss_one (ps_ret (pv 1))))), ?_⟩
  refine q_asgD (d := towerD 0) (ed_tup (eds_cons (ed_c (.str _ (by decide +kernel))) (eds_cons (ed_tup (eds_cons (ed_c (.str _ (by decide +kernel))) eds_nil) (by simp)) eds_nil)) (by simp)) fun v H1 e1 r => ?_
  refine Evl.q_forR1 (n := (m : Int)) (Evl.ea_cons (Evl.ev_var rfl) Evl.ea_nil) (by omega) (fun i σ' H' => (∃ v o, σ' = [some (.int m), some v, o] ∧ R H' v (towerD i)) ∧ Ex H H') (fun H2 e2 => ⟨⟨v, _, rfl, r.ext (exN e2)⟩, e1.trans e2⟩) (fun i σ' H2 hi ⟨⟨v, o, e, r2⟩, x2⟩ => ?_) (fun σ' H2 ⟨⟨v, o, e, r2⟩, x2⟩ => ?_)
  · subst e
    have hlt : i % 2 < 2 := Nat.mod_lt _ (by decide)
    have hmod : ((i : Nat) : Int) % 2 = ((i % 2 : Nat) : Int) := by omega
    have em : EvD (tOp (rI (fun x j => 0 < j) fun i j => V.int (i % j)) (tVar 2) (tC (.int 2))) [some (.int m), some v, some (.int i)] H2 (.int ((i % 2 : Nat) : Int)) := ed_is (d := .int ((i : Int) % 2)) (ed_I (i := (i : Int)) (j := 2) (ed_var rfl (.int _)) (ed_c (.int 2)) (by decide) (.int _)) (by rw [hmod])
    have el := ed_lst (σ := [some (.int m), some v, some (.int (i : Int))]) (eds_cons (ed_tup (eds_cons (ed_c (v := .str "plus") (.str _ (by decide +kernel))) (eds_cons (ed_var (k := 1) rfl r2) (eds_cons (ed_tup (eds_cons (ed_c (v := .str "num") (.str _ (by decide +kernel))) (eds_cons (ed_c (.int 1)) eds_nil)) (by simp)) eds_nil))) (by simp)) (eds_cons (ed_tup (eds_cons (ed_c (v := .str "when") (.str _ (by decide +kernel))) (eds_cons (ed_tup (eds_cons (ed_c (v := .str "num") (.str _ (by decide +kernel))) (eds_cons (ed_c (.int 1)) eds_nil)) (by simp)) (eds_cons (ed_var (k := 1) rfl r2) (eds_cons (ed_tup (eds_cons (ed_c (v := .str "num") (.str _ (by decide +kernel))) (eds_cons (ed_c (.int 2)) eds_nil)) (by simp)) eds_nil)))) (by simp)) eds_nil)) (by simp)
    have ee : EvD _ [some (.int m), some v, some (.int (i : Int))] H2 (towerD (i + 1)) := ed_ixL (K := K) (k := i % 2) (d := towerD (i + 1)) el em (by
      rw [towerD]
      rcases Nat.mod_two_eq_zero_or_one i with h | h
      · rw [if_pos h, h]; rfl
      · rw [if_neg (by omega), h]; rfl)
    exact ee H2 (Ex.refl _) _ fun v' H3 e3 r3 => ⟨⟨v', _, rfl, r3⟩, x2.trans e3⟩
  · subst e
    rw [Int.toNat_natCast] at r2
    exact s_retD (ed_var rfl r2) fun v' H3 e3 r3 => k v' H3 (x2.trans e3) r3
abbrev sNoTerm : Stmt := topS 46
theorem scNoTerm : FnScope ["one", "found"] [] (defScope sNoTerm) := ⟨rfl, rfl, rfl, by decide +kernel, rfl, by decide +kernel, by decide +kernel⟩
def noTerm_0 : PyData := (.tuple [(.str "num"), (.int 1)])
def noTerm_1 : List PyData := [.none, (.tuple []), (.str "at"), (.tuple [(.str "at")]), (.tuple [(.str "at"), (.str "a")]), (.tuple [(.str "at"), (.tuple [(.str "A")])]), (.tuple [(.str "at"), (.tuple [(.str "a")]), (.int 1)])]
def noTerm_2 : List PyData := noTerm_1 ++ [(.tuple [(.str "num")]), (.tuple [(.str "num"), (.bool true)]), (.tuple [(.str "num"), .none])]
def noTerm_3 : List PyData := noTerm_2 ++ [(.tuple [(.str "num"), (.int 1000000001)]), (.tuple [(.str "look"), (.str "A")]), (.tuple [(.str "look")]), (.tuple [(.str "look"), (.tuple [(.str "la")])])]
def noTerm_4 : List PyData := noTerm_3 ++ [(.tuple [(.str "plus"), noTerm_0]), (.tuple [(.str "plus"), noTerm_0, noTerm_0, noTerm_0])]
def noTerm_5 : List PyData := noTerm_4 ++ [(.tuple [(.str "when"), noTerm_0, noTerm_0]), (.tuple [(.str "same"), noTerm_0, (.int 1)]), (.list [(.str "num"), (.int 1)]), (.tuple [(.int 1), noTerm_0])]
def noTerm_6 : List PyData := noTerm_5 ++ [(.tuple [(.str "sums"), (.tuple [(.str "a")])]), (.tuple [(.str "there"), .none])]
def noTerm_7 : List PyData := noTerm_6 ++ [(.tuple [(.str "many"), (.list [(.str "a")])]), (.tuple [(.str "sum"), (.tuple [.str "a", .str "a", .str "a", .str "a", .str "a"])]), (towerD 8), (.tuple [(.str "below"), noTerm_0, .none])]
theorem ok_NoTerm {f : Addr} {fd : FuncData} (F : L2.Fun K "_law_none" "_law_none" sNoTerm f fd) (hm : mg "_law_none" = some (.ref f)) (hb : Binds K fd [] []) (Dt : Df P w K mg base "_law_tower" 1 ["many"] spTower) : Df P w K mg base "_law_none" 2 [] (spF 0 fun _ => .list noTerm_7) := by
  refine df_of F hm hb scNoTerm (spF_len rfl) (fun cdv A outer s H vs Q E hr h => ?_)
  obtain ⟨ds, rs, hl, k⟩ := h
  have e0 : ds = [] := List.length_eq_zero_iff.mp hl
  subst e0
  cases rs
  have hu := hu_of hr
  refine ⟨_, PSs.nox (pss_cons (ps_set (i := 0) scNoTerm.nd rfl (Or.inl rfl) (pe_tup (pa_cons pe_str (pa_cons pe_int pa_nil))))
    (pss_cons (ps_set (i := 1) scNoTerm.nd rfl (Or.inl rfl) (pe_lst (pa_cons pe_non (pa_cons (pe_tup pa_nil) (pa_cons pe_str (pa_cons (pe_tup (pa_cons pe_str pa_nil)) (pa_cons (pe_tup (pa_cons pe_str (pa_cons pe_str pa_nil))) (pa_cons (pe_tup (pa_cons pe_str (pa_cons (pe_tup (pa_cons pe_str pa_nil)) pa_nil))) (pa_cons (pe_tup (pa_cons pe_str (pa_cons (pe_tup (pa_cons pe_str pa_nil)) (pa_cons pe_int pa_nil)))) pa_nil)))))))))
    (pss_cons (ps_set (i := 1) scNoTerm.nd rfl (Or.inl rfl) (pe_op op_cat (pv 1) (pe_lst (pa_cons (pe_tup (pa_cons pe_str pa_nil)) (pa_cons (pe_tup (pa_cons pe_str (pa_cons pe_bl pa_nil))) (pa_cons (pe_tup (pa_cons pe_str (pa_cons pe_non pa_nil))) pa_nil))))))
    (pss_cons (ps_set (i := 1) scNoTerm.nd rfl (Or.inl rfl) (pe_op op_cat (pv 1) (pe_lst (pa_cons (pe_tup (pa_cons pe_str (pa_cons pe_int pa_nil))) (pa_cons (pe_tup (pa_cons pe_str (pa_cons pe_str pa_nil))) (pa_cons (pe_tup (pa_cons pe_str pa_nil)) (pa_cons (pe_tup (pa_cons pe_str (pa_cons (pe_tup (pa_cons pe_str pa_nil)) pa_nil))) pa_nil)))))))
    (pss_cons (ps_set (i := 1) scNoTerm.nd rfl (Or.inl rfl) (pe_op op_cat (pv 1) (pe_lst (pa_cons (pe_tup (pa_cons pe_str (pa_cons (pv 0) pa_nil))) (pa_cons (pe_tup (pa_cons pe_str (pa_cons (pv 0) (pa_cons (pv 0) (pa_cons (pv 0) pa_nil))))) pa_nil)))))
    (pss_cons (ps_set (i := 1) scNoTerm.nd rfl (Or.inl rfl) (pe_op op_cat (pv 1) (pe_lst (pa_cons (pe_tup (pa_cons pe_str (pa_cons (pv 0) (pa_cons (pv 0) pa_nil)))) (pa_cons (pe_tup (pa_cons pe_str (pa_cons (pv 0) (pa_cons pe_int pa_nil)))) (pa_cons (pe_lst (pa_cons pe_str (pa_cons pe_int pa_nil))) (pa_cons (pe_tup (pa_cons pe_int (pa_cons (pv 0) pa_nil))) pa_nil)))))))
    (pss_cons (ps_set (i := 1) scNoTerm.nd rfl (Or.inl rfl) (pe_op op_cat (pv 1) (pe_lst (pa_cons (pe_tup (pa_cons pe_str (pa_cons (pe_tup (pa_cons pe_str pa_nil)) pa_nil))) (pa_cons (pe_tup (pa_cons pe_str (pa_cons pe_non pa_nil))) pa_nil)))))
    (pss_one (ps_ret (pe_op op_cat (pv 1) (pe_lst (pa_cons (pe_tup (pa_cons pe_str (pa_cons (pe_lst (pa_cons pe_str pa_nil)) pa_nil))) (pa_cons (pe_tup (pa_cons pe_str (pa_cons (pe_op op_repT (pe_tup (pa_cons pe_str pa_nil)) pe_int) pa_nil))) (pa_cons (pe_df Dt hr (by decide) (by rfl) passN (pa_cons pe_int pa_nil)) (pa_cons (pe_tup (pa_cons pe_str (pa_cons (pv 0) (pa_cons pe_non pa_nil)))) pa_nil))))))))))))))), ?_⟩
  refine q_asgD (d := noTerm_0) (ed_is (ed_tup (eds_cons (ed_c (.str _ (by decide +kernel))) (eds_cons (ed_c (.int 1)) eds_nil)) (by simp)) rfl) fun v0 H1 e1 r_one => ?_
  refine q_asgD (d := .list noTerm_1) (ed_is (ed_lst (eds_cons (ed_c .non) (eds_cons (ed_tup eds_nil (by simp)) (eds_cons (ed_c (.str _ (by decide +kernel))) (eds_cons (ed_tup (eds_cons (ed_c (.str _ (by decide +kernel))) eds_nil) (by simp)) (eds_cons (ed_tup (eds_cons (ed_c (.str _ (by decide +kernel))) (eds_cons (ed_c (.str _ (by decide +kernel))) eds_nil)) (by simp)) (eds_cons (ed_tup (eds_cons (ed_c (.str _ (by decide +kernel))) (eds_cons (ed_tup (eds_cons (ed_c (.str _ (by decide +kernel))) eds_nil) (by simp)) eds_nil)) (by simp)) (eds_cons (ed_tup (eds_cons (ed_c (.str _ (by decide +kernel))) (eds_cons (ed_tup (eds_cons (ed_c (.str _ (by decide +kernel))) eds_nil) (by simp)) (eds_cons (ed_c (.int 1)) eds_nil))) (by simp)) eds_nil))))))) (by simp)) rfl) fun v1 H2 e2 r_found => ?_
  refine q_asgD (d := .list noTerm_2) (ed_is (ed_catL (ed_var rfl r_found) (ed_lst (eds_cons (ed_tup (eds_cons (ed_c (.str _ (by decide +kernel))) eds_nil) (by simp)) (eds_cons (ed_tup (eds_cons (ed_c (.str _ (by decide +kernel))) (eds_cons (ed_c (.bl true)) eds_nil)) (by simp)) (eds_cons (ed_tup (eds_cons (ed_c (.str _ (by decide +kernel))) (eds_cons (ed_c .non) eds_nil)) (by simp)) eds_nil))) (by simp)) (by decide +kernel)) rfl) fun v2 H3 e3 r_found => ?_
  refine q_asgD (d := .list noTerm_3) (ed_is (ed_catL (ed_var rfl r_found) (ed_lst (eds_cons (ed_tup (eds_cons (ed_c (.str _ (by decide +kernel))) (eds_cons (ed_c (.int 1000000001)) eds_nil)) (by simp)) (eds_cons (ed_tup (eds_cons (ed_c (.str _ (by decide +kernel))) (eds_cons (ed_c (.str _ (by decide +kernel))) eds_nil)) (by simp)) (eds_cons (ed_tup (eds_cons (ed_c (.str _ (by decide +kernel))) eds_nil) (by simp)) (eds_cons (ed_tup (eds_cons (ed_c (.str _ (by decide +kernel))) (eds_cons (ed_tup (eds_cons (ed_c (.str _ (by decide +kernel))) eds_nil) (by simp)) eds_nil)) (by simp)) eds_nil)))) (by simp)) (by decide +kernel)) rfl) fun v3 H4 e4 r_found => ?_
  refine q_asgD (d := .list noTerm_4) (ed_is (ed_catL (ed_var rfl r_found) (ed_lst (eds_cons (ed_tup (eds_cons (ed_c (.str _ (by decide +kernel))) (eds_cons (ed_var rfl (((r_one.ext (exN e2)).ext (exN e3)).ext (exN e4))) eds_nil)) (by simp)) (eds_cons (ed_tup (eds_cons (ed_c (.str _ (by decide +kernel))) (eds_cons (ed_var rfl (((r_one.ext (exN e2)).ext (exN e3)).ext (exN e4))) (eds_cons (ed_var rfl (((r_one.ext (exN e2)).ext (exN e3)).ext (exN e4))) (eds_cons (ed_var rfl (((r_one.ext (exN e2)).ext (exN e3)).ext (exN e4))) eds_nil)))) (by simp)) eds_nil)) (by simp)) (by decide +kernel)) rfl) fun v4 H5 e5 r_found => ?_
  refine q_asgD (d := .list noTerm_5) (ed_is (ed_catL (ed_var rfl r_found) (ed_lst (eds_cons (ed_tup (eds_cons (ed_c (.str _ (by decide +kernel))) (eds_cons (ed_var rfl ((((r_one.ext (exN e2)).ext (exN e3)).ext (exN e4)).ext (exN e5))) (eds_cons (ed_var rfl ((((r_one.ext (exN e2)).ext (exN e3)).ext (exN e4)).ext (exN e5))) eds_nil))) (by simp)) (eds_cons (ed_tup (eds_cons (ed_c (.str _ (by decide +kernel))) (eds_cons (ed_var rfl ((((r_one.ext (exN e2)).ext (exN e3)).ext (exN e4)).ext (exN e5))) (eds_cons (ed_c (.int 1)) eds_nil))) (by simp)) (eds_cons (ed_lst (eds_cons (ed_c (.str _ (by decide +kernel))) (eds_cons (ed_c (.int 1)) eds_nil)) (by simp)) (eds_cons (ed_tup (eds_cons (ed_c (.int 1)) (eds_cons (ed_var rfl ((((r_one.ext (exN e2)).ext (exN e3)).ext (exN e4)).ext (exN e5))) eds_nil)) (by simp)) eds_nil)))) (by simp)) (by decide +kernel)) rfl) fun v5 H6 e6 r_found => ?_
  refine q_asgD (d := .list noTerm_6) (ed_is (ed_catL (ed_var rfl r_found) (ed_lst (eds_cons (ed_tup (eds_cons (ed_c (.str _ (by decide +kernel))) (eds_cons (ed_tup (eds_cons (ed_c (.str _ (by decide +kernel))) eds_nil) (by simp)) eds_nil)) (by simp)) (eds_cons (ed_tup (eds_cons (ed_c (.str _ (by decide +kernel))) (eds_cons (ed_c .non) eds_nil)) (by simp)) eds_nil)) (by simp)) (by decide +kernel)) rfl) fun v6 H7 e7 r_found => ?_
  exact s_retD (d := .list noTerm_7) (ed_is (ed_catL (ed_var rfl r_found) (ed_lst (eds_cons (ed_tup (eds_cons (ed_c (.str _ (by decide +kernel))) (eds_cons (ed_lst (eds_cons (ed_c (.str _ (by decide +kernel))) eds_nil) (by simp)) eds_nil)) (by simp)) (eds_cons (ed_tup (eds_cons (ed_c (.str _ (by decide +kernel))) (eds_cons (EvD.ofU (eu_repT (n := 5) (Evl.eu_tup (vs := [V.str "a"]) (Evl.ea_cons Evl.ev_c Evl.ea_nil) (by decide)) (by simp) (by decide) (by decide) (by decide)) (.cons (.str _ (by decide +kernel)) (.cons (.str _ (by decide +kernel)) (.cons (.str _ (by decide +kernel)) (.cons (.str _ (by decide +kernel)) (.cons (.str _ (by decide +kernel)) .nil)))))) eds_nil)) (by simp)) (eds_cons (ed_tower (m := 8) (ed_c (.int 8)) (by decide)) (eds_cons (ed_tup (eds_cons (ed_c (.str _ (by decide +kernel))) (eds_cons (ed_var rfl ((((((r_one.ext (exN e2)).ext (exN e3)).ext (exN e4)).ext (exN e5)).ext (exN e6)).ext (exN e7))) (eds_cons (ed_c .non) eds_nil))) (by simp)) eds_nil)))) (by simp)) (by decide +kernel)) rfl) fun v9 H9 e9 r9 => k v9 H9 (((((((e1.trans e2).trans e3).trans e4).trans e5).trans e6).trans e7).trans e9) r9
end
end Lk
set_option Elab.async false
set_option linter.all false
set_option maxRecDepth 100000
set_option maxHeartbeats 4000000
namespace Lk
open PySem PySem.Spec PyProof.Rows L2 HotX L2H LamX
open Evl (Ev EvL EvA EvT Ex EvU)
abbrev sLooksIn : Stmt := topS 35
/-! ### the looks that stand in a term -/
def firstS : List PyData → List Str
  | .str x :: _ => [x]
  | _ => []
def firstB : List PyData → Bool
  | .str _ :: _ => true
  | _ => false
def lkMem : Nat → PyData → List Str
  | n + 1, .tuple (.str z :: r) => if z = "look" then firstS r else if z ∈ twoW ∨ z = "when" then r.flatMap (lkMem n) else []
  | _, _ => []
def lkOk : Nat → PyData → Bool
  | n + 1, .tuple (.str z :: r) => if z = "look" then firstB r else if z ∈ twoW ∨ z = "when" then !r.isEmpty && r.all (lkOk n) else true
  | _, _ => false
structure Found (ys : List Str) (ms : List Str) : Prop where
  srt : sortedS ys = true
  nd : ys.Nodup
  mem : ∀ z, z ∈ ys ↔ z ∈ ms
  len : ys.length ≤ ms.length
  sz : ∀ z ∈ ys, z.length ≤ 100000
def spLooks (n : Nat) : Sp := fun vs H Q _ => ∃ v d, vs = [v] ∧ R H v d ∧ lkOk n d = true ∧ (lkMem n d).length < 64 ∧ ∀ ys p H', Same H H' → H' p = some (.lst (ys.map V.str)) → Found ys (lkMem n d) → Q (.ref p) H'
/-- a dict of texts, all True -/
def dkT (ks : List Str) : List (Key × V) := ks.map fun z => (Sum.inr z, V.bl true)
theorem put_dkT (ks : List Str) (z : Str) : putK (dkT ks) (Sum.inr z) (V.bl true) = dkT (if z ∈ ks then ks else ks ++ [z]) := by
  unfold putK
  by_cases h : z ∈ ks
  · have h1 : ((dkT ks).any fun kv => decide (kv.1 = Sum.inr z)) = true := by
      rw [List.any_eq_true]
      exact ⟨(Sum.inr z, V.bl true), List.mem_map.mpr ⟨z, h, rfl⟩, decide_eq_true rfl⟩
    rw [if_pos h1, if_pos h]
    unfold dkT
    rw [List.map_map]
    refine List.map_congr_left fun y _ => ?_
    show (if (Sum.inr y : Key) = Sum.inr z then ((Sum.inr y : Key), V.bl true) else ((Sum.inr y : Key), V.bl true)) = _
    split <;> rfl
  · have h1 : ¬ ((dkT ks).any fun kv => decide (kv.1 = Sum.inr z)) = true := by
      rw [List.any_eq_true]
      rintro ⟨kv, hm, e⟩
      obtain ⟨y, hy, rfl⟩ := List.mem_map.mp hm
      have e' : (Sum.inr y : Key) = Sum.inr z := of_decide_eq_true e
      cases e'
      exact h hy
    rw [if_neg h1, if_neg h]
    unfold dkT
    rw [List.map_append]
    rfl
theorem dkT_fst (ks : List Str) : (dkT ks).map (·.1) = ks.map Sum.inr := by unfold dkT; rw [List.map_map]; rfl
theorem dkT_len (ks : List Str) : (dkT ks).length = ks.length := List.length_map ..
/-- what was gathered so far -/
structure Gath (ks ms : List Str) : Prop where
  nd : ks.Nodup
  mem : ∀ z, z ∈ ks ↔ z ∈ ms
  len : ks.length ≤ ms.length
  sz : ∀ z ∈ ks, z.length ≤ 100000
theorem Gath.put {ks ms : List Str} {z : Str} (g : Gath ks ms) (hz : z.length ≤ 100000) : Gath (if z ∈ ks then ks else ks ++ [z]) (ms ++ [z]) := by
  by_cases h : z ∈ ks
  · rw [if_pos h]
    refine ⟨g.nd, fun y => ?_, by have := g.len; rw [List.length_append]; omega, g.sz⟩
    rw [List.mem_append, List.mem_singleton]
    exact ⟨fun hy => .inl ((g.mem y).mp hy), fun hy => hy.elim (fun q => (g.mem y).mpr q) fun q => q ▸ h⟩
  · rw [if_neg h]
    refine ⟨?_, fun y => ?_, by have := g.len; rw [List.length_append, List.length_append]; simp; omega, fun y hy => ?_⟩
    · rw [List.nodup_append]
      exact ⟨g.nd, by simp, fun a ha b hb e => by rw [List.mem_singleton] at hb; subst hb; subst e; exact h ha⟩
    · rw [List.mem_append, List.mem_append, List.mem_singleton, g.mem]
    · rw [List.mem_append, List.mem_singleton] at hy
      exact hy.elim (g.sz y) fun q => q ▸ hz
theorem Gath.is {ks ms ms' : List Str} (g : Gath ks ms) (h1 : ∀ z, z ∈ ms ↔ z ∈ ms') (h2 : ms.length ≤ ms'.length) : Gath ks ms' := ⟨g.nd, fun z => (g.mem z).trans (h1 z), Nat.le_trans g.len h2, g.sz⟩
theorem flat_len {α β : Type} {f : α → List β} : ∀ {l : List α} {x : α}, x ∈ l → (f x).length ≤ (l.flatMap f).length
  | y :: r, x, h => by
    rw [List.flatMap_cons, List.length_append]
    rcases List.mem_cons.mp h with rfl | h
    · omega
    · have := flat_len (f := f) h
      omega
theorem take_one {α : Type} {l : List α} {i : Nat} {x : α} (h : l[i]? = some x) : l.take (i + 1) = l.take i ++ [x] := by
  rw [List.take_succ, h]
  rfl
section
variable {K : PySem.W.Frag} {σ : St} {H : Hp} {D : Ends} {tu : TS} {ta : TE}
/-- for x in t[1:], its values -/
theorem s_forTailV {a : Addr} {y : V} {ys : List V} {jx : Nat} (h : Ev ta σ H (.ref a)) (ha : H a = some (.tup (y :: ys))) (hne : ys ≠ []) (In : Addr → Nat → St → Hp → Prop) (h0 : ∀ H1 q, Ex H H1 → H1 q = none → In q 0 σ (upd H1 q (.tup ys)))
    (hl : ∀ q n σ' H', In q n σ' H' → H' q = some (.tup ys))
    (hs : ∀ q n x σ' H', ys[n]? = some x → In q n σ' H' → tu { D with nx := In q (n + 1), ct := In q (n + 1), bk := D.nx } (σ'.set jx (some x)) H')
    (hd : ∀ q σ' H', In q ys.length σ' H' → D.nx σ' H') : tFor (iTup K (tSl (rSlA K) ta (tPart (tC (.int 1))) tNoPart)) (gName jx) tu D σ H :=
  h H (Ex.refl H) _ fun H1 e1 => by
    have hpos : 0 < ys.length := List.length_pos_iff.mpr hne
    refine ⟨1, rfl, a, y :: ys, rfl, .inl (.inl (e1 _ _ ha)), fun hw => ?_, fun _ q hq => ?_⟩
    · exfalso
      have z := hw.1
      have e7 : (1 : Int) = ((1 : Nat) : Int) := rfl
      rw [e7, HT.sIx_nat, List.length_cons] at z
      omega
    · have ecut : cutV (y :: ys) (some 1) none = ys := by
        have e7 : (1 : Int) = ((1 : Nat) : Int) := rfl
        unfold cutV
        rw [e7, HT.sIx_nat, HT.sIx_none, List.length_cons, Nat.min_eq_left (by omega)]
        simp
      rw [ecut]
      exact ⟨q, rfl, ⟨ys, .inl (.inl upd_same)⟩, for_tup (K := K) (a := q) (xs := ys) (In q) (h0 H1 q e1 hq) (fun n σ' H' _ hh => .inl (.inl (hl q n σ' H' hh))) (fun n x σ' H' hx hh => hs q n x σ' H' hx hh) (fun σ' H' hh => hd q σ' H' hh)⟩
end
theorem same_upd {H0 H : Hp} {p : Addr} {o : HO} (s : Same H0 H) (hp : H0 p = none) : Same H0 (upd H p o) := fun b u hb => by
  by_cases z : b = p
  · rw [z, hp] at hb
    cases hb
  · rw [upd_ne z]
    exact s b u hb
section
variable {P : Program} {w : World} {K : PySem.W.Frag} {mg : Str → Option Value} {base : Heap}
theorem scLooksIn : FnScope ["term", "found", "one", "name"] ["term"] (defScope sLooksIn) := ⟨rfl, rfl, rfl, by decide +kernel, rfl, by decide +kernel, by decide +kernel⟩
theorem ok_looksIn {f aR aT : Addr} {fd : FuncData} (F : L2.Fun K "looks_in" "looks_in" sLooksIn f fd) (hm : mg "looks_in" = some (.ref f)) (hb : Binds K fd ["term"] []) (T : Tx K mg) (TT : Tt K mg aR aT) (srt : mg "sorted" = none) :
    ∀ n, Df P w K mg base "looks_in" (n + 1) ["term"] (spLooks n)
  | 0 => df_of F hm hb scLooksIn (fun vs H Q E h => by obtain ⟨_, _, rfl, _⟩ := h; rfl) (fun cdv A outer s H vs Q E hr h => by
      obtain ⟨v, d, rfl, rd, hok, _⟩ := h
      cases hok)
  | n + 1 => by
    have ih := ok_looksIn F hm hb T TT srt n
    refine df_of F hm hb scLooksIn (fun vs H Q E h => by obtain ⟨_, _, rfl, _⟩ := h; rfl) (fun cdv A outer s H vs Q E hr h => ?_)
    obtain ⟨v, d, rfl, rd, hok, hlen, k⟩ := h
    have hu := hu_of hr
    refine ⟨_, PSs.nox (pss_cons (ps_if (pt_cmpR op_eq (pe_ix ix_tup (pv 0) pe_int (fun _ _ => rfl)) pe_str (nomark _)) (pss_one (ps_ret (pe_lst (pa_cons (pe_ix ix_tup (pv 0) pe_int (fun _ _ => rfl)) pa_nil)))) pss_nil)
      (pss_cons (ps_set (i := 1) scLooksIn.nd rfl (Or.inl rfl) pe_dnewK)
      (pss_cons (ps_if (PW.pt (pw_or (pt_cmpR op_in_seq (pe_ix ix_tup (pv 0) pe_int (fun _ _ => rfl)) (C8.pe_gc (v := .ref aT) (by rfl) ⟨_, TT.gT, rfl⟩) rfl) (pw_or1 (pt_cmpR op_eq (pe_ix ix_tup (pv 0) pe_int (fun _ _ => rfl)) pe_str (nomark _)))))
        (pss_one (ps_for PassesOwn.never rfl (pi_tup (pe_slice sl_tupA (pv 0) (po_some pe_int) po_none)) (pg_name (i := 2) scLooksIn.nd rfl (Or.inl rfl))
          (pss_one (ps_for PassesOwn.never rfl (pi_list (pe_df ih hr (by omega) (by rfl) passN (pa_cons (pv 2) pa_nil))) (pg_name (i := 3) scLooksIn.nd rfl (Or.inl rfl))
            (pss_one (ps_dput hu (pv 1) (pv 3) pe_bl rfl)))))) pss_nil)
      (pss_one (ps_ret (pe_callB (call_sortedD rfl) (by rfl) srt (by decide +kernel) (pa_cons (pv 1) pa_nil))))))), ?_⟩
    cases rd with
    | @tup a xs ds hp rs' =>
      match ds, hok, hp, rs', hlen, k with
      | .str z :: r, hok, hp, rs', hlen, k =>
        have rt : R H (.ref a) (.tuple (.str z :: r)) := .tup hp rs'
        obtain ⟨y, ys, rfl, hy0, ry, rys⟩ : ∃ y ys, xs = y :: ys ∧ True ∧ R H y (.str z) ∧ Rs H ys r := by
          cases rs' with
          | cons r1 r2 => exact ⟨_, _, rfl, trivial, r1, r2⟩
        show tSeq _ _ _ [some (.ref a), none, none, none] H
        refine Evl.q_when (b := decide (z = "look")) (et_b (ed_eqS (ed_ixT (k := 0) (ed_var rfl rt) (ed_c (.int 0)) rfl) (ed_c (.str _ (by decide +kernel))))) (fun c1 H1 e1 => ?_) (fun c1 H1 e1 => ?_)
        · have c1' := of_decide_eq_true c1
          rw [lkOk, if_pos c1'] at hok
          match r, rys, hok, hlen, k, rt with
          | .str x :: r', rys, _, hlen, k, rt =>
            have hm : lkMem (n + 1) (.tuple (.str z :: .str x :: r')) = [x] := by rw [lkMem, if_pos c1']; rfl
            refine (ed_ixT (K := K) (k := 1) (d := .str x) (ed_var (k := 0) (v := .ref a) rfl (rt.ext (exN e1))) (ed_c (.int 1)) rfl).ts H1 (Ex.refl _) _ fun H2 e2 => ⟨Evl.sz_of (by simp), fun p hp2 => ?_⟩
            have hx : x.length ≤ 100000 := by
              cases rys with
              | cons q _ => cases q with
                | str _ h => exact h
            refine k [x] p _ (same_upd (e1.trans e2) (Evl.fresh_back (e1.trans e2) hp2)) upd_same ?_
            rw [hm]
            exact ⟨rfl, by simp, fun _ => Iff.rfl, Nat.le_refl _, fun z hz => by rw [List.mem_singleton] at hz; subst hz; exact hx⟩
        · have c1' := of_decide_eq_false c1
          intro pf hpf
          have hpf0 : H pf = none := Evl.fresh_back e1 hpf
          have s2 : Same H (upd H1 pf (.dK [])) := same_upd e1 hpf0
          generalize hH2 : upd H1 pf (.dK []) = H2 at s2
          have h2f : H2 pf = some (.dK (dkT [])) := by rw [← hH2]; exact upd_same
          have a2 : H2 a = some (.tup (y :: ys)) := s2 _ _ hp
          have rt2 : R H2 (.ref a) (.tuple (.str z :: r)) := rt.ext (exN s2)
          show tSeq _ _ _ [some (.ref a), some (.ref pf), none, none] H2
          have fin : ∀ (σ' : St) (H3 : Hp) (ks : List Str), σ'[1]? = some (some (.ref pf)) → Same H H3 → H3 pf = some (.dK (dkT ks)) → Gath ks (lkMem (n + 1) (.tuple (.str z :: r))) → tRet (tCB (fun xs H Q => ∃ (a : Addr) (kvs : List (Key × V)) (ks : List Str), xs = [.ref a] ∧ Rd H a (.dK kvs) ∧ kvs.map (·.1) = ks.map Sum.inr ∧ ks.length < 64 ∧ ∀ ys p, ys.Perm ks → sortedS ys = true → H p = none → Q (.ref p) (upd H p (.lst (ys.map V.str)))) (tCons (tVar 1) tNil)) { nx := fun x H' => Q V.non H', rt := Q } σ' H3 := fun σ' H3 ks h1 s3 h3 g => by
            refine ⟨_, h1, pf, _, ks, rfl, .inl h3, dkT_fst ks, Nat.lt_of_le_of_lt g.len hlen, fun ys' p hperm hsrt hp3 => ?_⟩
            have hp0 : H p = none := Evl.fresh_back s3 hp3
            refine k ys' p _ (same_upd s3 hp0) upd_same ⟨hsrt, hperm.nodup_iff.mpr g.nd, fun x => (hperm.mem_iff).trans (g.mem x), ?_, fun x hx => g.sz x (hperm.mem_iff.mp hx)⟩
            rw [hperm.length_eq]
            exact g.len
          refine Evl.q_if (b := decide (z ∈ twoW) || decide (z = "when")) (Evl.et_or (et_b (ed_inK (ed_ixT (k := 0) (ed_var rfl rt2) (ed_c (.int 0)) rfl) TT.kT)) fun _ => et_b (ed_eqS (ed_ixT (k := 0) (ed_var rfl rt2) (ed_c (.int 0)) rfl) (ed_c (.str _ (by decide +kernel))))) (fun c2 H3 e3 => ?_) (fun c2 H3 e3 => ?_)
          · have c2' : z ∈ twoW ∨ z = "when" := by simpa using c2
            have hm : lkMem (n + 1) (.tuple (.str z :: r)) = r.flatMap (lkMem n) := by rw [lkMem, if_neg c1', if_pos c2']
            rw [lkOk, if_neg c1', if_pos c2', Bool.and_eq_true] at hok
            have hne : r ≠ [] := by
              intro z
              rw [z] at hok
              cases hok.1
            have hall := List.all_eq_true.mp hok.2
            have hyl : ys.length = r.length := rys.length
            have h3f : H3 pf = some (.dK (dkT [])) := e3 _ _ h2f
            have s3 : Same H H3 := s2.trans e3
            refine s_forTailV (Evl.ev_var rfl) (e3 _ _ a2) (by intro z; rw [z] at hyl; exact hne (List.length_eq_zero_iff.mp hyl.symm)) (fun q i σ' H' => (∃ o2 o3, σ' = [some (.ref a), some (.ref pf), o2, o3]) ∧ Same H H' ∧ H' q = some (.tup ys) ∧ H q = none ∧ q ≠ pf ∧ ∃ ks, H' pf = some (.dK (dkT ks)) ∧ Gath ks ((r.take i).flatMap (lkMem n)))
              (fun H4 q e4 hq => ⟨⟨_, _, rfl⟩, same_upd (s3.trans e4) (Evl.fresh_back (s3.trans e4) hq), upd_same, Evl.fresh_back (s3.trans e4) hq, (fun z => by rw [z, e4 _ _ h3f] at hq; cases hq), [], by rw [upd_ne (fun z => by rw [← z, e4 _ _ h3f] at hq; cases hq)]; exact e4 _ _ h3f, ⟨.nil, by simp, Nat.le_refl _, by simp⟩⟩)
              (fun q i σ' H' h => h.2.2.1) (fun q i x σ' H4 hx ⟨⟨o2, o3, e⟩, s4, hq, hq0, hqp, ks, hks, g⟩ => ?_) (fun q σ' H4 ⟨⟨o2, o3, e⟩, s4, hq, hq0, hqp, ks, hks, g⟩ => ?_)
            · subst e
              obtain ⟨d', hd', rx⟩ := rys.get' hx
              have hmem := List.mem_of_getElem? hd'
              have hlt : (lkMem n d').length < 64 := by
                have h1 := flat_len (f := lkMem n) hmem
                rw [hm] at hlen
                omega
              show tFor _ _ _ _ [some (.ref a), some (.ref pf), some x, o3] H4
              refine ⟨_, rfl, x, d', rfl, rx.ext (exN s4), hall d' hmem, hlt, fun zs p5 H5 s5 hp5 fd5 => ⟨p5, rfl, ⟨_, .inl (.inl hp5)⟩, ?_⟩⟩
              have hpp : p5 ≠ pf := fun z => by
                rw [z, s5 _ _ hks] at hp5
                cases hp5
              refine for_list (K := K) (a := p5) (xs := zs.map V.str) (fun j σ' H' => (∃ o3, σ' = [some (.ref a), some (.ref pf), some x, o3]) ∧ Same H H' ∧ H' q = some (.tup ys) ∧ H' p5 = some (.lst (zs.map V.str)) ∧ ∃ ks, H' pf = some (.dK (dkT ks)) ∧ Gath ks ((r.take i).flatMap (lkMem n) ++ zs.take j)) ?_ (fun j σ' H' _ h => .inl (.inl h.2.2.2.1)) (fun j u σ' H6 hu ⟨⟨o, e⟩, s6, hq6, hp6, ks6, hks6, g6⟩ => ?_) (fun σ' H6 ⟨⟨o, e⟩, s6, hq6, hp6, ks6, hks6, g6⟩ => ?_)
              · refine ⟨⟨_, rfl⟩, s4.trans s5, s5 _ _ hq, hp5, ks, s5 _ _ hks, ?_⟩
                rw [List.take_zero, List.append_nil]
                exact g
              · subst e
                obtain ⟨zz, hzz, rfl⟩ : ∃ zz, zs[j]? = some zz ∧ u = V.str zz := by
                  rw [List.getElem?_map] at hu
                  cases e : zs[j]? with
                  | none => rw [e] at hu; cases hu
                  | some zz => rw [e] at hu; exact ⟨zz, rfl, (Option.some.inj hu).symm⟩
                have hzl := fd5.sz zz (List.mem_of_getElem? hzz)
                have hkl : (dkT ks6).length < sizeLine := by
                  rw [dkT_len]
                  refine Nat.lt_of_le_of_lt g6.len (small1000 ?_)
                  have h1 := flat_len (f := lkMem n) hmem
                  have h3 : ((r.take i).flatMap (lkMem n)).length ≤ (r.flatMap (lkMem n)).length := by
                    conv => rhs; rw [← List.take_append_drop i r, List.flatMap_append, List.length_append]
                    omega
                  have h4 : (zs.take j).length ≤ zs.length := by rw [List.length_take]; omega
                  have h5 := fd5.len
                  rw [hm] at hlen
                  rw [List.length_append]
                  omega
                refine ⟨_, rfl, _, rfl, pf, _, rfl, DPut.k (k := Sum.inr zz) hks6 hkl, ?_⟩
                rw [put_dkT]
                refine ⟨⟨_, rfl⟩, same_upd s6 hpf0, by rw [upd_ne hqp]; exact hq6, by rw [upd_ne hpp]; exact hp6, _, upd_same, ?_⟩
                rw [take_one hzz, ← List.append_assoc]
                exact g6.put hzl
              · subst e
                refine ⟨⟨_, _, rfl⟩, s6, hq6, hq0, hqp, ks6, hks6, ?_⟩
                rw [List.length_map, List.take_length] at g6
                rw [take_one hd', List.flatMap_append]
                refine g6.is (fun z => ?_) ?_
                · rw [List.mem_append, List.mem_append, fd5.mem z]
                  simp
                · rw [List.length_append, List.length_append]
                  have := fd5.len
                  simp
                  omega
            · subst e
              rw [hyl, List.take_length, ← hm] at g
              exact fin _ H4 ks rfl s4 hks g
          · have c2' : ¬ (z ∈ twoW ∨ z = "when") := by simpa using c2
            have hm : lkMem (n + 1) (.tuple (.str z :: r)) = [] := by rw [lkMem, if_neg c1', if_neg c2']
            exact fin _ H3 [] rfl (s2.trans e3) (e3 _ _ h2f) (by rw [hm]; exact ⟨.nil, by simp, Nat.le_refl _, by simp⟩)
    | _ => cases hok
end
end Lk
set_option Elab.async false
set_option linter.all false
set_option maxRecDepth 100000
set_option maxHeartbeats 4000000
namespace Lk
open PySem PySem.Spec PyProof.Rows L2 HotX L2H LamX
open Evl (Ev EvL EvA EvT Ex EvU)
abbrev sWorth : Stmt := topS 34
abbrev sKInit : Stmt := inClass (topS 39) 0
abbrev sInit : Stmt := inClass (topS 40) 0
abbrev sDefine : Stmt := inClass (topS 40) 1
abbrev sNames : Stmt := inClass (topS 40) 2
abbrev sShow : Stmt := inClass (topS 40) 3
abbrev sIsFresh : Stmt := inClass (topS 40) 5
abbrev sWorkOut : Stmt := inClass (topS 40) 6
abbrev sValue : Stmt := inClass (topS 40) 7
abbrev sReadings : Stmt := inClass (topS 40) 9
/-! ### methods -/
structure Md (P : Program) (w : World) (K : PySem.W.Frag) (mg : Str → Option Value) (base : Heap) (C : Addr) (m : Str) (k : Nat) (ps : List Str) (sp : Sp) : Prop where
  ex : ∃ (f : Addr) (fd : FuncData), Meth K C m f ∧ Binds K fd ps [] ∧ FnOk P w K mg base (L2N.CX P w) k f fd ps sp
section
variable {X : Cx} {k j : Nat} {m : Str} {C : Addr} {ps : List Str} {sp : Sp} {E : XK} {apos pos : Pos} {o e : Expr} {es : List Expr} {ta : TE} {t : TA}
theorem pe_md {pl : Sem Bool} (he : PE X o ta) (c : Cls X.K C) (F : Md X.prog X.w X.K X.mg X.base C m k ps sp) (hr : Room j X.A) (hk : k ≤ j) (hx : Passes (L2N.CX X.prog X.w) X E) (ha : PA X (e :: es) t)
    (hst : starEach (e :: es) X.env = (false, eval e X.env) :: starEach es X.env := by rfl) (hpl : (backTo pos (starEach es X.env)).any (·.1) = false := by rfl)
    (ht : eval (.Call (.Attribute o m apos) (e :: es) [] pos) X.env = (do
      let ov ← eval o X.env
      standAt apos.atName
      let (f, first) ← holding [ov] (getMethod ov m pl)
      callWith pos f first (backTo pos (starEach (e :: es) X.env)) (backToKw pos (keywordEach [] X.env))) := by rfl) :
    PE X (.Call (.Attribute o m apos) (e :: es) [] pos) (tMeth C m sp [] E ta t) := by
  obtain ⟨f, fd, hm, hb, F⟩ := F.ex
  exact pe_meth he c hm F (hr.mono hk) hb .nil hx ha hst hpl ht
theorem pe_md0 {pl : Sem Bool} (he : PE X o ta) (c : Cls X.K C) (F : Md X.prog X.w X.K X.mg X.base C m k ps sp) (hr : Room j X.A) (hk : k ≤ j) (hx : Passes (L2N.CX X.prog X.w) X E)
    (ht : eval (.Call (.Attribute o m apos) [] [] pos) X.env = (do
      let ov ← eval o X.env
      standAt apos.atName
      let (f, first) ← holding [ov] (getMethod ov m pl)
      callWith pos f first (backTo pos (starEach [] X.env)) (backToKw pos (keywordEach [] X.env))) := by rfl) :
    PE X (.Call (.Attribute o m apos) [] [] pos) (tMeth C m sp [] E ta tNil) := by
  obtain ⟨f, fd, hm, hb, F⟩ := F.ex
  exact pe_meth0 he c hm F (hr.mono hk) hb .nil hx ht
end
/-! ### how a book of looks lies in the heap -/
def lkF (a1 a2 a3 a4 : Addr) : List (Str × V) := [("now", .ref a1), ("terms", .ref a2), ("known", .ref a3), ("done", .ref a4)]
structure LkAt (C : Addr) (H : Hp) (x dx a1 a2 a3 a4 : Addr) (ks : List (Key × V)) : Prop where
  i : H x = some (.ins C dx (lkF a1 a2 a3 a4))
  t : H a2 = some (.dK ks)
  n : H a3 = some (.dK [])
  d : H a4 = some (.lst [])
  ne : a2 ≠ a3
theorem LkAt.ext {C : Addr} {H H' : Hp} {x dx a1 a2 a3 a4 : Addr} {ks : List (Key × V)} (l : LkAt C H x dx a1 a2 a3 a4 ks) (e : ExtN H H') : LkAt C H' x dx a1 a2 a3 a4 ks :=
  ⟨e _ _ l.i (fun _ z => nomatch z), e _ _ l.t (fun _ z => nomatch z), e _ _ l.n (fun _ z => nomatch z), e _ _ l.d (fun _ z => nomatch z), l.ne⟩
theorem lk_here {k : Str} {v : V} {r : List (Str × V)} : List.lookup k ((k, v) :: r) = some v := by
  have e : (k == k) = true := beq_self_eq_true k
  simp only [List.lookup, e]
theorem lk_past {k g : Str} {v : V} {r : List (Str × V)} (h : (k == g) = false) : List.lookup k ((g, v) :: r) = List.lookup k r := by
  simp only [List.lookup, h]
theorem put_here {f : Str} {v x : V} {r : List (Str × V)} : putF f v ((f, x) :: r) = (f, v) :: r := if_pos rfl
theorem put_past {f g : Str} {v x : V} {r : List (Str × V)} (h : ¬ g = f) : putF f v ((g, x) :: r) = (g, x) :: putF f v r := if_neg h
theorem putF_len {f : Str} {v : V} : ∀ (fs : List (Str × V)), (putF f v fs).length ≤ fs.length + 1
  | [] => Nat.le_refl _
  | (g, x) :: r => by
    show (if g = f then (g, v) :: r else (g, x) :: putF f v r).length ≤ r.length + 1 + 1
    split
    · simp
    · have := putF_len (f := f) (v := v) r
      rw [List.length_cons]
      omega
theorem put_few {f : Str} {v : V} {fs : List (Str × V)} {n : Nat} (h : fs.length ≤ n) : (putF f v fs).length ≤ n + 1 := Nat.le_trans (putF_len fs) (by omega)
section
variable {a1 a2 a3 a4 : Addr}
theorem lkF_now : (lkF a1 a2 a3 a4).lookup ("now" : Str) = some (.ref a1) := lk_here
theorem lkF_terms : (lkF a1 a2 a3 a4).lookup ("terms" : Str) = some (.ref a2) := (lk_past (by decide +kernel)).trans lk_here
theorem lkF_known : (lkF a1 a2 a3 a4).lookup ("known" : Str) = some (.ref a3) := (lk_past (by decide +kernel)).trans ((lk_past (by decide +kernel)).trans lk_here)
theorem lkF_done : (lkF a1 a2 a3 a4).lookup ("done" : Str) = some (.ref a4) := (lk_past (by decide +kernel)).trans ((lk_past (by decide +kernel)).trans ((lk_past (by decide +kernel)).trans lk_here))
theorem lkF_no {m : Str} (h1 : (m == ("now" : Str)) = false) (h2 : (m == ("terms" : Str)) = false) (h3 : (m == ("known" : Str)) = false) (h4 : (m == ("done" : Str)) = false) : (lkF a1 a2 a3 a4).lookup m = none :=
  (lk_past h1).trans ((lk_past h2).trans ((lk_past h3).trans ((lk_past h4).trans rfl)))
theorem lkF_new : putF "done" (.ref a4) (putF "known" (.ref a3) (putF "terms" (.ref a2) (putF "now" (.ref a1) []))) = lkF a1 a2 a3 a4 := by
  have e1 : putF "now" (.ref a1) [] = ([(("now" : Str), V.ref a1)] : List (Str × V)) := rfl
  rw [e1, put_past (by decide +kernel)]
  have e2 : putF "terms" (.ref a2) [] = ([(("terms" : Str), V.ref a2)] : List (Str × V)) := rfl
  rw [e2, put_past (by decide +kernel), put_past (by decide +kernel), put_past (by decide +kernel)]
  have e3 : putF "known" (.ref a3) [] = ([(("known" : Str), V.ref a3)] : List (Str × V)) := rfl
  rw [e3, put_past (by decide +kernel), put_past (by decide +kernel)]
  rfl
end
/-- what the module's classes are -/
structure Lc (K : PySem.W.Frag) (mg : Str → Option Value) (C CK : Addr) : Prop where
  cl : Cls K C
  nNow : NoAttr K C "now"
  nTerms : NoAttr K C "terms"
  nKnown : NoAttr K C "known"
  nDone : NoAttr K C "done"
  ck : Cls K CK
  nOwn : NoAttr K CK "own"
  nRow : NoAttr K CK "row"
  gC : mg "Looks" = some (.ref C)
  gK : mg "Known" = some (.ref CK)
/-- Looks(state) -/
def spInit (C CS : Addr) : Sp := fun vs H Q E => ∃ (p dx : Addr) (v : V) (d : PyData), vs = [.ref p, v] ∧ H p = some (.ins C dx []) ∧ R H v d ∧ (isState d = false → ∀ H', Same H H' → E (.ref CS) none H') ∧
  (isState d = true → ∃ q, v = .ref q ∧ H q = some (.dK []) ∧ ∀ H' a1 a2 a3 a4, (∀ b o, H b = some o → b ≠ p → H' b = some o) → LkAt C H' p dx a1 a2 a3 a4 [] → H a2 = none → H a3 = none → H a4 = none → Q .non H')
section
variable {P : Program} {w : World} {K : PySem.W.Frag} {mg : Str → Option Value} {base : Heap} {C CK CS cP cL : Addr}
theorem ne_ab {H : Hp} {a b : Addr} {o : HO} (h1 : H a = some o) (h2 : H b = none) : a ≠ b := fun z => by rw [z, h2] at h1; cases h1
theorem scInit : FnScope ["self", "state"] ["self", "state"] (defScope sInit) := ⟨rfl, rfl, rfl, by decide +kernel, rfl, by decide +kernel, by decide +kernel⟩
theorem ok_init {f : Addr} {fd : FuncData} (F : L2.Fun K "__init__" "Looks.__init__" sInit f fd) (T : Tx K mg) (L : Lc K mg C CK) (D4 : Df P w K mg base "need_state" 4 ["state"] (spRef CS isState)) :
    FnOk P w K mg base (L2N.CX P w) 5 f fd ["self", "state"] (spInit C CS) := by
  refine okN F scInit (fun vs H Q E h => by obtain ⟨_, _, _, _, rfl, _⟩ := h; rfl) (fun cdv A outer s H vs Q E hr h => ?_)
  obtain ⟨p, dx, v, d, rfl, hp, rd, k1, k2⟩ := h
  have tk := L2N.takes_of (X := cxOf (L2N.CX P w) P w K mg base ["self", "state"] "Looks.__init__" (defScope sInit) f cdv A outer s H E) (E := E) (E₁ := fun e' s'' => L2N.CX P w outer H s E e' s'') rfl rfl rfl rfl
  refine ⟨_, pss_cons (ps_expr (pe_df D4 hr (by decide) (by rfl) (taken tk fun _ _ _ _ h => h) (pa_cons (pv 1) pa_nil)))
    (pss_cons (ps_fld (pv 0) (pe_callTy call_dictD (by rfl) T.dict (by decide +kernel) (pa_cons (pv 1) pa_nil)) rfl)
    (pss_cons (ps_fld (pv 0) pe_dnewK rfl) (pss_cons (ps_fld (pv 0) pe_dnewK rfl) (pss_one (ps_fld (pv 0) (pe_lst pa_nil) rfl))))), ?_⟩
  refine q_ref (ed_var rfl rd) (fun z H1 e1 => ?_) (fun z H1 e1 => k1 z H1 e1)
  obtain ⟨q, rfl, hq, k⟩ := k2 z
  have hp1 := e1 _ _ hp
  refine ⟨_, rfl, q, [], rfl, .inl (e1 _ _ hq), fun a1 h1 => ?_⟩
  have n1 := ne_ab hp1 h1
  refine ⟨_, rfl, p, C, dx, [], rfl, by rw [upd_ne n1]; exact hp1, L.cl, L.nNow, by simp, ?_⟩
  intro a2 h2
  have n2 : p ≠ a2 := fun z => by rw [← z, upd_same] at h2; cases h2
  have n12 : a1 ≠ a2 := fun z => by rw [← z, upd_ne n1.symm, upd_same] at h2; cases h2
  have h2' : H1 a2 = none := by rw [upd_ne n2.symm, upd_ne n12.symm] at h2; exact h2
  refine ⟨_, rfl, p, C, dx, _, rfl, by rw [upd_ne n2]; exact upd_same, L.cl, L.nTerms, Nat.lt_of_le_of_lt (put_few (n := 0) (by simp)) (by decide), ?_⟩
  intro a3 h3
  have n3 : p ≠ a3 := fun z => by rw [← z, upd_same] at h3; cases h3
  have n23 : a2 ≠ a3 := fun z => by rw [← z, upd_ne n2.symm, upd_same] at h3; cases h3
  have h3' : H1 a3 = none := by
    rw [upd_ne n3.symm, upd_ne n23.symm, upd_ne n3.symm] at h3
    by_cases z : a3 = a1
    · rw [z, upd_same] at h3; cases h3
    · rw [upd_ne z] at h3; exact h3
  refine ⟨_, rfl, p, C, dx, _, rfl, by rw [upd_ne n3]; exact upd_same, L.cl, L.nKnown, Nat.lt_of_le_of_lt (put_few (n := 1) (put_few (n := 0) (by simp))) (by decide), ?_⟩
  refine ⟨Evl.sz_of (by simp), fun a4 h4 => ?_⟩
  have n4 : p ≠ a4 := fun z => by rw [← z, upd_same] at h4; cases h4
  have n34 : a3 ≠ a4 := fun z => by rw [← z, upd_ne n3.symm, upd_same] at h4; cases h4
  have n24 : a2 ≠ a4 := fun z => by rw [← z, upd_ne n2.symm, upd_ne n23, upd_ne n2.symm, upd_same] at h4; cases h4
  have h4' : H1 a4 = none := by
    rw [upd_ne n4.symm, upd_ne n34.symm, upd_ne n4.symm, upd_ne n24.symm, upd_ne n4.symm] at h4
    by_cases z : a4 = a1
    · rw [z, upd_same] at h4; cases h4
    · rw [upd_ne z] at h4; exact h4
  refine ⟨_, rfl, p, C, dx, _, rfl, by rw [upd_ne n4]; exact upd_same, L.cl, L.nDone, Nat.lt_of_le_of_lt (put_few (n := 2) (put_few (n := 1) (put_few (n := 0) (by simp)))) (by decide), ?_⟩
  rw [lkF_new]
  refine k _ a1 a2 a3 a4 (fun b o hb hbp => ?_) ⟨upd_same, ?_, ?_, ?_, n23⟩ (Evl.fresh_back e1 h2') (Evl.fresh_back e1 h3') (Evl.fresh_back e1 h4')
  · have hb1 := e1 _ _ hb
    rw [upd_ne hbp, upd_ne (ne_ab hb1 h4'), upd_ne hbp, upd_ne (ne_ab hb1 h3'), upd_ne hbp, upd_ne (ne_ab hb1 h2'), upd_ne hbp, upd_ne (ne_ab hb1 h1)]
    exact hb1
  · rw [upd_ne n2.symm, upd_ne n24, upd_ne n2.symm, upd_ne n23, upd_ne n2.symm, upd_same]
  · rw [upd_ne n3.symm, upd_ne n34, upd_ne n3.symm, upd_same]
  · rw [upd_ne n4.symm, upd_same]
end
end Lk
set_option Elab.async false
set_option linter.all false
set_option maxRecDepth 100000
set_option maxHeartbeats 4000000
namespace Lk
open PySem PySem.Spec PyProof.Rows L2 HotX L2H LamX
open Evl (Ev EvL EvA EvT Ex EvU)
def allIn (ks : List (Key × V)) (ms : List Str) : Bool := ms.all fun y => (valV ks (Sum.inr y)).isSome
/-- looks.define(name, term) -/
def spDefine (C cP cL : Addr) : Sp := fun vs H Q E => ∃ (x dx a1 a2 a3 a4 : Addr) (ks : List (Key × V)) (vn vt : V) (dn dt : PyData), vs = [.ref x, vn, vt] ∧ LkAt C H x dx a1 a2 a3 a4 ks ∧ ks.length < 1000 ∧ R H vn dn ∧ R H vt dt ∧
  (isWord dn = false → ∀ H', Same H H' → E (.ref cP) none H') ∧
  (isWord dn = true → deepOk 8 dt = false → ∀ H', Same H H' → E (.ref cL) none H') ∧
  (∀ z, dn = .str z → isWord dn = true → deepOk 8 dt = true → ((valV ks (Sum.inr z)).isSome = true → ∀ H', Same H H' → E (.ref cL) none H') ∧ ((valV ks (Sum.inr z)).isSome = false → lkOk 8 dt = true ∧ (lkMem 8 dt).length < 64 ∧ (allIn ks (lkMem 8 dt) = false → ∀ H', Same H H' → E (.ref cL) none H') ∧
    (allIn ks (lkMem 8 dt) = true → ∀ H', (∀ b o, H b = some o → b ≠ a2 → H' b = some o) → H' a2 = some (.dK (putK ks (Sum.inr z) vt)) → Q .non H')))
section
variable {P : Program} {w : World} {K : PySem.W.Frag} {mg : Str → Option Value} {base : Heap} {C CK CS cP cL : Addr}
theorem scDefine : FnScope ["self", "name", "term", "one"] ["self", "name", "term"] (defScope sDefine) := ⟨rfl, rfl, rfl, by decide +kernel, rfl, by decide +kernel, by decide +kernel⟩
theorem ok_define {f : Addr} {fd : FuncData} (F : L2.Fun K "define" "Looks.define" sDefine f fd) (hmt : Meth K C "define" f) (hb : Binds K fd ["self", "name", "term"] []) (T : Tx K mg) (L : Lc K mg C CK) (Dn : Df P w K mg base "need_name" 2 ["name"] (spRef cP isWord)) (Dt : Df P w K mg base "need_term" 12 ["term"] (spRef cL (deepOk 8)))
    (Dl : Df P w K mg base "need_looks" 1 ["good"] (spNeed cL)) (Di : Df P w K mg base "looks_in" 9 ["term"] (spLooks 8)) :
    Md P w K mg base C "define" 13 ["self", "name", "term"] (spDefine C cP cL) := by
  refine ⟨f, fd, hmt, hb, okN F scDefine (fun vs H Q E h => by obtain ⟨_, _, _, _, _, _, _, _, _, _, _, rfl, _⟩ := h; rfl) (fun cdv A outer s H vs Q E hr h => ?_)⟩
  obtain ⟨x, dx, a1, a2, a3, a4, ks, vn, vt, dn, dt, rfl, la, hks, rn, rt, k1, k2, k3⟩ := h
  have hu := hu_of hr
  have tk := L2N.takes_of (X := cxOf (L2N.CX P w) P w K mg base ["self", "name", "term", "one"] "Looks.define" (defScope sDefine) f cdv A outer s H E) (E := E) (E₁ := fun e' s'' => L2N.CX P w outer H s E e' s'') rfl rfl rfl rfl
  refine ⟨_, pss_cons (ps_expr (pe_df Dn hr (by decide) (by rfl) (taken tk fun _ _ _ _ h => h) (pa_cons (pv 1) pa_nil)))
    (pss_cons (ps_expr (pe_df Dt hr (by decide) (by rfl) (taken tk fun _ _ _ _ h => h) (pa_cons (pv 2) pa_nil)))
    (pss_cons (ps_expr (pe_df Dl hr (by decide) (by rfl) (taken tk fun _ _ _ _ h => h) (pa_cons (pe_and (pe_cmp (pc_dnotin hu (pv 1) (pe_fld (pv 0) rfl)) rfl)
      (pe_one (pe_callB (cr_all rfl) (by rfl) T.all boot_all (pa_cons (pe_lc (own := [("one", 3)]) (g := gName 3) (tt := tYes) rfl scDefine.nd (pi_list (pe_df Di hr (by decide) (by rfl) passN (pa_cons (pv 2) pa_nil))) (blkOk_by (own := [("one", 3)]) (N := ["self", "name", "term", "one"]) (sc := defScope sDefine) (by decide +kernel))
        (fun _ _ _ _ _ => pg_name (i := 3) scDefine.nd rfl (Or.inl rfl)) (fun _ _ _ _ _ => pts_nil) (fun _ _ _ _ _ => pe_cmp (pc_din (td := tFld K (tVar 0) "terms") hu (pv 3) (pe_fld (pv 0) rfl)) rfl)) pa_nil)))) pa_nil)))
    (pss_one (ps_dput hu (pe_fld (pv 0) rfl) (pv 1) (pv 2) rfl)))), ?_⟩
  refine q_ref (ed_var rfl rn) (fun z1 H1 e1 => ?_) (fun z1 H1 e1 => k1 z1 H1 e1)
  refine q_ref (ed_var rfl (rt.ext (exN e1))) (fun z2 H2 e2 => ?_) (fun z2 H2 e2 => k2 z1 z2 H2 (e1.trans e2))
  have e12 : Ex H H2 := e1.trans e2
  cases rn with
  | str z hz =>
    obtain ⟨g1, g2⟩ := k3 z rfl z1 z2
    have la2 := la.ext (exN e12)
    have rt2 := rt.ext (exN e12)
    show tSeq _ _ _ [some (.ref x), some (.str z), some vt, none] H2
    have ein : ∀ (b : Bool), (valV ks (Sum.inr z)).isSome = b → EvD (tDNotIn (tVar 1) (tFld K (tVar 0) "terms")) [some (.ref x), some (.str z), some vt, none] H2 (.bool (!b)) := fun b hbb H3 e3 Q3 q3 => by
      have la3 := la2.ext (exN e3)
      refine ⟨_, rfl, _, rfl, x, C, dx, _, .ref a2, rfl, la3.i, L.cl, L.nTerms, lkF_terms, a2, _, rfl, DGet.k (k := Sum.inr z) la3.t, ?_⟩
      rw [hbb]
      exact q3 _ H3 (Ex.refl _) (.bl _)
    cases hin : (valV ks (Sum.inr z)).isSome with
    | true =>
      refine q_need (b := false) (ed_is (ed_and (c := false) (ed_is (ein true hin) rfl) fun z => by cases z) rfl) (fun z => by cases z) (fun _ H3 e3 => g1 hin H3 (e12.trans e3))
    | false =>
      obtain ⟨hok, hlen, g3, g4⟩ := g2 hin
      refine q_need (b := allIn ks (lkMem 8 dt)) (ed_is (ed_and (c := allIn ks (lkMem 8 dt)) (ed_is (ein false hin) rfl) fun _ => ?g5) rfl) (fun h4 H3 e3 => ?_) (fun h4 H3 e3 => g3 h4 H3 (e12.trans e3))
      case g5 =>
        intro H3 e3 Q3 q3
        refine ⟨_, rfl, vt, dt, rfl, rt2.ext (exN e3), hok, hlen, fun ys p H4 s4 hp4 fd4 => ⟨p, rfl, ⟨_, .inl (.inl hp4)⟩, fun Dl hD => lc_w (σ := [some (.ref x), some (.str z), some vt, none]) (jx := 3) (vs := [3]) (Q := fun v H' => rAll K [v] H' Q3) (te := tDIn (tVar 3) (tFld K (tVar 0) "terms")) (walk_list (K := K) (a := p) (xs := ys.map V.str)) (fun H' e2 => .inl (.inl (e2 _ _ hp4))) ((ys.map fun y => (valV ks (Sum.inr y)).isSome).map V.bl) (by simp) ?_ (fun _ => rfl) (fun i u hi hu => ?_) hD fun H5 e5 h5 => ?_⟩⟩
        · rw [List.length_map]
          have := fd4.len
          omega
        · rw [List.getElem?_map] at hu
          obtain ⟨y, hy, rfl⟩ : ∃ y, ys[i]? = some y ∧ u = V.str y := by
            cases e : ys[i]? with
            | none => rw [e] at hu; cases hu
            | some zz => rw [e] at hu; exact ⟨zz, rfl, (Option.some.inj hu).symm⟩
          have hgd : ((ys.map fun y => (valV ks (Sum.inr y)).isSome).map V.bl).getD i .non = .bl (valV ks (Sum.inr y)).isSome := by
            simp [hy]
          rw [hgd]
          intro H6 e6 Q6 q6
          have la6 := (la2.ext (exN e3)).ext (exN (Evl.Ex.trans s4 e6))
          exact ⟨_, rfl, _, rfl, x, C, dx, _, .ref a2, rfl, la6.i, L.cl, L.nTerms, lkF_terms, a2, _, rfl, DGet.k (k := Sum.inr y) la6.t, q6 H6 (Ex.refl _)⟩
        · refine ⟨Dl, ys.map fun y => (valV ks (Sum.inr y)).isSome, rfl, .inl (.inl h5), ?_⟩
          have hb : ((ys.map fun y => (valV ks (Sum.inr y)).isSome).all id) = allIn ks (lkMem 8 dt) := by
            rw [List.all_map]
            unfold allIn
            rw [Bool.eq_iff_iff, List.all_eq_true, List.all_eq_true]
            exact ⟨fun h y hy => h y ((fd4.mem y).mpr hy), fun h y hy => h y ((fd4.mem y).mp hy)⟩
          rw [hb]
          exact q3 _ H5 (Evl.Ex.trans s4 e5) (.bl _)
      · have la3 := la2.ext (exN e3)
        have hkl : ks.length < sizeLine := small1000 (Nat.le_of_lt hks)
        refine ⟨_, rfl, _, rfl, x, C, dx, _, .ref a2, rfl, la3.i, L.cl, L.nTerms, lkF_terms, _, rfl, a2, _, rfl, DPut.k (k := Sum.inr z) la3.t hkl, ?_⟩
        refine g4 h4 _ (fun b o hb hne => ?_) upd_same
        rw [upd_ne hne]
        exact (e12.trans e3) b o hb
  | _ => simp [isWord] at z1
/-- looks.names() -/
def spNames (C : Addr) : Sp := fun vs H Q _ => ∃ (x dx a1 a2 a3 a4 : Addr) (ks : List (Key × V)), vs = [.ref x] ∧ LkAt C H x dx a1 a2 a3 a4 ks ∧ ∀ H' p, Same H H' → H' p = some (.lst (ks.map fun kv => kV kv.1)) → Q (.ref p) H'
theorem scNames : FnScope ["self"] ["self"] (defScope sNames) := ⟨rfl, rfl, rfl, by decide +kernel, rfl, by decide +kernel, by decide +kernel⟩
theorem ok_names {f : Addr} {fd : FuncData} (F : L2.Fun K "names" "Looks.names" sNames f fd) (hmt : Meth K C "names" f) (hb : Binds K fd ["self"] []) (L : Lc K mg C CK) (lst : mg "list" = none) : Md P w K mg base C "names" 1 ["self"] (spNames C) := by
  refine ⟨f, fd, hmt, hb, okN F scNames (fun vs H Q E h => by obtain ⟨_, _, _, _, _, _, _, rfl, _⟩ := h; rfl) (fun cdv A outer s H vs Q E hr h => ?_)⟩
  obtain ⟨x, dx, a1, a2, a3, a4, ks, rfl, la, k⟩ := h
  refine ⟨_, PSs.nox (pss_one (ps_ret (pe_callTy (call_list_dK rfl) (by rfl) lst (by decide +kernel) (pa_cons (pe_fld (pv 0) rfl) pa_nil)))), ?_⟩
  exact ⟨_, rfl, x, C, dx, _, .ref a2, rfl, la.i, L.cl, L.nTerms, lkF_terms, a2, ks, rfl, la.t, fun q hq => k _ q (same_upd (fun _ _ h => h) hq) upd_same⟩
/-- looks.show(state), refused -/
def spShow (CS : Addr) : Sp := fun vs H Q E => ∃ (x : V) (v : V) (d : PyData), vs = [x, v] ∧ R H v d ∧ isState d = false ∧ ∀ H', Same H H' → E (.ref CS) none H'
theorem scShow : FnScope ["self", "state"] ["self", "state"] (defScope sShow) := ⟨rfl, rfl, rfl, by decide +kernel, rfl, by decide +kernel, by decide +kernel⟩
theorem ok_show {f : Addr} {fd : FuncData} (F : L2.Fun K "show" "Looks.show" sShow f fd) (hmt : Meth K C "show" f) (hb : Binds K fd ["self", "state"] []) (D4 : Df P w K mg base "need_state" 4 ["state"] (spRef CS isState)) : Md P w K mg base C "show" 5 ["self", "state"] (spShow CS) := by
  refine ⟨f, fd, hmt, hb, okN F scShow (fun vs H Q E h => by obtain ⟨_, _, _, rfl, _⟩ := h; rfl) (fun cdv A outer s H vs Q E hr h => ?_)⟩
  obtain ⟨x, v, d, rfl, rd, hd, k⟩ := h
  have tk := L2N.takes_of (X := cxOf (L2N.CX P w) P w K mg base ["self", "state"] "Looks.show" (defScope sShow) f cdv A outer s H E) (E := E) (E₁ := fun e' s'' => L2N.CX P w outer H s E e' s'') rfl rfl rfl rfl
  refine ⟨_, pss_cons (ps_expr (pe_df D4 hr (by decide) (by rfl) (taken tk fun _ _ _ _ h => h) (pa_cons (pv 1) pa_nil))) pss_never, ?_⟩
  exact q_ref (ed_var rfl rd) (fun z => absurd z (by rw [hd]; exact Bool.false_ne_true)) (fun _ H1 e1 => k H1 e1)
/-- looks.readings(name), refused -/
def spReadings (C cP cL : Addr) : Sp := fun vs H Q E => ∃ (x dx a1 a2 a3 a4 : Addr) (ks : List (Key × V)) (v : V) (d : PyData), vs = [.ref x, v] ∧ LkAt C H x dx a1 a2 a3 a4 ks ∧ R H v d ∧
  (isWord d = false → ∀ H', Same H H' → E (.ref cP) none H') ∧ (∀ z, d = .str z → isWord d = true → (valV ks (Sum.inr z)).isSome = false ∧ ∀ H', Same H H' → E (.ref cL) none H')
theorem ed_inTerms {x dx a1 a2 a3 a4 : Addr} {ks : List (Key × V)} {z : Str} {σ : St} {H : Hp} (L : Lc K mg C CK) (la : LkAt C H x dx a1 a2 a3 a4 ks) (h0 : σ[0]? = some (some (.ref x))) (h1 : σ[1]? = some (some (.str z))) : EvD (tDIn (tVar 1) (tFld K (tVar 0) "terms")) σ H (.bool (valV ks (Sum.inr z)).isSome) := fun H3 e3 Q3 q3 => by
  have la3 := la.ext (exN e3)
  exact ⟨_, h1, _, h0, x, C, dx, _, .ref a2, rfl, la3.i, L.cl, L.nTerms, lkF_terms, a2, _, rfl, DGet.k (k := Sum.inr z) la3.t, q3 _ H3 (Ex.refl _) (.bl _)⟩
theorem scReadings : FnScope ["self", "name"] ["self", "name"] (defScope sReadings) := ⟨rfl, rfl, rfl, by decide +kernel, rfl, by decide +kernel, by decide +kernel⟩
theorem ok_readings {f : Addr} {fd : FuncData} (F : L2.Fun K "readings" "Looks.readings" sReadings f fd) (hmt : Meth K C "readings" f) (hb : Binds K fd ["self", "name"] []) (L : Lc K mg C CK) (Dn : Df P w K mg base "need_name" 2 ["name"] (spRef cP isWord)) (Dl : Df P w K mg base "need_looks" 1 ["good"] (spNeed cL)) :
    Md P w K mg base C "readings" 3 ["self", "name"] (spReadings C cP cL) := by
  refine ⟨f, fd, hmt, hb, okN F scReadings (fun vs H Q E h => by obtain ⟨_, _, _, _, _, _, _, _, _, rfl, _⟩ := h; rfl) (fun cdv A outer s H vs Q E hr h => ?_)⟩
  obtain ⟨x, dx, a1, a2, a3, a4, ks, v, d, rfl, la, rd, k1, k2⟩ := h
  have hu := hu_of hr
  have tk := L2N.takes_of (X := cxOf (L2N.CX P w) P w K mg base ["self", "name"] "Looks.readings" (defScope sReadings) f cdv A outer s H E) (E := E) (E₁ := fun e' s'' => L2N.CX P w outer H s E e' s'') rfl rfl rfl rfl
  refine ⟨_, pss_cons (ps_expr (pe_df Dn hr (by decide) (by rfl) (taken tk fun _ _ _ _ h => h) (pa_cons (pv 1) pa_nil)))
    (pss_cons (ps_expr (pe_df Dl hr (by decide) (by rfl) (taken tk fun _ _ _ _ h => h) (pa_cons (pe_cmp (pc_din hu (pv 1) (pe_fld (pv 0) rfl)) rfl) pa_nil))) pss_never), ?_⟩
  refine q_ref (ed_var rfl rd) (fun z1 H1 e1 => ?_) (fun z1 H1 e1 => k1 z1 H1 e1)
  cases rd with
  | str z hz =>
    obtain ⟨g1, g2⟩ := k2 z rfl z1
    exact q_need (ed_inTerms L (la.ext (exN e1)) rfl rfl) (fun h => absurd h (by rw [g1]; exact Bool.false_ne_true)) (fun _ H2 e2 => g2 H2 (e1.trans e2))
  | _ => simp [isWord] at z1
end
end Lk
set_option Elab.async false
set_option linter.all false
set_option maxRecDepth 100000
set_option maxHeartbeats 4000000
namespace Lk
open PySem PySem.Spec PyProof.Rows L2 HotX L2H LamX
open NdefX (NTab TabN TabsN tNdef ps_ndef FnO)
open Evl (Ev EvL EvA EvT Ex EvU)
def numD (n : Int) : PyData := .tuple [.str "num", .int n]
def spWorth : Sp := fun vs H Q _ => ∃ (v r : V) (n : Int), vs = [v, r] ∧ R H v (numD n) ∧ ∀ H', Same H H' → Q (.int n) H'
def knF (n : Int) (r : V) : List (Str × V) := [("own", .int n), ("row", r)]
def spKInit (CK : Addr) : Sp := fun vs H Q _ => ∃ (p dx : Addr) (n : Int) (r : V), vs = [.ref p, .int n, r] ∧ H p = some (.ins CK dx []) ∧ ∀ H', (∀ b o, H b = some o → b ≠ p → H' b = some o) → H' p = some (.ins CK dx (knF n r)) → Q .non H'
def spFresh (C : Addr) : Sp := fun vs H Q _ => ∃ (x dx a1 a2 a3 a4 : Addr) (ks : List (Key × V)) (z : Str), vs = [.ref x, .str z] ∧ LkAt C H x dx a1 a2 a3 a4 ks ∧ ∀ H', Same H H' → Q (.bl false) H'
def qLam : Str := ("law" : Str) ++ ".<locals>." ++ "<lambda>"
def qRead : Str := ("Looks.work_out" : Str) ++ ".<locals>." ++ "read"
def T2 (Pt Pw : Addr) : List (Addr × Str) := [(Pt, qLam), (Pw, qRead)]
def T2n (Pt Pw : Addr) : List NTab := [(Pt, fun _ _ => qLam), (Pw, fun _ _ => qRead)]
theorem t2_n {Pt Pw : Addr} {H : Hp} (t : Tabs (T2 Pt Pw) H) : TabsN (T2n Pt Pw) H := fun p hp => by
  rcases List.mem_cons.mp hp with e | hp
  · rw [e]; exact t (Pt, qLam) List.mem_cons_self
  · rw [List.mem_singleton.mp hp]; exact t (Pw, qRead) (List.mem_cons_of_mem _ List.mem_cons_self)
theorem t2_s {Pt Pw : Addr} {H : Hp} (t : TabsN (T2n Pt Pw) H) : Tabs (T2 Pt Pw) H := fun p hp => by
  rcases List.mem_cons.mp hp with e | hp
  · rw [e]; exact t (Pt, fun _ _ => qLam) List.mem_cons_self
  · rw [List.mem_singleton.mp hp]; exact t (Pw, fun _ _ => qRead) (List.mem_cons_of_mem _ List.mem_cons_self)
/-- what value leaves behind -/
structure Out (CK : Addr) (Pt Pw : Addr) (H H' : Hp) (a3 a4 : Addr) (z : Str) (n : Int) : Prop where
  keep : ∀ b o, H b = some o → (∀ ps, o ≠ .tbl ps) → b ≠ a3 → b ≠ a4 → H' b = some o
  tabs : Tabs (T2 Pt Pw) H'
  kn : ∃ p dp r, H' a3 = some (.dK [(Sum.inr z, .ref p)]) ∧ H' p = some (.ins CK dp (knF n r))
def spWorkOut (C CK Pt Pw : Addr) : Sp := fun vs H Q _ => ∃ (x dx a1 a2 a3 a4 : Addr) (ks : List (Key × V)) (z : Str) (vt : V) (n : Int), vs = [.ref x, .str z] ∧ LkAt C H x dx a1 a2 a3 a4 ks ∧ valV ks (Sum.inr z) = some vt ∧ R H vt (numD n) ∧ Tabs (T2 Pt Pw) H ∧
  ∀ H', Out CK Pt Pw H H' a3 a4 z n → Q .non H'
theorem tabs_at {T : List (Addr × Str)} {H : Hp} {l : Addr} {o0 o : HO} (t : Tabs T H) (h : H l = some o0) (h1 : ∀ ps, HO.tbl ps ≠ o0) (h2 : ∀ p, HO.ext p ≠ o0) : Tabs T (upd H l o) := fun p hp => by
  obtain ⟨ps, g1, g2, g3⟩ := t p hp
  refine ⟨ps, by rw [upd_ne (ne_of g1 h (h1 ps))]; exact g1, g2, fun pos cv hc => ?_⟩
  obtain ⟨c, e1, e2⟩ := g3 pos cv hc
  exact ⟨c, e1, by rw [upd_ne (ne_of e2 h (fun z => by unfold CodeO at z; exact h2 _ z))]; exact e2⟩
section
variable {P : Program} {w : World} {K : PySem.W.Frag} {mg : Str → Option Value} {base : Heap} {C CK CS cP cL : Addr}
theorem scWorth : FnScope ["term", "read", "word", "one"] ["term", "read"] (defScope sWorth) := ⟨rfl, rfl, rfl, by decide +kernel, rfl, by decide +kernel, by decide +kernel⟩
theorem ok_worth {f : Addr} {fd : FuncData} (F : L2.Fun K "worth" "worth" sWorth f fd) (hm : mg "worth" = some (.ref f)) (hb : Binds K fd ["term", "read"] []) : Df P w K mg base "worth" 1 ["term", "read"] spWorth := by
  refine df_of F hm hb scWorth (fun vs H Q E h => by obtain ⟨_, _, _, rfl, _⟩ := h; rfl) (fun cdv A outer s H vs Q E hr h => ?_)
  obtain ⟨v, r, n, rfl, rd, k⟩ := h
  refine ⟨_, PSs.nox (pss_cons (ps_set (i := 2) scWorth.nd rfl (Or.inl rfl) (pe_ix ix_tup (pv 0) pe_int (fun _ _ => rfl)))
    (pss_cons (ps_if (pt_cmpR op_eq (pv 2) pe_str (nomark _)) (pss_one (ps_ret (pe_ix ix_tup (pv 0) pe_int (fun _ _ => rfl)))) pss_nil) pss_never)), ?_⟩
  refine q_asgD (d := .str "num") (ed_ixT (ds := [.str "num", .int n]) (k := 0) (ed_var rfl rd) (ed_c (.int 0)) rfl) fun vz H1 e1 rz => ?_
  refine Evl.q_when (b := true) (Evl.et_is (et_b (ed_eqS (ed_var rfl rz) (ed_c (.str _ (by decide +kernel))))) (by decide +kernel)) (fun _ H2 e2 => ?_) (fun z => by cases z)
  exact s_retD (d := .int n) (ed_ixT (ds := [.str "num", .int n]) (k := 1) (ed_var rfl (rd.ext (exN (e1.trans e2)))) (ed_c (.int 1)) rfl) fun v1 H3 e3 r3 => by
    cases r3
    exact k H3 ((e1.trans e2).trans e3)
theorem scKInit : FnScope ["self", "own", "row"] ["self", "own", "row"] (defScope sKInit) := ⟨rfl, rfl, rfl, by decide +kernel, rfl, by decide +kernel, by decide +kernel⟩
theorem ok_kinit {f : Addr} {fd : FuncData} (F : L2.Fun K "__init__" "Known.__init__" sKInit f fd) (L : Lc K mg C CK) : FnOk P w K mg base (L2N.CX P w) 1 f fd ["self", "own", "row"] (spKInit CK) := by
  refine okN F scKInit (fun vs H Q E h => by obtain ⟨_, _, _, _, rfl, _⟩ := h; rfl) (fun cdv A outer s H vs Q E hr h => ?_)
  obtain ⟨p, dx, n, r, rfl, hp, k⟩ := h
  refine ⟨_, PSs.nox (pss_cons (ps_fld (pv 0) (pv 1) rfl) (pss_one (ps_fld (pv 0) (pv 2) rfl))), ?_⟩
  refine ⟨_, rfl, _, rfl, p, CK, dx, [], rfl, hp, L.ck, L.nOwn, by simp, ?_⟩
  refine ⟨_, rfl, _, rfl, p, CK, dx, _, rfl, upd_same, L.ck, L.nRow, Nat.lt_of_le_of_lt (put_few (n := 0) (by simp)) (by decide), ?_⟩
  refine k _ (fun b o hb hne => by rw [upd_ne hne, upd_ne hne]; exact hb) (upd_same.trans ?_)
  have e1 : putF "own" (.int n) [] = ([(("own" : Str), V.int n)] : List (Str × V)) := rfl
  rw [e1, put_past (by decide +kernel)]
  rfl
theorem scIsFresh : FnScope ["self", "name", "term", "old"] ["self", "name"] (defScope sIsFresh) := ⟨rfl, rfl, rfl, by decide +kernel, rfl, by decide +kernel, by decide +kernel⟩
theorem ok_fresh {f : Addr} {fd : FuncData} (F : L2.Fun K "is_fresh" "Looks.is_fresh" sIsFresh f fd) (hmt : Meth K C "is_fresh" f) (hb : Binds K fd ["self", "name"] []) (L : Lc K mg C CK) : Md P w K mg base C "is_fresh" 1 ["self", "name"] (spFresh C) := by
  refine ⟨f, fd, hmt, hb, okN F scIsFresh (fun vs H Q E h => by obtain ⟨_, _, _, _, _, _, _, _, rfl, _⟩ := h; rfl) (fun cdv A outer s H vs Q E hr h => ?_)⟩
  obtain ⟨x, dx, a1, a2, a3, a4, ks, z, rfl, la, k⟩ := h
  have hu := hu_of hr
  refine ⟨_, PSs.nox (pss_cons (ps_if (pt_cmp (pc_dnotin hu (pv 1) (pe_fld (pv 0) rfl)) rfl) (pss_one (ps_ret pe_bl)) pss_nil) pss_never), ?_⟩
  refine ⟨_, rfl, _, rfl, x, C, dx, _, .ref a3, rfl, la.i, L.cl, L.nKnown, lkF_known, a3, _, rfl, DGet.k (k := Sum.inr z) la.n, _, rfl, ?_⟩
  exact iteT (k H (fun _ _ h => h))
theorem scWorkOut : FnScope ["self", "name", "read", "own", "row"] ["self", "name"] (defScope sWorkOut) := ⟨rfl, rfl, rfl, by decide +kernel, rfl, by decide +kernel, by decide +kernel⟩
theorem ok_workOut {f c Pt Pw fK : Addr} {fdK : FuncData} {oc kV doc pm ct : Value} {od an : Option Addr} {osl : Array (Option Value)}
    (lk : K.lookup f = some ⟨oc, od, .func (PySem.W.fnOf "work_out" "Looks.work_out" (defArgs sWorkOut) (defBody sWorkOut) (defScope sWorkOut) .none kV doc pm an (.ref c) ct), osl⟩) (hcd : PySem.W.codeIn K (.ref c) "Looks.work_out" = true)
    (hmt : Meth K C "work_out" f) (hb : Binds K (PySem.W.fnOf "work_out" "Looks.work_out" (defArgs sWorkOut) (defBody sWorkOut) (defScope sWorkOut) .none kV doc pm an (.ref c) ct) ["self", "name"] []) (L : Lc K mg C CK) (Dw : Df P w K mg base "worth" 1 ["term", "read"] spWorth)
    (MK : Mk K CK fK) (FK : FnOk P w K mg base (L2N.CX P w) 1 fK fdK ["self", "own", "row"] (spKInit CK)) (bK : Binds K fdK ["self", "own", "row"] []) (TB : TabB base mg c Pw) (hne : Pt ≠ Pw) :
    Md P w K mg base C "work_out" 3 ["self", "name"] (spWorkOut C CK Pt Pw) := by
  refine ⟨f, _, hmt, hb, fn_of lk hcd scWorkOut (fun vs H Q E h => by obtain ⟨_, _, _, _, _, _, _, _, _, _, rfl, _⟩ := h; rfl) (fun A outer s H vs Q E hr h => ?_)⟩
  obtain ⟨x, dx, a1, a2, a3, a4, ks, z, vt, n, rfl, la, hv, rt, tabs, k⟩ := h
  have hu := hu_of hr
  refine ⟨_, PSs.nox (pss_cons (ps_set (i := 4) scWorkOut.nd rfl (Or.inr rfl) (pe_lst pa_nil))
    (pss_cons (ps_ndef (T := T2n Pt Pw) (nm := fun _ _ => qRead) (i := 2) (c := c) (P := Pw) TB rfl (List.mem_cons_of_mem _ List.mem_cons_self) rfl (fun p hp e => by
        rcases List.mem_cons.mp hp with e1 | hp
        · rw [e1] at e; exact absurd e hne
        · rw [List.mem_singleton.mp hp]) (NdefX.ndef_free (sc := defScope sWorkOut) (fr := []) (by decide +kernel)) rfl rfl rfl scWorkOut.nd rfl (Or.inl rfl) (Or.inr rfl))
    (pss_cons (ps_set (i := 3) scWorkOut.nd rfl (Or.inl rfl) (pe_df Dw hr (by decide) (by rfl) passN (pa_cons (pe_dget hu (pe_fld (pv 0) rfl) (pv 1) (fun _ _ => rfl)) (pa_cons (pv 2) pa_nil))))
    (pss_cons (ps_dput hu (pe_fld (pv 0) rfl) (pv 1) (pe_make MK FK hr (by rfl) L.gK bK .nil passN (pa_cons (pv 3) (pa_cons (pv 4) pa_nil))) rfl)
    (pss_one (ps_expr (pe_bm PySem.F.plainAttrs_list PySem.F.slot_list_append PySem.F.type_list_append mt_append (pe_fld (pv 0) rfl) (pa_cons (pv 1) pa_nil)))))))), ?_⟩
  refine ⟨Evl.sz_of (by simp), fun pr hpr => ?_⟩
  have e1 : Ex H (upd H pr (.lst [])) := Ex.new hpr
  generalize hH1 : upd H pr (.lst []) = H1 at e1
  refine ⟨t2_n (tabs.ext e1), fun fr c' H2 x2 t2 _ _ _ => ?_⟩
  have x02 : ExtN H H2 := (exN e1).trans x2
  have la2 := la.ext x02
  have hg2 : DGet H2 a2 (.str z) (some vt) := by
    have q := DGet.k (k := Sum.inr z) la2.t
    rw [hv] at q
    exact q
  refine ⟨_, rfl, x, C, dx, _, .ref a2, rfl, la2.i, L.cl, L.nTerms, lkF_terms, _, rfl, a2, vt, rfl, hg2, _, rfl, vt, .ref fr, n, rfl, rt.ext x02, fun H3 s3 => ?_⟩
  have x03 : ExtN H H3 := x02.trans (exN s3)
  refine ⟨_, rfl, _, rfl, fun p dp np ndp nep => ⟨p, dp, n, .ref pr, rfl, upd_same, fun H4 keep4 h4 => ⟨rfl, ?_⟩⟩⟩
  have s34 : Same H3 H4 := fun b o hb => keep4 b o (by rw [upd_ne (ne_ab hb np), upd_ne (ne_ab hb ndp)]; exact hb) (ne_ab hb np)
  have x04 : ExtN H H4 := x03.trans (exN s34)
  have la4 := la.ext x04
  have t4 : Tabs (T2 Pt Pw) H4 := ((t2_s t2).ext s3).ext s34
  refine ⟨_, rfl, x, C, dx, _, .ref a3, rfl, la4.i, L.cl, L.nKnown, lkF_known, _, rfl, a3, _, rfl, DPut.k (k := Sum.inr z) la4.n (by decide), ?_⟩
  have n34 : a4 ≠ a3 := ne_of la4.d la4.n (fun z => nomatch z)
  have nx3 : x ≠ a3 := ne_of la4.i la4.n (fun z => nomatch z)
  have t5 : Tabs (T2 Pt Pw) (upd H4 a3 (.dK [(Sum.inr z, .ref p)])) := tabs_at t4 la4.n (fun _ z => nomatch z) (fun _ z => nomatch z)
  refine ⟨_, rfl, x, C, dx, _, .ref a4, rfl, by rw [upd_ne nx3]; exact la4.i, L.cl, L.nDone, lkF_done, .inl ⟨rfl, [], .inl (.inl (by rw [upd_ne n34]; exact la4.d))⟩, ?_⟩
  refine ⟨_, rfl, a4, [], _, rfl, rfl, by rw [upd_ne n34]; exact la4.d, Evl.sz_lt (by simp), ?_⟩
  have hp3 : p ≠ a3 := fun z => by
    have := x03 _ _ la.n (fun _ z => nomatch z)
    rw [← z, np] at this
    cases this
  have hp4 : p ≠ a4 := fun z => by
    have := x03 _ _ la.d (fun _ z => nomatch z)
    rw [← z, np] at this
    cases this
  refine k _ ⟨fun b o hb ho hb3 hb4 => ?_, tabs_at t5 (o0 := .lst []) (by rw [upd_ne n34]; exact la4.d) (fun _ z => nomatch z) (fun _ z => nomatch z), p, dp, .ref pr, ?_, ?_⟩
  · rw [upd_ne hb4, upd_ne hb3]
    exact x04 b o hb ho
  · rw [upd_ne n34.symm]
    exact upd_same
  · rw [upd_ne hp4, upd_ne hp3]
    exact h4
/-- looks.value(name): refused; or the worth of a number -/
def spValue (C CK cP cL Pt Pw : Addr) : Sp := fun vs H Q E => ∃ (x dx a1 a2 a3 a4 : Addr) (ks : List (Key × V)) (v : V) (d : PyData), vs = [.ref x, v] ∧ LkAt C H x dx a1 a2 a3 a4 ks ∧ R H v d ∧
  (isWord d = false → ∀ H', Same H H' → E (.ref cP) none H') ∧ (∀ z, d = .str z → isWord d = true → ((valV ks (Sum.inr z)).isSome = false → ∀ H', Same H H' → E (.ref cL) none H') ∧
    (∀ vt, valV ks (Sum.inr z) = some vt → ∃ n, R H vt (numD n) ∧ Tabs (T2 Pt Pw) H ∧ ∀ H', Out CK Pt Pw H H' a3 a4 z n → Q (.int n) H'))
theorem scValue : FnScope ["self", "name"] ["self", "name"] (defScope sValue) := ⟨rfl, rfl, rfl, by decide +kernel, rfl, by decide +kernel, by decide +kernel⟩
theorem ok_value {f Pt Pw : Addr} {fd : FuncData} (F : L2.Fun K "value" "Looks.value" sValue f fd) (hmt : Meth K C "value" f) (hb : Binds K fd ["self", "name"] []) (L : Lc K mg C CK) (Dn : Df P w K mg base "need_name" 2 ["name"] (spRef cP isWord)) (Dl : Df P w K mg base "need_looks" 1 ["good"] (spNeed cL))
    (Df' : Md P w K mg base C "is_fresh" 1 ["self", "name"] (spFresh C)) (Dw : Md P w K mg base C "work_out" 3 ["self", "name"] (spWorkOut C CK Pt Pw)) : Md P w K mg base C "value" 4 ["self", "name"] (spValue C CK cP cL Pt Pw) := by
  refine ⟨f, fd, hmt, hb, okN F scValue (fun vs H Q E h => by obtain ⟨_, _, _, _, _, _, _, _, _, rfl, _⟩ := h; rfl) (fun cdv A outer s H vs Q E hr h => ?_)⟩
  obtain ⟨x, dx, a1, a2, a3, a4, ks, v, d, rfl, la, rd, k1, k2⟩ := h
  have hu := hu_of hr
  have tk := L2N.takes_of (X := cxOf (L2N.CX P w) P w K mg base ["self", "name"] "Looks.value" (defScope sValue) f cdv A outer s H E) (E := E) (E₁ := fun e' s'' => L2N.CX P w outer H s E e' s'') rfl rfl rfl rfl
  refine ⟨_, pss_cons (ps_expr (pe_df Dn hr (by decide) (by rfl) (taken tk fun _ _ _ _ h => h) (pa_cons (pv 1) pa_nil)))
    (pss_cons (ps_expr (pe_df Dl hr (by decide) (by rfl) (taken tk fun _ _ _ _ h => h) (pa_cons (pe_cmp (pc_din hu (pv 1) (pe_fld (pv 0) rfl)) rfl) pa_nil)))
    (pss_cons (ps_if (pt_not (pt_val (pe_md (pv 0) L.cl Df' hr (by decide) passN (pa_cons (pv 1) pa_nil)))) (pss_one (ps_expr (pe_md (pv 0) L.cl Dw hr (by decide) passN (pa_cons (pv 1) pa_nil)))) pss_nil)
    (pss_one (ps_ret (pe_fld (pe_dget hu (pe_fld (pv 0) rfl) (pv 1) (fun _ _ => rfl)) rfl))))), ?_⟩
  refine q_ref (ed_var rfl rd) (fun z1 H1 e1 => ?_) (fun z1 H1 e1 => k1 z1 H1 e1)
  cases rd with
  | str z hz =>
    obtain ⟨g1, g2⟩ := k2 z rfl z1
    refine q_need (ed_inTerms L (la.ext (exN e1)) rfl rfl) (fun h H2 e2 => ?_) (fun h H2 e2 => g1 h H2 (e1.trans e2))
    obtain ⟨vt, hvt⟩ := Option.isSome_iff_exists.mp h
    obtain ⟨n, rt, tabs, k⟩ := g2 vt hvt
    have x2 : ExtN H H2 := exN (e1.trans e2)
    have la2 := la.ext x2
    refine ⟨_, rfl, x, dx, _, rfl, la2.i, lkF_no (by decide +kernel) (by decide +kernel) (by decide +kernel) (by decide +kernel), _, rfl, x, dx, a1, a2, a3, a4, ks, z, rfl, la2, fun H3 s3 => ⟨false, rfl, ?_⟩⟩
    have x3 : ExtN H H3 := x2.trans (exN s3)
    have la3 := la.ext x3
    refine iteT ⟨_, rfl, x, dx, _, rfl, la3.i, lkF_no (by decide +kernel) (by decide +kernel) (by decide +kernel) (by decide +kernel), _, rfl, x, dx, a1, a2, a3, a4, ks, z, vt, n, rfl, la3, hvt, rt.ext x3, (tabs.ext (e1.trans e2)).ext s3, fun H4 o4 => ?_⟩
    obtain ⟨p, dp, r, h3, hp⟩ := o4.kn
    have nx3 : x ≠ a3 := ne_of la3.i la3.n (fun z => nomatch z)
    have nx4 : x ≠ a4 := ne_of la3.i la3.d (fun z => nomatch z)
    have hx4 : H4 x = some (.ins C dx (lkF a1 a2 a3 a4)) := o4.keep _ _ la3.i (fun _ z => nomatch z) nx3 nx4
    have hg : DGet H4 a3 (.str z) (some (.ref p)) := by
      have q := DGet.k (k := Sum.inr z) h3
      rw [show valV [((Sum.inr z : Key), V.ref p)] (Sum.inr z) = some (V.ref p) from valV_pos rfl] at q
      exact q
    refine ⟨_, rfl, x, C, dx, _, .ref a3, rfl, hx4, L.cl, L.nKnown, lkF_known, _, rfl, a3, .ref p, rfl, hg, p, CK, dp, _, .int n, rfl, hp, L.ck, L.nOwn, lk_here, ?_⟩
    exact k H4 ⟨fun b o hb ho hb3 hb4 => o4.keep b o (x3 b o hb ho) ho hb3 hb4, o4.tabs, p, dp, r, h3, hp⟩
  | _ => simp [isWord] at z1
end
end Lk
set_option Elab.async false
set_option linter.all false
set_option maxRecDepth 100000
set_option maxHeartbeats 8000000
namespace Lk
open PySem PySem.Spec PyProof.Rows L2 HotX L2H LamX
open Evl (Ev EvL EvA EvT Ex EvU)
/-! ### what the law asks of a book that holds la alone -/
def formsD (d : PyData) : List PyData := [d, .tuple [.str "plus", d, .tuple [.str "num", .int 1]], .tuple [.str "when", .tuple [.str "num", .int 0], .tuple [.str "num", .int 1], d]]
theorem noTerm_bad : ∀ d ∈ noTerm_7, ∀ e ∈ formsD d, deepOk 8 e = false := by decide +kernel
def badNames : List PyData := [.str "A", .str "", .none, .str "abcdefg", .tuple [.str "a"]]
theorem badNames_bad : ∀ d ∈ badNames, isWord d = false := by decide +kernel
theorem ok_state0 : isState (.dict []) = true := by decide +kernel
theorem no_state1 : isState (.dict [(.tuple [], .int 1)]) = false := by decide +kernel
theorem no_stateL : isState (.list []) = false := by decide +kernel
theorem ok_tower7 : deepOk 8 (towerD 7) = true := by decide +kernel
theorem la_word : isWord (.str "la") = true := by decide +kernel
theorem lb_word : isWord (.str "lb") = true := by decide +kernel
def laK (vt : V) : List (Key × V) := [(Sum.inr "la", vt)]
theorem laK_at (vt : V) (z : Str) : (valV (laK vt) (Sum.inr z)).isSome = decide (z = "la") := by
  by_cases h : z = "la"
  · rw [decide_eq_true h, h]
    rw [show valV (laK vt) (Sum.inr "la") = some vt from valV_pos rfl]
    rfl
  · rw [decide_eq_false h]
    have e : valV (laK vt) (Sum.inr z) = none := by
      refine (valV_neg ?_).trans valV_nil
      exact fun q => h (Sum.inr.inj q).symm
    rw [e]
    rfl
def refLB : PyData → PyData → Bool
  | .str z, dt => isWord (.str z) && (!deepOk 8 dt || (decide (z = "la") || ((lkOk 8 dt && decide ((lkMem 8 dt).length < 64)) && (lkMem 8 dt).any fun y => !decide (y = "la"))))
  | _, _ => false
section
variable {K : PySem.W.Frag} {C CK cP cL CS Pt Pw : Addr} {σ : St} {H : Hp} {Q : VK} {E : XK} {t : TA} {x dx a1 a2 a3 a4 : Addr} {vt : V} {d dn dt : PyData}
theorem m_ev {i : Nat} {m : Str} {sp : Sp} {fs : List (Str × V)} {ds : List PyData} (h0 : σ[i]? = some (some (.ref x))) (hx : H x = some (.ins C dx fs)) (hm : fs.lookup m = none) (ha : EvDs t σ H ds) (k : ∀ vs H2, Ex H H2 → Rs H2 vs ds → sp (.ref x :: vs) H2 Q E) : tMeth C m sp [] E (tVar i) t σ H Q :=
  ⟨_, h0, x, dx, fs, rfl, hx, hm, ha H (Ex.refl H) _ fun vs H2 e2 rs => by rw [List.append_nil]; exact k vs H2 e2 rs⟩
theorem lam_def (la : LkAt C H x dx a1 a2 a3 a4 (laK vt)) (h0 : σ[9]? = some (some (.ref x))) (ha : EvDs t σ H [dn, dt]) (hr : refLB dn dt = true) (hq : ∀ H2, Same H H2 → E (.ref cL) none H2) : tMeth C "define" (spDefine C cP cL) [] E (tVar 9) t σ H Q := by
  refine m_ev h0 la.i (lkF_no (by decide +kernel) (by decide +kernel) (by decide +kernel) (by decide +kernel)) ha fun vs H2 e2 rs => ?_
  obtain ⟨v1, v2, _, _, rfl, hd, r1, r2⟩ := rs.two rfl
  cases hd
  have hq2 : ∀ H', Same H2 H' → E (.ref cL) none H' := fun H' s' => hq H' (Same.trans e2 s')
  refine ⟨x, dx, a1, a2, a3, a4, _, v1, v2, dn, dt, rfl, la.ext (exN e2), by simp [laK], r1, r2, fun hw => ?_, fun _ _ => hq2, fun z hz hw hd => ?_⟩
  · exfalso
    cases dn with
    | str z =>
      have h1 := (Bool.and_eq_true .. ▸ hr).1
      rw [hw] at h1
      cases h1
    | _ => cases hr
  · subst hz
    refine ⟨fun _ => hq2, fun hin => ?_⟩
    rw [laK_at] at hin
    have h2 := (Bool.and_eq_true .. ▸ hr).2
    rw [hd, hin] at h2
    have h3 : ((lkOk 8 dt && decide ((lkMem 8 dt).length < 64)) && (lkMem 8 dt).any fun y => !decide (y = "la")) = true := h2
    rw [Bool.and_eq_true, Bool.and_eq_true] at h3
    refine ⟨h3.1.1, of_decide_eq_true h3.1.2, fun _ => hq2, fun hall => ?_⟩
    exfalso
    obtain ⟨y, hy, hy2⟩ := List.any_eq_true.mp h3.2
    have := List.all_eq_true.mp hall y hy
    rw [laK_at] at this
    rw [this] at hy2
    cases hy2
theorem lam_defB (la : LkAt C H x dx a1 a2 a3 a4 (laK vt)) (h0 : σ[9]? = some (some (.ref x))) (ha : EvDs t σ H [dn, dt]) (hr : isWord dn = false) (hq : ∀ H2, Same H H2 → E (.ref cP) none H2) : tMeth C "define" (spDefine C cP cL) [] E (tVar 9) t σ H Q := by
  refine m_ev h0 la.i (lkF_no (by decide +kernel) (by decide +kernel) (by decide +kernel) (by decide +kernel)) ha fun vs H2 e2 rs => ?_
  obtain ⟨v1, v2, _, _, rfl, hd, r1, r2⟩ := rs.two rfl
  cases hd
  have hn : ∀ {p : Prop}, isWord dn = true → p := fun h => by rw [hr] at h; cases h
  exact ⟨x, dx, a1, a2, a3, a4, _, v1, v2, dn, dt, rfl, la.ext (exN e2), by simp [laK], r1, r2, fun _ H' s' => hq H' (Same.trans e2 s'), fun h => hn h, fun _ _ h => hn h⟩
theorem lam_val (la : LkAt C H x dx a1 a2 a3 a4 (laK vt)) (h0 : σ[9]? = some (some (.ref x))) (ha : EvDs t σ H [.str "lb"]) (hq : ∀ H2, Same H H2 → E (.ref cL) none H2) : tMeth C "value" (spValue C CK cP cL Pt Pw) [] E (tVar 9) t σ H Q := by
  refine m_ev h0 la.i (lkF_no (by decide +kernel) (by decide +kernel) (by decide +kernel) (by decide +kernel)) ha fun vs H2 e2 rs => ?_
  obtain ⟨v1, _, rfl, hd, r1⟩ := rs.one rfl
  cases hd
  refine ⟨x, dx, a1, a2, a3, a4, _, v1, .str "lb", rfl, la.ext (exN e2), r1, fun h => absurd h (by rw [lb_word]; exact fun z => nomatch z), fun z hz _ => ?_⟩
  cases hz
  refine ⟨fun _ H' s' => hq H' (Same.trans e2 s'), fun v hv => ?_⟩
  exfalso
  have := laK_at vt "lb"
  rw [hv, decide_eq_false (by decide +kernel)] at this
  cases this
theorem lam_valB (la : LkAt C H x dx a1 a2 a3 a4 (laK vt)) (h0 : σ[9]? = some (some (.ref x))) (ha : EvDs t σ H [d]) (hr : isWord d = false) (hq : ∀ H2, Same H H2 → E (.ref cP) none H2) : tMeth C "value" (spValue C CK cP cL Pt Pw) [] E (tVar 9) t σ H Q := by
  refine m_ev h0 la.i (lkF_no (by decide +kernel) (by decide +kernel) (by decide +kernel) (by decide +kernel)) ha fun vs H2 e2 rs => ?_
  obtain ⟨v1, _, rfl, hd, r1⟩ := rs.one rfl
  cases hd
  exact ⟨x, dx, a1, a2, a3, a4, _, v1, d, rfl, la.ext (exN e2), r1, fun _ H' s' => hq H' (Same.trans e2 s'), fun z hz h => by rw [hr] at h; cases h⟩
theorem lam_rea (la : LkAt C H x dx a1 a2 a3 a4 (laK vt)) (h0 : σ[9]? = some (some (.ref x))) (ha : EvDs t σ H [.str "lb"]) (hq : ∀ H2, Same H H2 → E (.ref cL) none H2) : tMeth C "readings" (spReadings C cP cL) [] E (tVar 9) t σ H Q := by
  refine m_ev h0 la.i (lkF_no (by decide +kernel) (by decide +kernel) (by decide +kernel) (by decide +kernel)) ha fun vs H2 e2 rs => ?_
  obtain ⟨v1, _, rfl, hd, r1⟩ := rs.one rfl
  cases hd
  refine ⟨x, dx, a1, a2, a3, a4, _, v1, .str "lb", rfl, la.ext (exN e2), r1, fun h => absurd h (by rw [lb_word]; exact fun z => nomatch z), fun z hz _ => ?_⟩
  cases hz
  exact ⟨by rw [laK_at]; decide +kernel, fun H' s' => hq H' (Same.trans e2 s')⟩
theorem lam_reaB (la : LkAt C H x dx a1 a2 a3 a4 (laK vt)) (h0 : σ[9]? = some (some (.ref x))) (ha : EvDs t σ H [d]) (hr : isWord d = false) (hq : ∀ H2, Same H H2 → E (.ref cP) none H2) : tMeth C "readings" (spReadings C cP cL) [] E (tVar 9) t σ H Q := by
  refine m_ev h0 la.i (lkF_no (by decide +kernel) (by decide +kernel) (by decide +kernel) (by decide +kernel)) ha fun vs H2 e2 rs => ?_
  obtain ⟨v1, _, rfl, hd, r1⟩ := rs.one rfl
  cases hd
  exact ⟨x, dx, a1, a2, a3, a4, _, v1, d, rfl, la.ext (exN e2), r1, fun _ H' s' => hq H' (Same.trans e2 s'), fun z hz h => by rw [hr] at h; cases h⟩
theorem ed_names {i : Nat} (la : LkAt C H x dx a1 a2 a3 a4 (laK vt)) (h0 : σ[i]? = some (some (.ref x))) : EvD (tMeth C "names" (spNames C) [] E (tVar i) tNil) σ H (.list [.str "la"]) := fun H1 e1 Q1 q1 =>
  m_ev h0 (la.ext (exN e1)).i (lkF_no (by decide +kernel) (by decide +kernel) (by decide +kernel) (by decide +kernel)) eds_nil fun vs H2 e2 rs => by
    cases rs
    exact ⟨x, dx, a1, a2, a3, a4, _, rfl, (la.ext (exN e1)).ext (exN e2), fun H3 p s3 hp => q1 _ H3 (Evl.Ex.trans e2 s3) (.lst hp (.cons (.str _ (by decide +kernel)) .nil))⟩
theorem rs_strs {H : Hp} : ∀ {zs : List Str}, (∀ z ∈ zs, z.length ≤ 100000) → Rs H (zs.map V.str) (zs.map PyData.str)
  | [], _ => .nil
  | z :: r, h => .cons (.str z (h z List.mem_cons_self)) (rs_strs fun y hy => h y (List.mem_cons_of_mem _ hy))
theorem ed_looks {zs : List Str} (ha : EvDs t σ H [d]) (hok : lkOk 8 d = true) (hl : (lkMem 8 d).length < 64) (hz : ∀ ys, Found ys (lkMem 8 d) → ys = zs) : EvD (tCall (spLooks 8) [] E t) σ H (.list (zs.map PyData.str)) := fun H1 e1 Q1 q1 =>
  ha H1 e1 _ fun vs H2 e2 rs => by
    obtain ⟨v, _, rfl, hd, r⟩ := rs.one rfl
    cases hd
    exact ⟨v, d, rfl, r, hok, hl, fun ys p H3 s3 hp fd => by
      have e := hz ys fd
      subst e
      exact q1 _ H3 (Evl.Ex.trans e2 s3) (.lst hp (rs_strs fd.sz))⟩
end
theorem found_nil (ys : List Str) (f : Found ys []) : ys = [] := List.eq_nil_iff_forall_not_mem.mpr fun z hz => by have := (f.mem z).mp hz; cases this
theorem found_two (ys : List Str) (f : Found ys ["lb", "la", "lb"]) : ys = (["la", "lb"] : List Str) := by
  have hla : ("la" : Str) ∈ ys := (f.mem _).mpr (by simp)
  have hlb : ("lb" : Str) ∈ ys := (f.mem _).mpr (by simp)
  have hin : ∀ z ∈ ys, z = "la" ∨ z = "lb" := fun z hz => by
    have := (f.mem z).mp hz
    simp at this
    rcases this with h | h | h
    · exact .inr h
    · exact .inl h
    · exact .inr h
  have hne : ("la" : Str) ≠ "lb" := by decide +kernel
  match ys, f.nd, f.srt, hla, hlb, hin with
  | [], _, _, hla, _, _ => cases hla
  | [a], _, _, hla, hlb, _ =>
    rw [List.mem_singleton] at hla hlb
    exact absurd (hla.trans hlb.symm) hne
  | [a, b], nd, srt, hla, hlb, hin =>
    have hab : a ≠ b := fun e => by rw [e] at nd; simp at nd
    rcases hin a (by simp) with rfl | rfl
    · rcases hin b (by simp) with rfl | rfl
      · exact absurd rfl hab
      · rfl
    · rcases hin b (by simp) with rfl | rfl
      · exact absurd srt (by decide +kernel)
      · exact absurd rfl hab
  | a :: b :: c :: r, nd, _, _, _, hin =>
    exfalso
    simp only [List.nodup_cons, List.mem_cons, not_or] at nd
    have ha := hin a (by simp)
    have hb := hin b (by simp)
    have hc := hin c (by simp)
    rcases ha with rfl | rfl <;> rcases hb with rfl | rfl <;> rcases hc with rfl | rfl <;> simp_all
/-- tables stand where another object changed -/
theorem tabs_but {T : List (Addr × Str)} {H H' : Hp} {l : Addr} {o0 : HO} (t : Tabs T H) (h : H l = some o0) (h1 : ∀ ps, HO.tbl ps ≠ o0) (h2 : ∀ p, HO.ext p ≠ o0) (keep : ∀ b o, H b = some o → b ≠ l → H' b = some o) : Tabs T H' := fun p hp => by
  obtain ⟨ps, g1, g2, g3⟩ := t p hp
  refine ⟨ps, keep _ _ g1 (ne_of g1 h (h1 ps)), g2, fun pos cv hc => ?_⟩
  obtain ⟨c, e1, e2⟩ := g3 pos cv hc
  exact ⟨c, e1, keep _ _ e2 (ne_of e2 h (fun z => by unfold CodeO at z; exact h2 _ z))⟩
theorem num_but {H H' : Hp} {l : Addr} {o0 : HO} {v : V} {n : Int} (r : R H v (numD n)) (h : H l = some o0) (h1 : ∀ xs, HO.tup xs ≠ o0) (keep : ∀ b o, H b = some o → b ≠ l → H' b = some o) : R H' v (numD n) := by
  unfold numD at r ⊢
  cases r with
  | tup hq rs =>
    refine .tup (keep _ _ hq (ne_of hq h (h1 _))) ?_
    cases rs with
    | cons r1 t1 => cases t1 with
      | cons r2 t2 => cases t2; cases r1; cases r2; exact .cons (.str _ (by assumption)) (.cons (.int _) .nil)
def Fr11 (a : Addr) (σ : St) : Prop := ∃ o1 o2 o3 o4 o5 o6 o7 o8 o9 o10, σ = [some (.ref a), o1, o2, o3, o4, o5, o6, o7, o8, o9, o10]
/-- a refusing def that lets its thing through: `need(x) is not None` is false -/
theorem et_refN {C : Addr} {f : PyData → Bool} {ta : TA} {σ : St} {H : Hp} {d : PyData} (h : EvDs ta σ H [d]) (hf : f d = true) : EvT (tB (tNotN (tCall (spRef C f) [] E0 ta))) σ H false := fun H1 e Q q =>
  h H1 e _ fun vs H2 e2 rs => by
    obtain ⟨v, d', rfl, hd, rd⟩ := rs.one rfl
    cases hd
    exact ⟨v, d, rfl, rd, (fun _ H3 s3 => ⟨false, rfl, q H3 (e2.trans s3)⟩), (fun z => absurd z (by rw [hf]; exact fun z => nomatch z))⟩
/-- if told(..) != ('refused', nm): return False -/
theorem if_told {K : PySem.W.Frag} {T0 : List (Addr × Str)} {cs : List Addr} {CL : Addr} {σ : St} {H : Hp} {t : XK → TE} {D : Addr} {i : Nat} {nm : Str} {Dn : Ends} {tu : TS} (hT : Tabs T0 H) (O : Own K cs CL D i) (hnm : wordsL[i]? = some nm) (hs : SeqAt.shaped (refused nm) = true) (hl : nm.length ≤ 100000) (he : PyData.eqv (refused nm) (refused nm) = true)
    (ht : ∀ H1, ExtN H H1 → ∀ (E : XK) (Q : VK), (∀ H2, Same H1 H2 → E (.ref D) none H2) → t E σ H1 Q) (k : ∀ H2, ExtN H H2 → Tabs T0 H2 → Dn.nx σ H2) :
    tIfS (tTest (tOp (rNeD K) (tLam T0 (TTold K cs CL) t) (tTup (tCons (tC (.str "refused")) (tCons (tC (.str nm)) tNil))))) tu tNext Dn σ H := by
  refine told_ev hT O hnm ht fun v H7 x8 t8 r8 => ?_
  refine ⟨Evl.sz_of (by simp), fun p9 hp9 => ⟨refused nm, refused nm, (r8.ext (exN (Ex.new hp9))).dp (SeqAt.canLay_of_shaped hs), ?_, hs, hs, ?_⟩⟩
  · exact (R.tup (ds := [.str "refused", .str nm]) upd_same (.cons (.str _ (by decide +kernel)) (.cons (.str _ hl) .nil))).dp (SeqAt.canLay_of_shaped hs)
  · refine ⟨false, by rw [he]; rfl, ?_⟩
    exact k _ (x8.trans (exN (Ex.new hp9))) (t8.ext (Ex.new hp9))
theorem q_drawn {σ : St} {H : Hp} {ta tb : TE} {i : Nat} {tz : TS} {D : Ends} {E : XK} {c k : Int} (h1 : Ev ta σ H (.int c)) (h2 : Ev tb σ H (.int k)) (h0 : 0 ≤ k) (hk : k ≤ 100000) (q : ∀ n H1, 0 ≤ n → n < bigP → Ex H H1 → tz D (σ.set i (some (.int n))) H1) :
    tSeq (tAsg (tCall spDrawn [] E (tCons ta (tCons tb tNil))) (gName i)) tz D σ H :=
  h1 H (Ex.refl H) _ fun H1 e1 => h2 H1 e1 _ fun H2 e2 => ⟨c, k, rfl, h0, hk, fun n H3 n0 n1 s3 => q n H3 n0 n1 ((e1.trans e2).trans s3)⟩
/-- the same over a cell of the script -/
theorem q_drawnC {K : PySem.W.Frag} {σ : St} {H : Hp} {ta tb tc : TE} {i : Nat} {tz : TS} {D : Ends} {E E' : XK} {a : Addr} {ns : List Int} {k : Int} (h1 : Ev ta σ H (.ref a)) (h2 : Ev tb σ H (.int k)) (h3 : Ev tc σ H (.int k)) (hs : ∀ H1, Ex H H1 → SqL K H1 a (ns.map V.int)) (hl : ns.length ≤ 1000) (h0 : 0 ≤ k) (hk : k ≤ 100000) (q : ∀ n H1, 0 ≤ n → n < bigP → Ex H H1 → tz D (σ.set i (some (.int n))) H1) :
    tSeq (tAsg (tCall spDrawn [] E (tCons (tCall (spCell K) [] E' (tCons ta (tCons tb tNil))) (tCons tc tNil))) (gName i)) tz D σ H :=
  h1 H (Ex.refl H) _ fun H1 e1 => h2 H1 e1 _ fun H2 e2 => ⟨a, ns, k, rfl, hs H2 (e1.trans e2), hl, h0, hk, fun c H3 s3 => h3 H3 ((e1.trans e2).trans s3) _ fun H4 e4 => ⟨c, k, rfl, h0, hk, fun n H5 n0 n1 s5 => q n H5 n0 n1 ((((e1.trans e2).trans s3).trans e4).trans s5)⟩⟩
theorem mk_ev {C : Addr} {sp : Sp} {E : XK} {t : TA} {σ : St} {H : Hp} {Q : VK} {ds : List PyData} (ha : EvDs t σ H ds) (k : ∀ vs H1, Ex H H1 → Rs H1 vs ds → ∀ x dx, H1 x = none → H1 dx = none → dx ≠ x → sp (.ref x :: vs) (upd (upd H1 dx (.own x)) x (.ins C dx [])) (fun v H2 => v = .non ∧ Q (.ref x) H2) E) : tMake C sp [] E t σ H Q :=
  ha H (Ex.refl H) _ fun vs H1 e1 rs x dx hx hdx hne => by rw [List.append_nil]; exact k vs H1 e1 rs x dx hx hdx hne
end Lk
set_option Elab.async false
set_option linter.all false
set_option maxRecDepth 100000
set_option maxHeartbeats 8000000
namespace Lk
open PySem PySem.Spec PyProof.Rows L2 HotX L2H LamX
open Evl (Ev EvL EvA EvT Ex EvU)
abbrev sLaw : Stmt := topS 48
theorem scLaw : FnScope ["script", "k", "more", "j", "here", "none", "some", "both", "bad", "looks", "term"] ["script"] (defScope sLaw) := ⟨rfl, rfl, rfl, by decide +kernel, rfl, by decide +kernel, by decide +kernel⟩
def spLaw (K : PySem.W.Frag) (Pt Pw : Addr) : Sp := fun vs H Q _ => ∃ (a : Addr) (ns : List Int), vs = [.ref a] ∧ SqL K H a (ns.map V.int) ∧ ns.length ≤ 63 ∧ H Pt = some (.tbl #[]) ∧ H Pw = some (.tbl #[]) ∧ ∀ H', Q (.bl true) H'
section
variable {P : Program} {w : World} {K : PySem.W.Frag} {mg : Str → Option Value} {base : Heap}
theorem ok_law {f gt fw CL c0 cL c2 cP CS c5 c Pt Pw C CK fI : Addr} {fd fdt fdw fdI : FuncData} {oc kV doc pm ct : Value} {od an : Option Addr} {osl : Array (Option Value)}
    (lk : K.lookup f = some ⟨oc, od, .func (PySem.W.fnOf "law" "law" (defArgs sLaw) (defBody sLaw) (defScope sLaw) .none kV doc pm an (.ref c) ct), osl⟩) (hcd : PySem.W.codeIn K (.ref c) "law" = true)
    (T : Tx K mg) (L : Lc K mg C CK) (max : mg "max" = none) (min : mg "min" = none) (FT : L2.Fun K "_law_told" "_law_told" sTold gt fdt) (gt' : mg "_law_told" = some (.ref gt)) (bt : Binds K fdt ["deed"] [])
    (FW : FnP P w K mg base 1 fw fdw ["e"] (spWord K [c0, cL, c2, cP, CS, c5] CL)) (gw : mg "_law_word" = some (.ref fw)) (kw : PySem.W.keepIn K (.ref fw) = true) (bw : Binds K fdw ["e"] []) (gL : mg "LookError" = some (.ref CL))
    (O1 : Own K [c0, cL, c2, cP, CS, c5] CL cL 1) (O3 : Own K [c0, cL, c2, cP, CS, c5] CL cP 3) (O4 : Own K [c0, cL, c2, cP, CS, c5] CL CS 4)
    (Dc : Df P w K mg base "_law_cell" 1 ["script", "k"] (spCell K)) (Dd : Df P w K mg base "_law_drawn" 1 ["cell", "k"] spDrawn) (Dno : Df P w K mg base "_law_none" 2 [] (spF 0 fun _ => .list noTerm_7)) (Dtw : Df P w K mg base "_law_tower" 1 ["many"] spTower)
    (Dnt : Df P w K mg base "need_term" 12 ["term"] (spRef cL (deepOk 8))) (Dli : Df P w K mg base "looks_in" 9 ["term"] (spLooks 8))
    (ML : Mk K C fI) (FI : FnOk P w K mg base (L2N.CX P w) 5 fI fdI ["self", "state"] (spInit C CS)) (bI : Binds K fdI ["self", "state"] [])
    (Ddef : Md P w K mg base C "define" 13 ["self", "name", "term"] (spDefine C cP cL)) (Dnam : Md P w K mg base C "names" 1 ["self"] (spNames C)) (Dsho : Md P w K mg base C "show" 5 ["self", "state"] (spShow CS)) (Drea : Md P w K mg base C "readings" 3 ["self", "name"] (spReadings C cP cL)) (Dval : Md P w K mg base C "value" 4 ["self", "name"] (spValue C CK cP cL Pt Pw))
    (TB : TabB base mg c Pt) (hPP : Pt ≠ Pw) :
    FnOk P w K mg base L2.CX0 16 f (PySem.W.fnOf "law" "law" (defArgs sLaw) (defBody sLaw) (defScope sLaw) .none kV doc pm an (.ref c) ct) ["script"] (spLaw K Pt Pw) := by
  refine fn_of lk hcd scLaw (fun vs H Q E h => by obtain ⟨_, _, rfl, _⟩ := h; rfl) (fun A outer s H vs Q E hr h => ?_)
  obtain ⟨a, ns, rfl, hS, hlen, hP, hPw, kk⟩ := h
  obtain ⟨ocT, odT, kVT, docT, pmT, anT, cdT, ctT, oslT, rfl, lkT, hcT⟩ := FT.ex
  have hu := hu_of hr
  let X : Cx := (cxOf L2.CX0 P w K mg base ["script", "k", "more", "j", "here", "none", "some", "both", "bad", "looks", "term"] "law" (defScope sLaw) f (.ref c) A outer s H E).nox
  have lamX : ∀ {params : Arguments} {body : Expr} {scope : Scope} {t : XK → TE} {p lpos pos : Pos} (LS : LamS (defScope sLaw) scope) (hdef : defaultsOf params X.env = ([], []))
      (hbind : ∀ (q : Str) (cl : List (Str × Addr)) (pm cv ctv : Value), bindArgs (PySem.W.kla_fn "<lambda>" q params body scope cl pm cv ctv) ⟨[], []⟩ = pure [])
      (hbody : ∀ (A : Around) (outer : List Env) (s : Shared) (H : Hp) (E : XK) (f c' : Addr), Room 13 (A.deeper (lamEnv X scope s.heap.objs.size f c')) → PE (lamCxN X A outer s H E scope f c') body (t E)),
      PE X (.Call (.Name "_law_told" p) [.Lambda params body scope lpos] [] pos) (tLam (T2 Pt Pw) (TTold K [c0, cL, c2, cP, CS, c5] CL) t) := fun {params body scope t p lpos pos} LS hdef hbind hbody =>
    pe_lamN (X := X) (T := T2 Pt Pw) (x := "_law_told") (a := "deed") (g := gt) (c := c) (P := Pt) (k := 13) (by rfl) gt' FT.kp lkT hcT bt scTold rfl (Or.inl rfl) (told_gives (X := X) FW gw kw bw gL) TB rfl List.mem_cons_self
      (fun p hp e => by
        rcases List.mem_cons.mp hp with e1 | hp
        · rw [e1]; rfl
        · rw [List.mem_singleton.mp hp] at e; exact absurd e hPP.symm) hr LS hdef hbind hbody
  refine ⟨_, PSs.nox (pss_cons (ps_for PassesOwn.never rfl (pi_range1 (by rfl) T.rng (pa_cons (pe_callB (call_max2 rfl) (by rfl) max (by decide +kernel) (pa_cons pe_int (pa_cons (pe_callB (call_min2 rfl) (by rfl) min (by decide +kernel) (pa_cons pe_int (pa_cons (pe_callB call_len_seq (by rfl) T.len PySem.boot_len (pa_cons (pv 0) pa_nil)) pa_nil))) pa_nil))) pa_nil)) (pg_name (i := 1) scLaw.nd rfl (Or.inl rfl)) (pss_cons (ps_set (i := 2) scLaw.nd rfl (Or.inl rfl) (pe_df Dd hr (by decide) (by rfl) passN (pa_cons (pe_df Dc hr (by decide) (by rfl) passN (pa_cons (pv 0) (pa_cons (pv 1) pa_nil))) (pa_cons (pv 1) pa_nil))))
      (pss_cons (ps_set (i := 9) scLaw.nd rfl (Or.inr rfl) (pe_make ML FI (hr.mono (by decide)) (by rfl) L.gC bI .nil passN (pa_cons pe_dnewK pa_nil)))
      (pss_cons (ps_expr (pe_md (pv 9) L.cl Ddef hr (by decide) passN (pa_cons pe_str (pa_cons (pe_tup (pa_cons pe_str (pa_cons pe_int pa_nil))) pa_nil))))
      (pss_cons (ps_for PassesOwn.never rfl (pi_range1 (by rfl) T.rng (pa_cons pe_int pa_nil)) (pg_name (i := 3) scLaw.nd rfl (Or.inl rfl)) (pss_cons (ps_set (i := 4) scLaw.nd rfl (Or.inl rfl) (pe_df Dd hr (by decide) (by rfl) passN (pa_cons (pv 2) (pa_cons (pv 3) pa_nil))))
      (pss_cons (ps_set (i := 5) scLaw.nd rfl (Or.inl rfl) (pe_ix ix_list (pe_df0 Dno hr (by decide) (by rfl) passN) (pe_op op_mod (pv 4) (pe_callB call_len_seq (by rfl) T.len PySem.boot_len (pa_cons (pe_df0 Dno hr (by decide) (by rfl) passN) pa_nil))) (fun _ _ => rfl)))
      (pss_cons (ps_set (i := 10) scLaw.nd rfl (Or.inr rfl) (pe_ix ix_list (pe_lst (pa_cons (pv 5) (pa_cons (pe_tup (pa_cons pe_str (pa_cons (pv 5) (pa_cons (pe_tup (pa_cons pe_str (pa_cons pe_int pa_nil))) pa_nil)))) (pa_cons (pe_tup (pa_cons pe_str (pa_cons (pe_tup (pa_cons pe_str (pa_cons pe_int pa_nil))) (pa_cons (pe_tup (pa_cons pe_str (pa_cons pe_int pa_nil))) (pa_cons (pv 5) pa_nil))))) pa_nil)))) (pe_op op_mod (pe_op op_fdiv (pv 4) pe_int) pe_int) (fun _ _ => rfl)))
      (pss_cons (ps_set (i := 6) scLaw.nd rfl (Or.inl rfl) (pe_lst (pa_cons (lamX (t := fun E => tCall (spRef cL (deepOk 8)) [] E (tCons (tVar 10) tNil)) (lamS_by (by decide +kernel)) rfl (fun _ _ _ _ _ => rfl) (fun A outer s H E f c' hr' => (pe_df Dnt hr' (by decide) (by rfl) (taken (L2N.takes_of rfl rfl rfl rfl) fun _ _ _ _ h => h) (pa_cons (pv 10) pa_nil)))) pa_nil)))
      (pss_cons (ps_expr (pe_bm PySem.F.plainAttrs_list PySem.F.slot_list_append PySem.F.type_list_append mt_append (pv 6) (pa_cons (lamX (t := fun E => tMeth C "define" (spDefine C cP cL) [] E (tVar 9) (tCons (tC (.str "lb")) (tCons (tVar 10) tNil))) (lamS_by (by decide +kernel)) rfl (fun _ _ _ _ _ => rfl) (fun A outer s H E f c' hr' => (pe_md (pv 9) L.cl Ddef hr' (by decide) (taken (L2N.takes_of rfl rfl rfl rfl) fun _ _ _ _ h => h) (pa_cons pe_str (pa_cons (pv 10) pa_nil))))) pa_nil)))
      (pss_cons (ps_expr (pe_bm PySem.F.plainAttrs_list PySem.F.slot_list_append PySem.F.type_list_append mt_append (pv 6) (pa_cons (lamX (t := fun E => tMeth C "define" (spDefine C cP cL) [] E (tVar 9) (tCons (tC (.str "la")) (tCons (tTup (tCons (tC (.str "num")) (tCons (tC (.int 2)) tNil))) tNil))) (lamS_by (by decide +kernel)) rfl (fun _ _ _ _ _ => rfl) (fun A outer s H E f c' hr' => (pe_md (pv 9) L.cl Ddef hr' (by decide) (taken (L2N.takes_of rfl rfl rfl rfl) fun _ _ _ _ h => h) (pa_cons pe_str (pa_cons (pe_tup (pa_cons pe_str (pa_cons pe_int pa_nil))) pa_nil))))) pa_nil)))
      (pss_cons (ps_expr (pe_bm PySem.F.plainAttrs_list PySem.F.slot_list_append PySem.F.type_list_append mt_append (pv 6) (pa_cons (lamX (t := fun E => tMeth C "define" (spDefine C cP cL) [] E (tVar 9) (tCons (tC (.str "lb")) (tCons (tTup (tCons (tC (.str "plus")) (tCons (tTup (tCons (tC (.str "look")) (tCons (tC (.str "la")) tNil))) (tCons (tTup (tCons (tC (.str "look")) (tCons (tC (.str "lc")) tNil))) tNil)))) tNil))) (lamS_by (by decide +kernel)) rfl (fun _ _ _ _ _ => rfl) (fun A outer s H E f c' hr' => (pe_md (pv 9) L.cl Ddef hr' (by decide) (taken (L2N.takes_of rfl rfl rfl rfl) fun _ _ _ _ h => h) (pa_cons pe_str (pa_cons (pe_tup (pa_cons pe_str (pa_cons (pe_tup (pa_cons pe_str (pa_cons pe_str pa_nil))) (pa_cons (pe_tup (pa_cons pe_str (pa_cons pe_str pa_nil))) pa_nil)))) pa_nil))))) pa_nil)))
      (pss_cons (ps_expr (pe_bm PySem.F.plainAttrs_list PySem.F.slot_list_append PySem.F.type_list_append mt_append (pv 6) (pa_cons (lamX (t := fun E => tMeth C "define" (spDefine C cP cL) [] E (tVar 9) (tCons (tC (.str "lb")) (tCons (tTup (tCons (tC (.str "look")) (tCons (tC (.str "lb")) tNil))) tNil))) (lamS_by (by decide +kernel)) rfl (fun _ _ _ _ _ => rfl) (fun A outer s H E f c' hr' => (pe_md (pv 9) L.cl Ddef hr' (by decide) (taken (L2N.takes_of rfl rfl rfl rfl) fun _ _ _ _ h => h) (pa_cons pe_str (pa_cons (pe_tup (pa_cons pe_str (pa_cons pe_str pa_nil))) pa_nil))))) pa_nil)))
      (pss_cons (ps_expr (pe_bm PySem.F.plainAttrs_list PySem.F.slot_list_append PySem.F.type_list_append mt_append (pv 6) (pa_cons (lamX (t := fun E => tMeth C "value" (spValue C CK cP cL Pt Pw) [] E (tVar 9) (tCons (tC (.str "lb")) tNil)) (lamS_by (by decide +kernel)) rfl (fun _ _ _ _ _ => rfl) (fun A outer s H E f c' hr' => (pe_md (pv 9) L.cl Dval hr' (by decide) (taken (L2N.takes_of rfl rfl rfl rfl) fun _ _ _ _ h => h) (pa_cons pe_str pa_nil)))) pa_nil)))
      (pss_cons (ps_expr (pe_bm PySem.F.plainAttrs_list PySem.F.slot_list_append PySem.F.type_list_append mt_append (pv 6) (pa_cons (lamX (t := fun E => tMeth C "readings" (spReadings C cP cL) [] E (tVar 9) (tCons (tC (.str "lb")) tNil)) (lamS_by (by decide +kernel)) rfl (fun _ _ _ _ _ => rfl) (fun A outer s H E f c' hr' => (pe_md (pv 9) L.cl Drea hr' (by decide) (taken (L2N.takes_of rfl rfl rfl rfl) fun _ _ _ _ h => h) (pa_cons pe_str pa_nil)))) pa_nil)))
      (pss_one (ps_if (pt_cmpR (op_neD hr.units) (pv 6) (pe_op op_rep (pe_lst (pa_cons (pe_tup (pa_cons pe_str (pa_cons pe_str pa_nil))) pa_nil)) pe_int) (nomark _)) (pss_one (ps_ret pe_bl)) pss_nil)))))))))))))
      (pss_cons (ps_for PassesOwn.never rfl (pi_list (pe_lst (pa_cons pe_str (pa_cons pe_str (pa_cons pe_non (pa_cons pe_str (pa_cons (pe_tup (pa_cons pe_str pa_nil)) pa_nil))))))) (pg_name (i := 8) scLaw.nd rfl (Or.inr rfl)) (pss_cons (ps_set (i := 6) scLaw.nd rfl (Or.inl rfl) (pe_lst (pa_cons (lamX (t := fun E => tMeth C "define" (spDefine C cP cL) [] E (tVar 9) (tCons (tVar 8) (tCons (tTup (tCons (tC (.str "num")) (tCons (tC (.int 1)) tNil))) tNil))) (lamS_by (by decide +kernel)) rfl (fun _ _ _ _ _ => rfl) (fun A outer s H E f c' hr' => (pe_md (pv 9) L.cl Ddef hr' (by decide) (taken (L2N.takes_of rfl rfl rfl rfl) fun _ _ _ _ h => h) (pa_cons (pv 8) (pa_cons (pe_tup (pa_cons pe_str (pa_cons pe_int pa_nil))) pa_nil))))) pa_nil)))
      (pss_cons (ps_expr (pe_bm PySem.F.plainAttrs_list PySem.F.slot_list_append PySem.F.type_list_append mt_append (pv 6) (pa_cons (lamX (t := fun E => tMeth C "value" (spValue C CK cP cL Pt Pw) [] E (tVar 9) (tCons (tVar 8) tNil)) (lamS_by (by decide +kernel)) rfl (fun _ _ _ _ _ => rfl) (fun A outer s H E f c' hr' => (pe_md (pv 9) L.cl Dval hr' (by decide) (taken (L2N.takes_of rfl rfl rfl rfl) fun _ _ _ _ h => h) (pa_cons (pv 8) pa_nil)))) pa_nil)))
      (pss_cons (ps_expr (pe_bm PySem.F.plainAttrs_list PySem.F.slot_list_append PySem.F.type_list_append mt_append (pv 6) (pa_cons (lamX (t := fun E => tMeth C "readings" (spReadings C cP cL) [] E (tVar 9) (tCons (tVar 8) tNil)) (lamS_by (by decide +kernel)) rfl (fun _ _ _ _ _ => rfl) (fun A outer s H E f c' hr' => (pe_md (pv 9) L.cl Drea hr' (by decide) (taken (L2N.takes_of rfl rfl rfl rfl) fun _ _ _ _ h => h) (pa_cons (pv 8) pa_nil)))) pa_nil)))
      (pss_one (ps_if (pt_cmpR (op_neD hr.units) (pv 6) (pe_op op_rep (pe_lst (pa_cons (pe_tup (pa_cons pe_str (pa_cons pe_str pa_nil))) pa_nil)) pe_int) (nomark _)) (pss_one (ps_ret pe_bl)) pss_nil))))))
      (pss_cons (ps_if (PW.pt (pw_or (pt_cmp (pc_notN (pe_df Dnt hr (by decide) (by rfl) passN (pa_cons (pe_df Dtw hr (by decide) (by rfl) passN (pa_cons pe_int pa_nil)) pa_nil)))) (pw_or (pt_cmpR (op_neD hr.units) (pe_md0 (pv 9) L.cl Dnam hr (by decide) passN) (pe_lst (pa_cons pe_str pa_nil)) (nomark _)) (pw_or1 (pt_cmpR op_ne (pe_md (pv 9) L.cl Dval hr (by decide) passN (pa_cons pe_str pa_nil)) pe_int (nomark _)))))) (pss_one (ps_ret pe_bl)) pss_nil)
      (pss_cons (ps_set (i := 7) scLaw.nd rfl (Or.inl rfl) (pe_tup (pa_cons pe_str (pa_cons (pe_tup (pa_cons pe_str (pa_cons pe_str pa_nil))) (pa_cons (pe_tup (pa_cons pe_str (pa_cons pe_str pa_nil))) (pa_cons (pe_tup (pa_cons pe_str (pa_cons (pe_tup (pa_cons pe_str (pa_cons pe_str pa_nil))) (pa_cons (pe_tup (pa_cons pe_str (pa_cons (pe_tup pa_nil) pa_nil))) pa_nil)))) pa_nil))))))
      (pss_cons (ps_if (PW.pt (pw_or (pt_cmpR (op_neD hr.units) (pe_df Dli hr (by decide) (by rfl) passN (pa_cons (pv 7) pa_nil)) (pe_lst (pa_cons pe_str (pa_cons pe_str pa_nil))) (nomark _)) (pw_or (pt_cmpR (op_neD hr.units) (pe_df Dli hr (by decide) (by rfl) passN (pa_cons (pe_tup (pa_cons pe_str (pa_cons pe_int pa_nil))) pa_nil)) (pe_lst pa_nil) (nomark _)) (pw_or1 (pt_cmpR (op_neD hr.units) (pe_df Dli hr (by decide) (by rfl) passN (pa_cons (pe_tup (pa_cons pe_str (pa_cons (pe_tup (pa_cons pe_str pa_nil)) pa_nil))) pa_nil)) (pe_lst pa_nil) (nomark _)))))) (pss_one (ps_ret pe_bl)) pss_nil)
      (pss_cons (ps_if (pt_cmpR (op_neD hr.units) (lamX (t := fun E => tMake C (spInit C CS) [] E (tCons (tDispT [(tTup tNil, tC (.int 1))]) tNil)) (lamS_by (by decide +kernel)) rfl (fun _ _ _ _ _ => rfl) (fun A outer s H E f c' hr' => (pe_make ML FI (hr'.mono (by decide)) (by rfl) L.gC bI .nil (taken (L2N.takes_of rfl rfl rfl rfl) fun _ _ _ _ h => h) (pa_cons (pe_dispT (hu_of hr') (pps_cons (pe_tup pa_nil) pe_int pps_nil) rfl rfl (fun z => by cases z) (by decide)) pa_nil)))) (pe_tup (pa_cons pe_str (pa_cons pe_str pa_nil))) (nomark _)) (pss_one (ps_ret pe_bl)) pss_nil)
      (pss_one (ps_if (pt_cmpR (op_neD hr.units) (lamX (t := fun E => tMeth C "show" (spShow CS) [] E (tVar 9) (tCons (tLst tNil) tNil)) (lamS_by (by decide +kernel)) rfl (fun _ _ _ _ _ => rfl) (fun A outer s H E f c' hr' => (pe_md (pv 9) L.cl Dsho hr' (by decide) (taken (L2N.takes_of rfl rfl rfl rfl) fun _ _ _ _ h => h) (pa_cons (pe_lst pa_nil) pa_nil)))) (pe_tup (pa_cons pe_str (pa_cons pe_str pa_nil))) (nomark _)) (pss_one (ps_ret pe_bl)) pss_nil))))))))))))
      (pss_one (ps_ret pe_bl))), ?_⟩
  have hT0 : Tabs (T2 Pt Pw) H := fun p hp => by
    rcases List.mem_cons.mp hp with e | hp
    · rw [e]; exact TabS.nil hP
    · rw [List.mem_singleton.mp hp]; exact TabS.nil hPw
  have sq : ∀ {H1 : Hp}, ExtN H H1 → SqL K H1 a (ns.map V.int) := fun {H1} e => by
    rcases hS with (h | ⟨o, h⟩) | h
    · exact .inl (.inl (e _ _ h (fun _ z => nomatch z)))
    · exact .inl (.inr ⟨o, e _ _ h (fun _ z => nomatch z)⟩)
    · exact .inr h
  refine Evl.q_forR1 (n := if (if (ns.length : Int) < 3 then (ns.length : Int) else 3) > 1 then (if (ns.length : Int) < 3 then (ns.length : Int) else 3) else 1) ?gr (by split <;> split <;> omega)
    (fun i σ' H' => Fr11 a σ' ∧ ExtN H H' ∧ Tabs (T2 Pt Pw) H') (fun H1 e1 => ⟨⟨_, _, _, _, _, _, _, _, _, _, rfl⟩, exN e1, hT0.ext e1⟩) (fun i σ' H1 hi ⟨⟨o1, o2, o3, o4, o5, o6, o7, o8, o9, o10, e⟩, x1, t1⟩ => ?_) (fun σ' H1 ⟨_, _, _⟩ => kk H1)
  case gr =>
    refine Evl.ea_cons (Evl.ev_max2 Evl.ev_c ?_) Evl.ea_nil
    intro H1 e1 Q1 q1
    refine ⟨_, rfl, a, ns.map V.int, rfl, .inl (sq (exN e1)), 3, _, rfl, ?_⟩
    rw [List.length_map]
    exact q1 H1 (Ex.refl _)
  subst e
  have hi3 : (i : Int) < 3 := by
    revert hi
    split <;> split <;> omega
  show tSeq _ _ _ [some (.ref a), some (.int (i : Int)), o2, o3, o4, o5, o6, o7, o8, o9, o10] H1
  -- more
  refine ⟨_, rfl, _, rfl, a, ns, (i : Int), rfl, sq x1, by omega, by omega, by omega, fun c1 H2 s2 => ⟨_, rfl, c1, (i : Int), rfl, by omega, by omega, fun more H3 m0 m1 s3 => ?_⟩⟩
  have e13 : Ex H1 H3 := s2.trans s3
  show tSeq _ _ _ [some (.ref a), some (.int (i : Int)), some (.int more), o3, o4, o5, o6, o7, o8, o9, o10] H3
  -- looks = Looks({})
  intro q hq x dx hx hdx hne
  have exA : Ex H3 (upd (upd (upd H3 q (.dK [])) dx (.own x)) x (.ins C dx [])) := fun b o hb => by
    have h1 : upd H3 q (.dK []) b = some o := by rw [upd_ne (ne_ab hb hq)]; exact hb
    rw [upd_ne (ne_ab h1 hx), upd_ne (ne_ab h1 hdx)]
    exact h1
  have hqA : upd (upd (upd H3 q (.dK [])) dx (.own x)) x (.ins C dx []) q = some (.dK []) := by
    rw [upd_ne (ne_ab upd_same hx), upd_ne (ne_ab upd_same hdx)]
    exact upd_same
  refine ⟨x, dx, .ref q, .dict [], rfl, upd_same, .dK (kvs := []) hqA ⟨(fun _ z => nomatch z), .nil⟩ rfl .nil, (fun z => absurd z (by rw [ok_state0]; exact fun z => nomatch z)), fun _ => ⟨q, rfl, hqA, fun H4 a1 a2 a3 a4 keep4 la4 f2 f3 f4 => ⟨rfl, ?_⟩⟩⟩
  have s34 : Ex H3 H4 := fun b o hb => keep4 b o (exA b o hb) (by
    have h1 : upd H3 q (.dK []) b = some o := by rw [upd_ne (ne_ab hb hq)]; exact hb
    exact ne_ab h1 hx)
  have g2 : H3 a2 = none := Evl.fresh_back exA f2
  have g3 : H3 a3 = none := Evl.fresh_back exA f3
  have g4 : H3 a4 = none := Evl.fresh_back exA f4
  show tSeq _ _ _ [some (.ref a), some (.int (i : Int)), some (.int more), o3, o4, o5, o6, o7, o8, some (.ref x), o10] H4
  -- looks.define('la', ('num', 1))
  refine m_ev rfl la4.i (lkF_no (by decide +kernel) (by decide +kernel) (by decide +kernel) (by decide +kernel)) (eds_cons (ed_c (v := .str "la") (.str _ (by decide +kernel))) (eds_cons (d := numD 1) (ed_tup (eds_cons (ed_c (.str _ (by decide +kernel))) (eds_cons (ed_c (.int 1)) eds_nil)) (by simp)) eds_nil)) fun vs H5 e5 rs => ?_
  obtain ⟨v1, vt, _, _, rfl, hd, r1, rt⟩ := rs.two rfl
  cases hd
  cases r1 with
  | str _ hla =>
  have la5 := la4.ext (exN e5)
  refine ⟨x, dx, a1, a2, a3, a4, [], .str "la", vt, .str "la", numD 1, rfl, la5, by simp, .str _ hla, rt, (fun h => absurd h (by rw [la_word]; exact fun z => nomatch z)), (fun _ h => absurd h (by decide +kernel)), fun z hz _ _ => ?_⟩
  cases hz
  refine ⟨(fun h => by cases h), fun _ => ⟨by decide +kernel, by decide +kernel, (fun h => absurd h (by decide +kernel)), fun _ H6 keep6 h6 => ?_⟩⟩
  have x36 : ExtN H3 H6 := fun b o hb _ => keep6 b o (e5 _ _ (s34 _ _ hb)) (ne_ab hb g2)
  have la6 : LkAt C H6 x dx a1 a2 a3 a4 (laK vt) := ⟨keep6 _ _ la5.i (ne_of la5.i la5.t (fun z => nomatch z)), h6, keep6 _ _ la5.n la5.ne.symm, keep6 _ _ la5.d (ne_of la5.d la5.t (fun z => nomatch z)), la5.ne⟩
  have rt6 : R H6 vt (numD 1) := num_but rt la5.t (fun _ z => nomatch z) keep6
  have t6 : Tabs (T2 Pt Pw) H6 := tabs_but (((t1.ext e13).ext s34).ext e5) la5.t (fun _ z => nomatch z) (fun _ z => nomatch z) keep6
  show tSeq _ _ _ [some (.ref a), some (.int (i : Int)), some (.int more), o3, o4, o5, o6, o7, o8, some (.ref x), o10] H6
  -- eight turns
  refine Evl.q_forR1 (n := 8) (Evl.ea_cons Evl.ev_c Evl.ea_nil) (by decide) (fun j σ' H' => (∃ o3 o4 o5 o6 o7 o8 o10, σ' = [some (.ref a), some (.int (i : Int)), some (.int more), o3, o4, o5, o6, o7, o8, some (.ref x), o10]) ∧ ExtN H6 H' ∧ Tabs (T2 Pt Pw) H')
    (fun H7 e7 => ⟨⟨_, _, _, _, _, _, _, rfl⟩, exN e7, t6.ext e7⟩) (fun j σ' H7 hj ⟨⟨p3, p4, p5, p6, p7, p8, p10, e⟩, x7, t7⟩ => ?_) (fun σ' H7 ⟨⟨p3, p4, p5, p6, p7, p8, p10, e⟩, x7, t7⟩ => ?_)
  · subst e
    have hj8 : (j : Int) < 8 := hj
    show tSeq _ _ _ [some (.ref a), some (.int (i : Int)), some (.int more), some (.int (j : Int)), p4, p5, p6, p7, p8, some (.ref x), p10] H7
    refine q_drawn (Evl.ev_var rfl) (Evl.ev_var rfl) (by omega) (by omega) fun here H8 h0 h1 s8 => ?_
    -- none
    obtain ⟨n1, hn1⟩ : ∃ n : Nat, here % (noTerm_7.length : Int) = (n : Int) := ⟨(here % (noTerm_7.length : Int)).toNat, by have := Int.emod_nonneg here (b := (noTerm_7.length : Int)) (by decide); omega⟩
    have hl1 : n1 < noTerm_7.length := by have := Int.emod_lt_of_pos here (b := (noTerm_7.length : Int)) (by decide); omega
    refine q_asgD (d := noTerm_7[n1]) (ed_ixL (ds := noTerm_7) (k := n1) (ed_call (E := E0) (n := 0) (d := .list noTerm_7) eds_nil rfl rfl) (ed_is (d := .int (here % (noTerm_7.length : Int))) (ed_I (i := here) (j := (noTerm_7.length : Int)) (ed_var rfl (.int _)) (ed_lenQ (ed_call (E := E0) (n := 0) (d := .list noTerm_7) eds_nil rfl rfl) (.inr rfl)) (by decide) (.int _)) (by rw [hn1])) (List.getElem?_eq_getElem hl1)) fun vN H9 e9 rN => ?_
    generalize hdN : noTerm_7[n1] = dN at rN
    have bN := noTerm_bad dN (by rw [← hdN]; exact List.getElem_mem _)
    show tSeq _ _ _ [some (.ref a), some (.int (i : Int)), some (.int more), some (.int (j : Int)), some (.int here), some vN, p6, p7, p8, some (.ref x), p10] H9
    -- term
    obtain ⟨n2, hn2⟩ : ∃ n : Nat, here / 64 % 3 = (n : Int) := ⟨(here / 64 % 3).toNat, by have := Int.emod_nonneg (here / 64) (b := 3) (by decide); omega⟩
    have hl2 : n2 < (formsD dN).length := by have := Int.emod_lt_of_pos (here / 64) (b := 3) (by decide); show n2 < 3; omega
    refine q_asgD (d := (formsD dN)[n2]) (ed_ixL (ds := formsD dN) (k := n2) (ed_lst (eds_cons (ed_var rfl rN) (eds_cons (ed_tup (eds_cons (ed_c (.str _ (by decide +kernel))) (eds_cons (ed_var rfl rN) (eds_cons (ed_tup (eds_cons (ed_c (.str _ (by decide +kernel))) (eds_cons (ed_c (.int 1)) eds_nil)) (by simp)) eds_nil))) (by simp)) (eds_cons (ed_tup (eds_cons (ed_c (.str _ (by decide +kernel))) (eds_cons (ed_tup (eds_cons (ed_c (.str _ (by decide +kernel))) (eds_cons (ed_c (.int 0)) eds_nil)) (by simp)) (eds_cons (ed_tup (eds_cons (ed_c (.str _ (by decide +kernel))) (eds_cons (ed_c (.int 1)) eds_nil)) (by simp)) (eds_cons (ed_var rfl rN) eds_nil)))) (by simp)) eds_nil))) (by simp [formsD])) (ed_is (d := .int (here / 64 % 3)) (ed_I (i := here / 64) (j := 3) (ed_I (i := here) (j := 64) (ed_var rfl (.int _)) (ed_c (.int 64)) ⟨by decide, by decide⟩ (.int _)) (ed_c (.int 3)) (by decide) (.int _)) (by rw [hn2])) (List.getElem?_eq_getElem hl2)) fun vT H10 e10 rT => ?_
    generalize hdT : (formsD dN)[n2] = dT at rT
    have bT : deepOk 8 dT = false := bN dT (by rw [← hdT]; exact List.getElem_mem _)
    show tSeq _ _ _ [some (.ref a), some (.int (i : Int)), some (.int more), some (.int (j : Int)), some (.int here), some vN, p6, p7, p8, some (.ref x), some vT] H10
    have e7x : Ex H7 H10 := (Evl.Ex.trans s8 e9).trans e10
    have xb : ExtN H6 H10 := x7.trans (exN e7x)
    have tb : Tabs (T2 Pt Pw) H10 := t7.ext e7x
    have lab := la6.ext xb
    refine q_some (Hb := H10) (nm := "BadLook") tb (ExtN.refl _) O1 (by decide +kernel) (fun Hx ex E' Q' hq => ⟨_, rfl, vT, dT, rfl, rT.ext ex, (fun z => absurd z (by rw [bT]; exact Bool.false_ne_true)), fun _ => hq⟩) fun l1 H11 S11 => ?_
    show tSeq _ _ _ [some (.ref a), some (.int (i : Int)), some (.int more), some (.int (j : Int)), some (.int here), some vN, some (.ref l1), p7, p8, some (.ref x), some vT] H11
    refine q_app (nm := "BadLook") rfl S11 (by decide) O1 (by decide +kernel) (fun Hx ex E' Q' hq => lam_def (dn := .str "lb") (dt := dT) (lab.ext (S11.ext.trans ex)) rfl (eds_cons (ed_c (.str _ (by decide +kernel))) (eds_cons (ed_var rfl (rT.ext (S11.ext.trans ex))) eds_nil)) (by show (isWord (.str "lb") && (!deepOk 8 dT || _)) = true; rw [lb_word, bT]; rfl) hq) fun H12 S12 => ?_
    refine q_app (nm := "BadLook") rfl S12 (by decide) O1 (by decide +kernel) (fun Hx ex E' Q' hq => lam_def (dn := .str "la") (dt := numD 2) (lab.ext (S12.ext.trans ex)) rfl (eds_cons (ed_c (.str _ (by decide +kernel))) (eds_cons (ed_tup (eds_cons (ed_c (.str _ (by decide +kernel))) (eds_cons (ed_c (.int 2)) eds_nil)) (by simp)) eds_nil)) (by decide +kernel) hq) fun H13 S13 => ?_
    refine q_app (nm := "BadLook") rfl S13 (by decide) O1 (by decide +kernel) (fun Hx ex E' Q' hq => lam_def (dn := .str "lb") (dt := .tuple [.str "plus", .tuple [.str "look", .str "la"], .tuple [.str "look", .str "lc"]]) (lab.ext (S13.ext.trans ex)) rfl (eds_cons (ed_c (.str _ (by decide +kernel))) (eds_cons (ed_tup (eds_cons (ed_c (.str _ (by decide +kernel))) (eds_cons (ed_tup (eds_cons (ed_c (.str _ (by decide +kernel))) (eds_cons (ed_c (.str _ (by decide +kernel))) eds_nil)) (by simp)) (eds_cons (ed_tup (eds_cons (ed_c (.str _ (by decide +kernel))) (eds_cons (ed_c (.str _ (by decide +kernel))) eds_nil)) (by simp)) eds_nil))) (by simp)) eds_nil)) (by decide +kernel) hq) fun H14 S14 => ?_
    refine q_app (nm := "BadLook") rfl S14 (by decide) O1 (by decide +kernel) (fun Hx ex E' Q' hq => lam_def (dn := .str "lb") (dt := .tuple [.str "look", .str "lb"]) (lab.ext (S14.ext.trans ex)) rfl (eds_cons (ed_c (.str _ (by decide +kernel))) (eds_cons (ed_tup (eds_cons (ed_c (.str _ (by decide +kernel))) (eds_cons (ed_c (.str _ (by decide +kernel))) eds_nil)) (by simp)) eds_nil)) (by decide +kernel) hq) fun H15 S15 => ?_
    refine q_app (nm := "BadLook") rfl S15 (by decide) O1 (by decide +kernel) (fun Hx ex E' Q' hq => lam_val (lab.ext (S15.ext.trans ex)) rfl (eds_cons (ed_c (.str _ (by decide +kernel))) eds_nil) hq) fun H16 S16 => ?_
    refine q_app (nm := "BadLook") rfl S16 (by decide) O1 (by decide +kernel) (fun Hx ex E' Q' hq => lam_rea (lab.ext (S16.ext.trans ex)) rfl (eds_cons (ed_c (.str _ (by decide +kernel))) eds_nil) hq) fun H17 S17 => ?_
    obtain ⟨xs17, hl17, rs17⟩ := S17.ex
    refine Evl.s_when (b := false) (Evl.et_is (Evl.et_test (ed_ne (d := .list (([("BadLook" : Str), "BadLook", "BadLook", "BadLook", "BadLook", "BadLook", "BadLook"] : List Str).map refused)) (e := .list (([("BadLook" : Str), "BadLook", "BadLook", "BadLook", "BadLook", "BadLook", "BadLook"] : List Str).map refused)) (ed_var rfl (.lst hl17 rs17)) (ed_is (ed_repL (n := 7) (ed_lst (eds_cons (ed_tup (eds_cons (ed_c (.str _ (by decide +kernel))) (eds_cons (ed_c (.str _ (by decide +kernel))) eds_nil)) (by simp)) eds_nil) (by simp)) (by simp) (by decide)) rfl) (shaped_ref _ (by decide +kernel)) (shaped_ref _ (by decide +kernel))).vb) (by decide +kernel)) (fun z => by cases z) (fun _ H18 e18 => ?_)
    exact ⟨⟨_, _, _, _, _, _, _, rfl⟩, (xb.trans S17.ext).trans (exN e18), S17.tabs.ext e18⟩
  · subst e
    -- names that are none
    refine q_forD (ds := badNames) (ed_is (ed_lst (eds_cons (ed_c (.str _ (by decide +kernel))) (eds_cons (ed_c (.str _ (by decide +kernel))) (eds_cons (ed_c .non) (eds_cons (ed_c (.str _ (by decide +kernel))) (eds_cons (ed_tup (eds_cons (ed_c (.str _ (by decide +kernel))) eds_nil) (by simp)) eds_nil))))) (by simp)) rfl) (fun n σ' H' => (∃ o3 o4 o5 o6 o7 o8 o10, σ' = [some (.ref a), some (.int (i : Int)), some (.int more), o3, o4, o5, o6, o7, o8, some (.ref x), o10]) ∧ ExtN H6 H' ∧ Tabs (T2 Pt Pw) H') (fun H8 e8 => ⟨⟨_, _, _, _, _, _, _, rfl⟩, x7.trans (exN e8), t7.ext e8⟩) (fun H8 n y d σ' H9 e8 hd ry x9 ⟨⟨q3, q4, q5, q6, q7, q8, q10, e⟩, x10, t10⟩ => ?_) (fun σ' H8 ⟨⟨q3, q4, q5, q6, q7, q8, q10, e⟩, x8, t8⟩ => ?_)
    · subst e
      have bP : isWord d = false := badNames_bad d (List.mem_of_getElem? hd)
      have lab := la6.ext x10
      have ryb := ry.ext x9
      show tSeq _ _ _ [some (.ref a), some (.int (i : Int)), some (.int more), q3, q4, q5, q6, q7, some y, some (.ref x), q10] H9
      refine q_some (Hb := H9) (nm := "BadPath") t10 (ExtN.refl _) O3 (by decide +kernel) (fun Hx ex E' Q' hq => lam_defB (dn := d) (dt := numD 1) (lab.ext ex) rfl (eds_cons (ed_var rfl (ryb.ext ex)) (eds_cons (ed_tup (eds_cons (ed_c (.str _ (by decide +kernel))) (eds_cons (ed_c (.int 1)) eds_nil)) (by simp)) eds_nil)) bP hq) fun l1 H11 S11 => ?_
      show tSeq _ _ _ [some (.ref a), some (.int (i : Int)), some (.int more), q3, q4, q5, some (.ref l1), q7, some y, some (.ref x), q10] H11
      refine q_app (nm := "BadPath") rfl S11 (by decide) O3 (by decide +kernel) (fun Hx ex E' Q' hq => lam_valB (lab.ext (S11.ext.trans ex)) rfl (eds_cons (ed_var rfl (ryb.ext (S11.ext.trans ex))) eds_nil) bP hq) fun H12 S12 => ?_
      refine q_app (nm := "BadPath") rfl S12 (by decide) O3 (by decide +kernel) (fun Hx ex E' Q' hq => lam_reaB (lab.ext (S12.ext.trans ex)) rfl (eds_cons (ed_var rfl (ryb.ext (S12.ext.trans ex))) eds_nil) bP hq) fun H13 S13 => ?_
      obtain ⟨xs13, hl13, rs13⟩ := S13.ex
      refine Evl.s_when (b := false) (Evl.et_is (Evl.et_test (ed_ne (d := .list (([("BadPath" : Str), "BadPath", "BadPath"] : List Str).map refused)) (e := .list (([("BadPath" : Str), "BadPath", "BadPath"] : List Str).map refused)) (ed_var rfl (.lst hl13 rs13)) (ed_is (ed_repL (n := 3) (ed_lst (eds_cons (ed_tup (eds_cons (ed_c (.str _ (by decide +kernel))) (eds_cons (ed_c (.str _ (by decide +kernel))) eds_nil)) (by simp)) eds_nil) (by simp)) (by simp) (by decide)) rfl) (shaped_ref _ (by decide +kernel)) (shaped_ref _ (by decide +kernel))).vb) (by decide +kernel)) (fun z => by cases z) (fun _ H18 e18 => ?_)
      exact ⟨⟨⟨_, _, _, _, _, _, _, rfl⟩, (x10.trans S13.ext).trans (exN e18), S13.tabs.ext e18⟩, (x9.trans S13.ext).trans (exN e18)⟩
    · subst e
      have lab := la6.ext x8
      have rtb := rt6.ext x8
      -- the tower of seven, the names, the worth of la
      refine et_refN (C := cL) (f := deepOk 8) (d := towerD 7) (eds_cons (ed_tower (E := E0) (m := 7) (ed_c (.int 7)) (by decide)) eds_nil) ok_tower7 H8 (Ex.refl _) _ fun H9 e9 => iteF ?_
      refine Evl.et_is (Evl.et_test (ed_ne (d := .list [.str "la"]) (e := .list [.str "la"]) (ed_names (lab.ext (exN e9)) rfl) (ed_lst (eds_cons (ed_c (.str _ (by decide +kernel))) eds_nil) (by simp)) (by decide +kernel) (by decide +kernel)).vb) (b := false) (by decide +kernel) H9 (Ex.refl _) _ fun H10 e10 => iteF ?_
      have x10 : ExtN H6 H10 := (x8.trans (exN e9)).trans (exN e10)
      have la10 := la6.ext x10
      refine m_ev rfl la10.i (lkF_no (by decide +kernel) (by decide +kernel) (by decide +kernel) (by decide +kernel)) (eds_cons (ed_c (v := .str "la") (.str _ (by decide +kernel))) eds_nil) fun vs H11 e11 rs => ?_
      obtain ⟨v1, _, rfl, hd, r1⟩ := rs.one rfl
      cases hd
      have x11 : ExtN H6 H11 := x10.trans (exN e11)
      refine ⟨x, dx, a1, a2, a3, a4, _, v1, .str "la", rfl, la6.ext x11, r1, (fun h => absurd h (by rw [la_word]; exact fun z => nomatch z)), fun z hz _ => ?_⟩
      cases hz
      refine ⟨fun h => ?_, fun v hv => ?_⟩
      · rw [laK_at] at h
        exact absurd h (by decide +kernel)
      · have ev : v = vt := by
          rw [show valV (laK vt) (Sum.inr "la") = some vt from valV_pos rfl] at hv
          exact (Option.some.inj hv).symm
        subst ev
        refine ⟨1, rt6.ext x11, ((t8.ext e9).ext e10).ext e11, fun H12 o12 => ?_⟩
        refine ⟨rfl, _, rfl, iteF ?_⟩
        have x12 : ExtN H3 H12 := fun b o hb ho => o12.keep b o ((x36.trans x11) b o hb ho) ho (ne_ab hb g3) (ne_ab hb g4)
        have hx12 : H12 x = some (.ins C dx (lkF a1 a2 a3 a4)) := o12.keep _ _ (la6.ext x11).i (fun _ z => nomatch z) (ne_of la6.i la6.n (fun z => nomatch z)) (ne_of la6.i la6.d (fun z => nomatch z))
        -- both
        show tSeq _ _ _ [some (.ref a), some (.int (i : Int)), some (.int more), q3, q4, q5, q6, q7, q8, some (.ref x), q10] H12
        refine q_asgD (d := .tuple [.str "when", .tuple [.str "look", .str "lb"], .tuple [.str "look", .str "la"], .tuple [.str "plus", .tuple [.str "look", .str "lb"], .tuple [.str "at", .tuple []]]]) (ed_tup (eds_cons (ed_c (.str _ (by decide +kernel))) (eds_cons (ed_tup (eds_cons (ed_c (.str _ (by decide +kernel))) (eds_cons (ed_c (.str _ (by decide +kernel))) eds_nil)) (by simp)) (eds_cons (ed_tup (eds_cons (ed_c (.str _ (by decide +kernel))) (eds_cons (ed_c (.str _ (by decide +kernel))) eds_nil)) (by simp)) (eds_cons (ed_tup (eds_cons (ed_c (.str _ (by decide +kernel))) (eds_cons (ed_tup (eds_cons (ed_c (.str _ (by decide +kernel))) (eds_cons (ed_c (.str _ (by decide +kernel))) eds_nil)) (by simp)) (eds_cons (ed_tup (eds_cons (ed_c (.str _ (by decide +kernel))) (eds_cons (ed_tup eds_nil (by simp)) eds_nil)) (by simp)) eds_nil))) (by simp)) eds_nil)))) (by simp)) fun vB H13 e13' rB => ?_
        show tSeq _ _ _ [some (.ref a), some (.int (i : Int)), some (.int more), q3, q4, q5, q6, some vB, q8, some (.ref x), q10] H13
        refine Evl.q_when (b := false) (Evl.et_is (Evl.et_or (Evl.et_test (ed_ne (d := .list ((["la", "lb"] : List Str).map PyData.str)) (e := .list [.str "la", .str "lb"]) (ed_looks (eds_cons (ed_var rfl rB) eds_nil) (by decide +kernel) (by decide +kernel) found_two) (ed_lst (eds_cons (ed_c (.str _ (by decide +kernel))) (eds_cons (ed_c (.str _ (by decide +kernel))) eds_nil)) (by simp)) (by decide +kernel) (by decide +kernel)).vb) fun _ =>
          Evl.et_or (Evl.et_test (ed_ne (d := .list (([] : List Str).map PyData.str)) (e := .list []) (ed_looks (d := numD 1) (eds_cons (ed_tup (eds_cons (ed_c (.str _ (by decide +kernel))) (eds_cons (ed_c (.int 1)) eds_nil)) (by simp)) eds_nil) (by decide +kernel) (by decide +kernel) found_nil) (ed_lst eds_nil (by simp)) (by decide +kernel) (by decide +kernel)).vb) fun _ =>
          Evl.et_test (ed_ne (d := .list (([] : List Str).map PyData.str)) (e := .list []) (ed_looks (d := .tuple [.str "sum", .tuple [.str "look"]]) (eds_cons (ed_tup (eds_cons (ed_c (.str _ (by decide +kernel))) (eds_cons (ed_tup (eds_cons (ed_c (.str _ (by decide +kernel))) eds_nil) (by simp)) eds_nil)) (by simp)) eds_nil) (by decide +kernel) (by decide +kernel) found_nil) (ed_lst eds_nil (by simp)) (by decide +kernel) (by decide +kernel)).vb) (by decide +kernel)) (fun z => by cases z) (fun _ H14 e14 => ?_)
        have t14 := (o12.tabs.ext e13').ext e14
        -- Looks({(): 1}), looks.show([])
        refine if_told (nm := "BadState") t14 O4 (by decide +kernel) (by decide +kernel) (by decide +kernel) (by decide +kernel) (fun Hx ex E' Q' hq => ?_) (fun H15 x15 t15 => ?_)
        · refine mk_ev (eds_cons (d := .dict [(.tuple [], .int 1)]) (ed_is (ed_dispT (eps_cons (k := []) (v := .int 1) (Evl.eu_tup (vs := []) Evl.ea_nil (by decide)) eps_nil) (by decide +kernel) (by decide) (by decide +kernel)) rfl) eds_nil) fun vs H16 e16 rs x' dx' nx ndx nne => ?_
          obtain ⟨v, _, rfl, hd, r16⟩ := rs.one rfl
          cases hd
          have s16 : Same H16 (upd (upd H16 dx' (.own x')) x' (.ins C dx' [])) := fun b o hb => by
            rw [upd_ne (ne_ab hb nx), upd_ne (ne_ab hb ndx)]
            exact hb
          exact ⟨x', dx', v, _, rfl, upd_same, r16.ext (exN s16), (fun _ H17 s17 => hq H17 (Same.trans (Same.trans e16 s16) s17)), (fun z => absurd z (by rw [no_state1]; exact fun z => nomatch z))⟩
        · refine if_told (nm := "BadState") t15 O4 (by decide +kernel) (by decide +kernel) (by decide +kernel) (by decide +kernel) (fun Hx ex E' Q' hq => ?_) (fun H16 x16 t16 => ?_)
          · have hxx : Hx x = some (.ins C dx (lkF a1 a2 a3 a4)) := (x15.trans ex) _ _ (e14 _ _ (e13' _ _ hx12)) (fun _ z => nomatch z)
            refine m_ev rfl hxx (lkF_no (by decide +kernel) (by decide +kernel) (by decide +kernel) (by decide +kernel)) (eds_cons (ed_lst eds_nil (by simp)) eds_nil) fun vs H17 e17 rs => ?_
            obtain ⟨v1, _, rfl, hd, r1⟩ := rs.one rfl
            cases hd
            exact ⟨_, v1, _, rfl, r1, no_stateL, fun H18 s18 => hq H18 (Same.trans e17 s18)⟩
          · exact ⟨⟨_, _, _, _, _, _, _, _, _, _, rfl⟩, (((x1.trans (exN e13)).trans x12).trans (exN (e13'.trans e14))).trans (x15.trans x16), t16⟩
end
end Lk
set_option Elab.async false
set_option linter.all false
set_option maxRecDepth 100000
set_option maxHeartbeats 8000000
namespace Lk
open PySem PySem.Spec PyProof.Rows L2 HotX L2H LamX
theorem all_mk {w : World} {K : PySem.W.Frag} {h : Heap} {mg : Str → Option Value} {fa Pt Pw c18z c24z f0 f1 f2 f3 f4 f5 f6 f7 f8 f9 f10 f11 f12 f13 f14 f15 f16 f17 f18 f19 f20 f21 f22 f23 f24 f25 f26 f27 e_BadDeed e_BadLook e_BadNumber e_BadPath e_BadState e_Storm e_LookError CLk CKn aR aT : Addr} {od0 an0 od1 an1 od2 an2 od3 an3 od4 an4 od5 an5 od6 an6 od7 an7 od8 an8 od9 an9 od10 an10 od11 an11 od12 an12 od13 an13 od14 an14 od15 an15 od16 an16 od17 an17 od18 an18 od19 an19 od20 an20 od21 an21 od22 an22 od23 an23 od24 an24 od25 an25 od26 an26 od27 an27 : Option Addr} {sl0 sl1 sl2 sl3 sl4 sl5 sl6 sl7 sl8 sl9 sl10 sl11 sl12 sl13 sl14 sl15 sl16 sl17 sl18 sl19 sl20 sl21 sl22 sl23 sl24 sl25 sl26 sl27 : Array (Option Value)} {oc0 kV0 dc0 pm0 ct0 cd0 oc1 kV1 dc1 pm1 ct1 cd1 oc2 kV2 dc2 pm2 ct2 cd2 oc3 kV3 dc3 pm3 ct3 cd3 oc4 kV4 dc4 pm4 ct4 cd4 oc5 kV5 dc5 pm5 ct5 cd5 oc6 kV6 dc6 pm6 ct6 cd6 oc7 kV7 dc7 pm7 ct7 cd7 oc8 kV8 dc8 pm8 ct8 cd8 oc9 kV9 dc9 pm9 ct9 cd9 oc10 kV10 dc10 pm10 ct10 cd10 oc11 kV11 dc11 pm11 ct11 cd11 oc12 kV12 dc12 pm12 ct12 cd12 oc13 kV13 dc13 pm13 ct13 cd13 oc14 kV14 dc14 pm14 ct14 cd14 oc15 kV15 dc15 pm15 ct15 cd15 oc16 kV16 dc16 pm16 ct16 cd16 oc17 kV17 dc17 pm17 ct17 cd17 oc18 kV18 dc18 pm18 ct18 oc19 kV19 dc19 pm19 ct19 cd19 oc20 kV20 dc20 pm20 ct20 cd20 oc21 kV21 dc21 pm21 ct21 cd21 oc22 kV22 dc22 pm22 ct22 cd22 oc23 kV23 dc23 pm23 ct23 cd23 oc24 kV24 dc24 pm24 ct24 oc25 kV25 dc25 pm25 ct25 cd25 oc26 kV26 dc26 pm26 ct26 cd26 oc27 kV27 dc27 pm27 ct27 cd27 u_SMALL u_MOST_WORD u_MOST_DEEP u_MOST_WORTH_states u_MOST_NUMBER u_MOST_WITHIN : Value} {odR odT : Option Addr} {itsR itsT : Array Value} {nR nT : Nat} {slR slT : Array (Option Value)}
    (X : K.In h) (G : h.Ns mainGlobals mg) (hfa : mg "law" = some (.ref fa)) (hP_Pt : h.get? Pt = some (PySem.W.tabObj #[])) (hP_Pw : h.get? Pw = some (PySem.W.tabObj #[]))
    (gc_Looks : PySem.W.nsIn K mainGlobals "Looks" = some (some (.ref CLk)))
    (gc_Known : PySem.W.nsIn K mainGlobals "Known" = some (some (.ref CKn)))
    (a0 : PySem.W.nsIn K mainGlobals "is_word" = some (some (.ref f0)))
    (l0 : K.lookup f0 = some ⟨oc0, od0, .func (PySem.W.fnOf "is_word" "is_word" (defArgs sIsWord) (defBody sIsWord) (defScope sIsWord) .none kV0 dc0 pm0 an0 cd0 ct0), sl0⟩)
    (c0 : PySem.W.codeIn K cd0 "is_word" = true)
    (k0 : PySem.W.keepIn K (.ref f0) = true)
    (a1 : PySem.W.nsIn K mainGlobals "is_path" = some (some (.ref f1)))
    (l1 : K.lookup f1 = some ⟨oc1, od1, .func (PySem.W.fnOf "is_path" "is_path" (defArgs sIsPath) (defBody sIsPath) (defScope sIsPath) .none kV1 dc1 pm1 an1 cd1 ct1), sl1⟩)
    (c1 : PySem.W.codeIn K cd1 "is_path" = true)
    (k1 : PySem.W.keepIn K (.ref f1) = true)
    (a2 : PySem.W.nsIn K mainGlobals "need_name" = some (some (.ref f2)))
    (l2 : K.lookup f2 = some ⟨oc2, od2, .func (PySem.W.fnOf "need_name" "need_name" (defArgs sNeedName) (defBody sNeedName) (defScope sNeedName) .none kV2 dc2 pm2 an2 cd2 ct2), sl2⟩)
    (c2 : PySem.W.codeIn K cd2 "need_name" = true)
    (k2 : PySem.W.keepIn K (.ref f2) = true)
    (a3 : PySem.W.nsIn K mainGlobals "is_number" = some (some (.ref f3)))
    (l3 : K.lookup f3 = some ⟨oc3, od3, .func (PySem.W.fnOf "is_number" "is_number" (defArgs sIsNumber) (defBody sIsNumber) (defScope sIsNumber) .none kV3 dc3 pm3 an3 cd3 ct3), sl3⟩)
    (c3 : PySem.W.codeIn K cd3 "is_number" = true)
    (k3 : PySem.W.keepIn K (.ref f3) = true)
    (a4 : PySem.W.nsIn K mainGlobals "is_state" = some (some (.ref f4)))
    (l4 : K.lookup f4 = some ⟨oc4, od4, .func (PySem.W.fnOf "is_state" "is_state" (defArgs sIsState) (defBody sIsState) (defScope sIsState) .none kV4 dc4 pm4 an4 cd4 ct4), sl4⟩)
    (c4 : PySem.W.codeIn K cd4 "is_state" = true)
    (k4 : PySem.W.keepIn K (.ref f4) = true)
    (a5 : PySem.W.nsIn K mainGlobals "need_state" = some (some (.ref f5)))
    (l5 : K.lookup f5 = some ⟨oc5, od5, .func (PySem.W.fnOf "need_state" "need_state" (defArgs sNeedState) (defBody sNeedState) (defScope sNeedState) .none kV5 dc5 pm5 an5 cd5 ct5), sl5⟩)
    (c5 : PySem.W.codeIn K cd5 "need_state" = true)
    (k5 : PySem.W.keepIn K (.ref f5) = true)
    (a6 : PySem.W.nsIn K mainGlobals "need_terms" = some (some (.ref f6)))
    (l6 : K.lookup f6 = some ⟨oc6, od6, .func (PySem.W.fnOf "need" "need" (defArgs sNeedT) (defBody sNeedT) (defScope sNeedT) .none kV6 dc6 pm6 an6 cd6 ct6), sl6⟩)
    (c6 : PySem.W.codeIn K cd6 "need" = true)
    (k6 : PySem.W.keepIn K (.ref f6) = true)
    (a7 : PySem.W.nsIn K mainGlobals "need_deep" = some (some (.ref f7)))
    (l7 : K.lookup f7 = some ⟨oc7, od7, .func (PySem.W.fnOf "need_deep" "need_deep" (defArgs sDeep) (defBody sDeep) (defScope sDeep) .none kV7 dc7 pm7 an7 cd7 ct7), sl7⟩)
    (c7 : PySem.W.codeIn K cd7 "need_deep" = true)
    (k7 : PySem.W.keepIn K (.ref f7) = true)
    (a8 : PySem.W.nsIn K mainGlobals "need_term" = some (some (.ref f8)))
    (l8 : K.lookup f8 = some ⟨oc8, od8, .func (PySem.W.fnOf "need_term" "need_term" (defArgs sNeedTerm) (defBody sNeedTerm) (defScope sNeedTerm) .none kV8 dc8 pm8 an8 cd8 ct8), sl8⟩)
    (c8 : PySem.W.codeIn K cd8 "need_term" = true)
    (k8 : PySem.W.keepIn K (.ref f8) = true)
    (a9 : PySem.W.nsIn K mainGlobals "looks_in" = some (some (.ref f9)))
    (l9 : K.lookup f9 = some ⟨oc9, od9, .func (PySem.W.fnOf "looks_in" "looks_in" (defArgs sLooksIn) (defBody sLooksIn) (defScope sLooksIn) .none kV9 dc9 pm9 an9 cd9 ct9), sl9⟩)
    (c9 : PySem.W.codeIn K cd9 "looks_in" = true)
    (k9 : PySem.W.keepIn K (.ref f9) = true)
    (a10 : PySem.W.nsIn K mainGlobals "need_looks" = some (some (.ref f10)))
    (l10 : K.lookup f10 = some ⟨oc10, od10, .func (PySem.W.fnOf "need" "need" (defArgs sNeedL) (defBody sNeedL) (defScope sNeedL) .none kV10 dc10 pm10 an10 cd10 ct10), sl10⟩)
    (c10 : PySem.W.codeIn K cd10 "need" = true)
    (k10 : PySem.W.keepIn K (.ref f10) = true)
    (a11 : PySem.W.nsIn K mainGlobals "worth" = some (some (.ref f11)))
    (l11 : K.lookup f11 = some ⟨oc11, od11, .func (PySem.W.fnOf "worth" "worth" (defArgs sWorth) (defBody sWorth) (defScope sWorth) .none kV11 dc11 pm11 an11 cd11 ct11), sl11⟩)
    (c11 : PySem.W.codeIn K cd11 "worth" = true)
    (k11 : PySem.W.keepIn K (.ref f11) = true)
    (a12 : PySem.W.nsIn K mainGlobals "_law_cell" = some (some (.ref f12)))
    (l12 : K.lookup f12 = some ⟨oc12, od12, .func (PySem.W.fnOf "_law_cell" "_law_cell" (defArgs sCell) (defBody sCell) (defScope sCell) .none kV12 dc12 pm12 an12 cd12 ct12), sl12⟩)
    (c12 : PySem.W.codeIn K cd12 "_law_cell" = true)
    (k12 : PySem.W.keepIn K (.ref f12) = true)
    (a13 : PySem.W.nsIn K mainGlobals "_law_drawn" = some (some (.ref f13)))
    (l13 : K.lookup f13 = some ⟨oc13, od13, .func (PySem.W.fnOf "_law_drawn" "_law_drawn" (defArgs sDrawn) (defBody sDrawn) (defScope sDrawn) .none kV13 dc13 pm13 an13 cd13 ct13), sl13⟩)
    (c13 : PySem.W.codeIn K cd13 "_law_drawn" = true)
    (k13 : PySem.W.keepIn K (.ref f13) = true)
    (a14 : PySem.W.nsIn K mainGlobals "_law_word" = some (some (.ref f14)))
    (l14 : K.lookup f14 = some ⟨oc14, od14, .func (PySem.W.fnOf "_law_word" "_law_word" (defArgs sWord) (defBody sWord) (defScope sWord) .none kV14 dc14 pm14 an14 cd14 ct14), sl14⟩)
    (c14 : PySem.W.codeIn K cd14 "_law_word" = true)
    (k14 : PySem.W.keepIn K (.ref f14) = true)
    (a15 : PySem.W.nsIn K mainGlobals "_law_told" = some (some (.ref f15)))
    (l15 : K.lookup f15 = some ⟨oc15, od15, .func (PySem.W.fnOf "_law_told" "_law_told" (defArgs sTold) (defBody sTold) (defScope sTold) .none kV15 dc15 pm15 an15 cd15 ct15), sl15⟩)
    (c15 : PySem.W.codeIn K cd15 "_law_told" = true)
    (k15 : PySem.W.keepIn K (.ref f15) = true)
    (a16 : PySem.W.nsIn K mainGlobals "_law_none" = some (some (.ref f16)))
    (l16 : K.lookup f16 = some ⟨oc16, od16, .func (PySem.W.fnOf "_law_none" "_law_none" (defArgs sNoTerm) (defBody sNoTerm) (defScope sNoTerm) .none kV16 dc16 pm16 an16 cd16 ct16), sl16⟩)
    (c16 : PySem.W.codeIn K cd16 "_law_none" = true)
    (k16 : PySem.W.keepIn K (.ref f16) = true)
    (a17 : PySem.W.nsIn K mainGlobals "_law_tower" = some (some (.ref f17)))
    (l17 : K.lookup f17 = some ⟨oc17, od17, .func (PySem.W.fnOf "_law_tower" "_law_tower" (defArgs sTower) (defBody sTower) (defScope sTower) .none kV17 dc17 pm17 an17 cd17 ct17), sl17⟩)
    (c17 : PySem.W.codeIn K cd17 "_law_tower" = true)
    (k17 : PySem.W.keepIn K (.ref f17) = true)
    (a18 : PySem.W.nsIn K mainGlobals "law" = some (some (.ref f18)))
    (l18 : K.lookup f18 = some ⟨oc18, od18, .func (PySem.W.fnOf "law" "law" (defArgs sLaw) (defBody sLaw) (defScope sLaw) .none kV18 dc18 pm18 an18 (.ref c18z) ct18), sl18⟩)
    (c18 : PySem.W.codeIn K (.ref c18z) "law" = true)
    (k18 : PySem.W.keepIn K (.ref f18) = true)
    (a19 : PySem.W.findIn K (.ref CLk) "__init__" = some (some (.ref f19)))
    (i19 : PySem.W.isFn K (.ref f19) = true)
    (l19 : K.lookup f19 = some ⟨oc19, od19, .func (PySem.W.fnOf "__init__" "Looks.__init__" (defArgs sInit) (defBody sInit) (defScope sInit) .none kV19 dc19 pm19 an19 cd19 ct19), sl19⟩)
    (c19 : PySem.W.codeIn K cd19 "Looks.__init__" = true)
    (k19 : PySem.W.keepIn K (.ref f19) = true)
    (a20 : PySem.W.findIn K (.ref CLk) "define" = some (some (.ref f20)))
    (i20 : PySem.W.isFn K (.ref f20) = true)
    (l20 : K.lookup f20 = some ⟨oc20, od20, .func (PySem.W.fnOf "define" "Looks.define" (defArgs sDefine) (defBody sDefine) (defScope sDefine) .none kV20 dc20 pm20 an20 cd20 ct20), sl20⟩)
    (c20 : PySem.W.codeIn K cd20 "Looks.define" = true)
    (k20 : PySem.W.keepIn K (.ref f20) = true)
    (a21 : PySem.W.findIn K (.ref CLk) "names" = some (some (.ref f21)))
    (i21 : PySem.W.isFn K (.ref f21) = true)
    (l21 : K.lookup f21 = some ⟨oc21, od21, .func (PySem.W.fnOf "names" "Looks.names" (defArgs sNames) (defBody sNames) (defScope sNames) .none kV21 dc21 pm21 an21 cd21 ct21), sl21⟩)
    (c21 : PySem.W.codeIn K cd21 "Looks.names" = true)
    (k21 : PySem.W.keepIn K (.ref f21) = true)
    (a22 : PySem.W.findIn K (.ref CLk) "show" = some (some (.ref f22)))
    (i22 : PySem.W.isFn K (.ref f22) = true)
    (l22 : K.lookup f22 = some ⟨oc22, od22, .func (PySem.W.fnOf "show" "Looks.show" (defArgs sShow) (defBody sShow) (defScope sShow) .none kV22 dc22 pm22 an22 cd22 ct22), sl22⟩)
    (c22 : PySem.W.codeIn K cd22 "Looks.show" = true)
    (k22 : PySem.W.keepIn K (.ref f22) = true)
    (a23 : PySem.W.findIn K (.ref CLk) "is_fresh" = some (some (.ref f23)))
    (i23 : PySem.W.isFn K (.ref f23) = true)
    (l23 : K.lookup f23 = some ⟨oc23, od23, .func (PySem.W.fnOf "is_fresh" "Looks.is_fresh" (defArgs sIsFresh) (defBody sIsFresh) (defScope sIsFresh) .none kV23 dc23 pm23 an23 cd23 ct23), sl23⟩)
    (c23 : PySem.W.codeIn K cd23 "Looks.is_fresh" = true)
    (k23 : PySem.W.keepIn K (.ref f23) = true)
    (a24 : PySem.W.findIn K (.ref CLk) "work_out" = some (some (.ref f24)))
    (i24 : PySem.W.isFn K (.ref f24) = true)
    (l24 : K.lookup f24 = some ⟨oc24, od24, .func (PySem.W.fnOf "work_out" "Looks.work_out" (defArgs sWorkOut) (defBody sWorkOut) (defScope sWorkOut) .none kV24 dc24 pm24 an24 (.ref c24z) ct24), sl24⟩)
    (c24 : PySem.W.codeIn K (.ref c24z) "Looks.work_out" = true)
    (k24 : PySem.W.keepIn K (.ref f24) = true)
    (a25 : PySem.W.findIn K (.ref CLk) "value" = some (some (.ref f25)))
    (i25 : PySem.W.isFn K (.ref f25) = true)
    (l25 : K.lookup f25 = some ⟨oc25, od25, .func (PySem.W.fnOf "value" "Looks.value" (defArgs sValue) (defBody sValue) (defScope sValue) .none kV25 dc25 pm25 an25 cd25 ct25), sl25⟩)
    (c25 : PySem.W.codeIn K cd25 "Looks.value" = true)
    (k25 : PySem.W.keepIn K (.ref f25) = true)
    (a26 : PySem.W.findIn K (.ref CLk) "readings" = some (some (.ref f26)))
    (i26 : PySem.W.isFn K (.ref f26) = true)
    (l26 : K.lookup f26 = some ⟨oc26, od26, .func (PySem.W.fnOf "readings" "Looks.readings" (defArgs sReadings) (defBody sReadings) (defScope sReadings) .none kV26 dc26 pm26 an26 cd26 ct26), sl26⟩)
    (c26 : PySem.W.codeIn K cd26 "Looks.readings" = true)
    (k26 : PySem.W.keepIn K (.ref f26) = true)
    (a27 : PySem.W.findIn K (.ref CKn) "__init__" = some (some (.ref f27)))
    (i27 : PySem.W.isFn K (.ref f27) = true)
    (l27 : K.lookup f27 = some ⟨oc27, od27, .func (PySem.W.fnOf "__init__" "Known.__init__" (defArgs sKInit) (defBody sKInit) (defScope sKInit) .none kV27 dc27 pm27 an27 cd27 ct27), sl27⟩)
    (c27 : PySem.W.codeIn K cd27 "Known.__init__" = true)
    (k27 : PySem.W.keepIn K (.ref f27) = true)
    (n_isinstance : PySem.W.nsIn K mainGlobals "isinstance" = some none)
    (n_len : PySem.W.nsIn K mainGlobals "len" = some none)
    (n_all : PySem.W.nsIn K mainGlobals "all" = some none)
    (n_any : PySem.W.nsIn K mainGlobals "any" = some none)
    (n_abs : PySem.W.nsIn K mainGlobals "abs" = some none)
    (n_range : PySem.W.nsIn K mainGlobals "range" = some none)
    (n_str : PySem.W.nsIn K mainGlobals "str" = some none)
    (n_tuple : PySem.W.nsIn K mainGlobals "tuple" = some none)
    (n_int : PySem.W.nsIn K mainGlobals "int" = some none)
    (n_bool : PySem.W.nsIn K mainGlobals "bool" = some none)
    (n_dict : PySem.W.nsIn K mainGlobals "dict" = some none)
    (n_max : PySem.W.nsIn K mainGlobals "max" = some none)
    (n_min : PySem.W.nsIn K mainGlobals "min" = some none)
    (n_sum : PySem.W.nsIn K mainGlobals "sum" = some none)
    (n_ValueError : PySem.W.nsIn K mainGlobals "ValueError" = some none)
    (n_sorted : PySem.W.nsIn K mainGlobals "sorted" = some none)
    (n_list : PySem.W.nsIn K mainGlobals "list" = some none)
    (v_SMALL : PySem.W.nsIn K mainGlobals "SMALL" = some (some u_SMALL))
    (r_SMALL : RelV (.str smallS) u_SMALL)
    (v_MOST_WORD : PySem.W.nsIn K mainGlobals "MOST_WORD" = some (some u_MOST_WORD))
    (r_MOST_WORD : RelV (.int 6) u_MOST_WORD)
    (v_MOST_DEEP : PySem.W.nsIn K mainGlobals "MOST_DEEP" = some (some u_MOST_DEEP))
    (r_MOST_DEEP : RelV (.int 4) u_MOST_DEEP)
    (v_MOST_WORTH_states : PySem.W.nsIn K mainGlobals "MOST_WORTH_states" = some (some u_MOST_WORTH_states))
    (r_MOST_WORTH_states : RelV (.int 1000000000) u_MOST_WORTH_states)
    (v_MOST_NUMBER : PySem.W.nsIn K mainGlobals "MOST_NUMBER" = some (some u_MOST_NUMBER))
    (r_MOST_NUMBER : RelV (.int 1000000000) u_MOST_NUMBER)
    (v_MOST_WITHIN : PySem.W.nsIn K mainGlobals "MOST_WITHIN" = some (some u_MOST_WITHIN))
    (r_MOST_WITHIN : RelV (.int 8) u_MOST_WITHIN)
    (pg_Looks : PySem.W.plainGet K CLk Str.empty = true)
    (hdc_Looks : PySem.W.hasDictIn K CLk = true)
    (po_Looks : PySem.W.plainOver K CLk = true)
    (sa_Looks : PySem.W.findIn K (.ref CLk) "__setattr__" = some (some (.builtin "object.__setattr__")))
    (mk_Looks : PySem.W.makesIn K CLk = true)
    (kc_Looks : PySem.W.keepIn K (.ref CLk) = true)
    (no_Looks_now : PySem.W.findIn K (.ref CLk) "now" = some none)
    (no_Looks_terms : PySem.W.findIn K (.ref CLk) "terms" = some none)
    (no_Looks_known : PySem.W.findIn K (.ref CLk) "known" = some none)
    (no_Looks_done : PySem.W.findIn K (.ref CLk) "done" = some none)
    (pg_Known : PySem.W.plainGet K CKn Str.empty = true)
    (hdc_Known : PySem.W.hasDictIn K CKn = true)
    (po_Known : PySem.W.plainOver K CKn = true)
    (sa_Known : PySem.W.findIn K (.ref CKn) "__setattr__" = some (some (.builtin "object.__setattr__")))
    (mk_Known : PySem.W.makesIn K CKn = true)
    (kc_Known : PySem.W.keepIn K (.ref CKn) = true)
    (no_Known_own : PySem.W.findIn K (.ref CKn) "own" = some none)
    (no_Known_row : PySem.W.findIn K (.ref CKn) "row" = some none)
    (g_BadDeed : PySem.W.nsIn K mainGlobals "BadDeed" = some (some (.ref e_BadDeed)))
    (g_BadLook : PySem.W.nsIn K mainGlobals "BadLook" = some (some (.ref e_BadLook)))
    (g_BadNumber : PySem.W.nsIn K mainGlobals "BadNumber" = some (some (.ref e_BadNumber)))
    (g_BadPath : PySem.W.nsIn K mainGlobals "BadPath" = some (some (.ref e_BadPath)))
    (g_BadState : PySem.W.nsIn K mainGlobals "BadState" = some (some (.ref e_BadState)))
    (g_Storm : PySem.W.nsIn K mainGlobals "Storm" = some (some (.ref e_Storm)))
    (g_LookError : PySem.W.nsIn K mainGlobals "LookError" = some (some (.ref e_LookError)))
    (x_BadLook : PySem.W.excIn K e_BadLook [.type "ValueError", .type "Exception", .type "BaseException", .type "object"] "ValueError.__new__" = true)
    (kp_BadLook : PySem.W.keepIn K (.ref e_BadLook) = true)
    (sb_BadLook : PySem.W.subIn K (.ref e_BadLook) (.type "BaseException") = some true)
    (ty_BadLook : PySem.W.typeIn K (.ref e_BadLook) = some (.type "type"))
    (hg_BadLook : PySem.W.findIn K (.ref e_BadLook) "__getattribute__" = some (some (.builtin "BaseException.__getattribute__")))
    (hk_BadLook : PySem.W.findIn K (.ref e_BadLook) "__getattr__" = some none)
    (hd_BadLook : PySem.W.hasDictIn K e_BadLook = true)
    (ha_BadLook : PySem.W.findIn K (.ref e_BadLook) "__class__" = some (some (.builtin "object.__class__")))
    (hm_BadLook : PySem.W.mroIn K e_BadLook (.type "object") = some true)
    (ki_BadLook_BadDeed : PySem.W.kitOne K (.ref e_BadLook) (.ref e_BadDeed) = some false)
    (ki_BadLook_BadLook : PySem.W.kitOne K (.ref e_BadLook) (.ref e_BadLook) = some true)
    (ki_BadLook_BadNumber : PySem.W.kitOne K (.ref e_BadLook) (.ref e_BadNumber) = some false)
    (ki_BadLook_BadPath : PySem.W.kitOne K (.ref e_BadLook) (.ref e_BadPath) = some false)
    (ki_BadLook_BadState : PySem.W.kitOne K (.ref e_BadLook) (.ref e_BadState) = some false)
    (ki_BadLook_Storm : PySem.W.kitOne K (.ref e_BadLook) (.ref e_Storm) = some false)
    (kv_BadLook : PySem.W.kitOne K (.ref e_BadLook) (.type "ValueError") = some true)
    (ex_BadLook : PySem.W.exmOne K (.ref e_BadLook) (.ref e_LookError) = some true)
    (x_BadPath : PySem.W.excIn K e_BadPath [.type "ValueError", .type "Exception", .type "BaseException", .type "object"] "ValueError.__new__" = true)
    (kp_BadPath : PySem.W.keepIn K (.ref e_BadPath) = true)
    (sb_BadPath : PySem.W.subIn K (.ref e_BadPath) (.type "BaseException") = some true)
    (ty_BadPath : PySem.W.typeIn K (.ref e_BadPath) = some (.type "type"))
    (hg_BadPath : PySem.W.findIn K (.ref e_BadPath) "__getattribute__" = some (some (.builtin "BaseException.__getattribute__")))
    (hk_BadPath : PySem.W.findIn K (.ref e_BadPath) "__getattr__" = some none)
    (hd_BadPath : PySem.W.hasDictIn K e_BadPath = true)
    (ha_BadPath : PySem.W.findIn K (.ref e_BadPath) "__class__" = some (some (.builtin "object.__class__")))
    (hm_BadPath : PySem.W.mroIn K e_BadPath (.type "object") = some true)
    (ki_BadPath_BadDeed : PySem.W.kitOne K (.ref e_BadPath) (.ref e_BadDeed) = some false)
    (ki_BadPath_BadLook : PySem.W.kitOne K (.ref e_BadPath) (.ref e_BadLook) = some false)
    (ki_BadPath_BadNumber : PySem.W.kitOne K (.ref e_BadPath) (.ref e_BadNumber) = some false)
    (ki_BadPath_BadPath : PySem.W.kitOne K (.ref e_BadPath) (.ref e_BadPath) = some true)
    (ki_BadPath_BadState : PySem.W.kitOne K (.ref e_BadPath) (.ref e_BadState) = some false)
    (ki_BadPath_Storm : PySem.W.kitOne K (.ref e_BadPath) (.ref e_Storm) = some false)
    (kv_BadPath : PySem.W.kitOne K (.ref e_BadPath) (.type "ValueError") = some true)
    (ex_BadPath : PySem.W.exmOne K (.ref e_BadPath) (.ref e_LookError) = some true)
    (x_BadState : PySem.W.excIn K e_BadState [.type "ValueError", .type "Exception", .type "BaseException", .type "object"] "ValueError.__new__" = true)
    (kp_BadState : PySem.W.keepIn K (.ref e_BadState) = true)
    (sb_BadState : PySem.W.subIn K (.ref e_BadState) (.type "BaseException") = some true)
    (ty_BadState : PySem.W.typeIn K (.ref e_BadState) = some (.type "type"))
    (hg_BadState : PySem.W.findIn K (.ref e_BadState) "__getattribute__" = some (some (.builtin "BaseException.__getattribute__")))
    (hk_BadState : PySem.W.findIn K (.ref e_BadState) "__getattr__" = some none)
    (hd_BadState : PySem.W.hasDictIn K e_BadState = true)
    (ha_BadState : PySem.W.findIn K (.ref e_BadState) "__class__" = some (some (.builtin "object.__class__")))
    (hm_BadState : PySem.W.mroIn K e_BadState (.type "object") = some true)
    (ki_BadState_BadDeed : PySem.W.kitOne K (.ref e_BadState) (.ref e_BadDeed) = some false)
    (ki_BadState_BadLook : PySem.W.kitOne K (.ref e_BadState) (.ref e_BadLook) = some false)
    (ki_BadState_BadNumber : PySem.W.kitOne K (.ref e_BadState) (.ref e_BadNumber) = some false)
    (ki_BadState_BadPath : PySem.W.kitOne K (.ref e_BadState) (.ref e_BadPath) = some false)
    (ki_BadState_BadState : PySem.W.kitOne K (.ref e_BadState) (.ref e_BadState) = some true)
    (ki_BadState_Storm : PySem.W.kitOne K (.ref e_BadState) (.ref e_Storm) = some false)
    (kv_BadState : PySem.W.kitOne K (.ref e_BadState) (.type "ValueError") = some true)
    (ex_BadState : PySem.W.exmOne K (.ref e_BadState) (.ref e_LookError) = some true)
    (hn : PySem.W.specialIn K (.builtin "object.__class__") "__get__" = some (some (.builtin "getset_descriptor.__get__")))
    (ht : PySem.W.takesIn K (.builtin "object.__class__") = some true)
    (g_READING : PySem.W.nsIn K mainGlobals "READING" = some (some (.ref aR)))
    (l_READING : K.lookup aR = some ⟨.type "tuple", odR, .seq itsR nR, slR⟩)
    (z_READING : itsR.size ≤ sizeLine)
    (w_READING : Vals (readW.map V.str) itsR.toList)
    (g_TWO : PySem.W.nsIn K mainGlobals "TWO" = some (some (.ref aT)))
    (l_TWO : K.lookup aT = some ⟨.type "tuple", odT, .seq itsT nT, slT⟩)
    (z_TWO : itsT.size ≤ sizeLine)
    (w_TWO : Vals (twoW.map V.str) itsT.toList)
    (tb_Pt : PySem.W.codeHdIn K c18z Pt = true)
    (tn_Pt : K.lookup Pt = none)
    (tb_Pw : PySem.W.codeHdIn K c24z Pw = true)
    (tn_Pw : K.lookup Pw = none)
    (ne_Pt_Pw : Pt ≠ Pw)
    : LawAtS PySem.Challenge.rw_lookhouse_k20_terms_refused w K L2.CX0 16 63 "script" mg fa h := by
  have e := hfa.symm.trans (PySem.W.mg_of X G a18)
  cases e
  have F0 := fun_mk (st := sIsWord) l0 c0 k0
  have b0 := F0.binds (ps := ["thing"]) fun _ _ _ _ _ _ us hl => match us, hl with | [_], _ => rfl
  have m0 := PySem.W.mg_of X G a0
  have F1 := fun_mk (st := sIsPath) l1 c1 k1
  have b1 := F1.binds (ps := ["thing"]) fun _ _ _ _ _ _ us hl => match us, hl with | [_], _ => rfl
  have m1 := PySem.W.mg_of X G a1
  have F2 := fun_mk (st := sNeedName) l2 c2 k2
  have b2 := F2.binds (ps := ["name"]) fun _ _ _ _ _ _ us hl => match us, hl with | [_], _ => rfl
  have m2 := PySem.W.mg_of X G a2
  have F3 := fun_mk (st := sIsNumber) l3 c3 k3
  have b3 := F3.binds (ps := ["thing", "most"]) fun _ _ _ _ _ _ us hl => match us, hl with | [_, _], _ => rfl
  have m3 := PySem.W.mg_of X G a3
  have F4 := fun_mk (st := sIsState) l4 c4 k4
  have b4 := F4.binds (ps := ["state"]) fun _ _ _ _ _ _ us hl => match us, hl with | [_], _ => rfl
  have m4 := PySem.W.mg_of X G a4
  have F5 := fun_mk (st := sNeedState) l5 c5 k5
  have b5 := F5.binds (ps := ["state"]) fun _ _ _ _ _ _ us hl => match us, hl with | [_], _ => rfl
  have m5 := PySem.W.mg_of X G a5
  have F6 := fun_mk (st := sNeedT) l6 c6 k6
  have b6 := F6.binds (ps := ["good"]) fun _ _ _ _ _ _ us hl => match us, hl with | [_], _ => rfl
  have m6 := PySem.W.mg_of X G a6
  have F7 := fun_mk (st := sDeep) l7 c7 k7
  have b7 := F7.binds (ps := ["term", "deep"]) fun _ _ _ _ _ _ us hl => match us, hl with | [_, _], _ => rfl
  have m7 := PySem.W.mg_of X G a7
  have F8 := fun_mk (st := sNeedTerm) l8 c8 k8
  have b8 := F8.binds (ps := ["term"]) fun _ _ _ _ _ _ us hl => match us, hl with | [_], _ => rfl
  have m8 := PySem.W.mg_of X G a8
  have F9 := fun_mk (st := sLooksIn) l9 c9 k9
  have b9 := F9.binds (ps := ["term"]) fun _ _ _ _ _ _ us hl => match us, hl with | [_], _ => rfl
  have m9 := PySem.W.mg_of X G a9
  have F10 := fun_mk (st := sNeedL) l10 c10 k10
  have b10 := F10.binds (ps := ["good"]) fun _ _ _ _ _ _ us hl => match us, hl with | [_], _ => rfl
  have m10 := PySem.W.mg_of X G a10
  have F11 := fun_mk (st := sWorth) l11 c11 k11
  have b11 := F11.binds (ps := ["term", "read"]) fun _ _ _ _ _ _ us hl => match us, hl with | [_, _], _ => rfl
  have m11 := PySem.W.mg_of X G a11
  have F12 := fun_mk (st := sCell) l12 c12 k12
  have b12 := F12.binds (ps := ["script", "k"]) fun _ _ _ _ _ _ us hl => match us, hl with | [_, _], _ => rfl
  have m12 := PySem.W.mg_of X G a12
  have F13 := fun_mk (st := sDrawn) l13 c13 k13
  have b13 := F13.binds (ps := ["cell", "k"]) fun _ _ _ _ _ _ us hl => match us, hl with | [_, _], _ => rfl
  have m13 := PySem.W.mg_of X G a13
  have F14 := fun_mk (st := sWord) l14 c14 k14
  have b14 := F14.binds (ps := ["e"]) fun _ _ _ _ _ _ us hl => match us, hl with | [_], _ => rfl
  have m14 := PySem.W.mg_of X G a14
  have F15 := fun_mk (st := sTold) l15 c15 k15
  have b15 := F15.binds (ps := ["deed"]) fun _ _ _ _ _ _ us hl => match us, hl with | [_], _ => rfl
  have m15 := PySem.W.mg_of X G a15
  have F16 := fun_mk (st := sNoTerm) l16 c16 k16
  have b16 := F16.binds (ps := []) fun _ _ _ _ _ _ us hl => match us, hl with | [], _ => rfl
  have m16 := PySem.W.mg_of X G a16
  have F17 := fun_mk (st := sTower) l17 c17 k17
  have b17 := F17.binds (ps := ["many"]) fun _ _ _ _ _ _ us hl => match us, hl with | [_], _ => rfl
  have m17 := PySem.W.mg_of X G a17
  have F18 := fun_mk (st := sLaw) l18 c18 k18
  have m18 := PySem.W.mg_of X G a18
  have F19 := fun_mk (st := sInit) l19 c19 k19
  have b19 := F19.binds (ps := ["self", "state"]) fun _ _ _ _ _ _ us hl => match us, hl with | [_, _], _ => rfl
  have M19 : Meth K CLk "__init__" f19 := ⟨a19, i19, k19⟩
  have F20 := fun_mk (st := sDefine) l20 c20 k20
  have b20 := F20.binds (ps := ["self", "name", "term"]) fun _ _ _ _ _ _ us hl => match us, hl with | [_, _, _], _ => rfl
  have M20 : Meth K CLk "define" f20 := ⟨a20, i20, k20⟩
  have F21 := fun_mk (st := sNames) l21 c21 k21
  have b21 := F21.binds (ps := ["self"]) fun _ _ _ _ _ _ us hl => match us, hl with | [_], _ => rfl
  have M21 : Meth K CLk "names" f21 := ⟨a21, i21, k21⟩
  have F22 := fun_mk (st := sShow) l22 c22 k22
  have b22 := F22.binds (ps := ["self", "state"]) fun _ _ _ _ _ _ us hl => match us, hl with | [_, _], _ => rfl
  have M22 : Meth K CLk "show" f22 := ⟨a22, i22, k22⟩
  have F23 := fun_mk (st := sIsFresh) l23 c23 k23
  have b23 := F23.binds (ps := ["self", "name"]) fun _ _ _ _ _ _ us hl => match us, hl with | [_, _], _ => rfl
  have M23 : Meth K CLk "is_fresh" f23 := ⟨a23, i23, k23⟩
  have F24 := fun_mk (st := sWorkOut) l24 c24 k24
  have b24 := F24.binds (ps := ["self", "name"]) fun _ _ _ _ _ _ us hl => match us, hl with | [_, _], _ => rfl
  have M24 : Meth K CLk "work_out" f24 := ⟨a24, i24, k24⟩
  have F25 := fun_mk (st := sValue) l25 c25 k25
  have b25 := F25.binds (ps := ["self", "name"]) fun _ _ _ _ _ _ us hl => match us, hl with | [_, _], _ => rfl
  have M25 : Meth K CLk "value" f25 := ⟨a25, i25, k25⟩
  have F26 := fun_mk (st := sReadings) l26 c26 k26
  have b26 := F26.binds (ps := ["self", "name"]) fun _ _ _ _ _ _ us hl => match us, hl with | [_, _], _ => rfl
  have M26 : Meth K CLk "readings" f26 := ⟨a26, i26, k26⟩
  have F27 := fun_mk (st := sKInit) l27 c27 k27
  have b27 := F27.binds (ps := ["self", "own", "row"]) fun _ _ _ _ _ _ us hl => match us, hl with | [_, _, _], _ => rfl
  have M27 : Meth K CKn "__init__" f27 := ⟨a27, i27, k27⟩
  have gn : ∀ {x : Str}, PySem.W.nsIn K mainGlobals x = some none → mg x = none := fun e => PySem.W.mg_none_of X G e
  have gm : ∀ {x : Str} {u : Value}, PySem.W.nsIn K mainGlobals x = some (some u) → mg x = some u := fun e => PySem.W.mg_of X G e
  have XBadLook : Xc K mg "BadLook" e_BadLook := ⟨gm g_BadLook, x_BadLook, kp_BadLook, sb_BadLook, ty_BadLook⟩
  have XBadPath : Xc K mg "BadPath" e_BadPath := ⟨gm g_BadPath, x_BadPath, kp_BadPath, sb_BadPath, ty_BadPath⟩
  have XBadState : Xc K mg "BadState" e_BadState := ⟨gm g_BadState, x_BadState, kp_BadState, sb_BadState, ty_BadState⟩
  have OBadLook : Own K [e_BadDeed, e_BadLook, e_BadNumber, e_BadPath, e_BadState, e_Storm] e_LookError e_BadLook 1 := ⟨⟨hg_BadLook, hk_BadLook, sb_BadLook, hd_BadLook, ha_BadLook, hn, ht, hm_BadLook⟩, fun j c hj => match j, hj with
    | 0, hj => by cases hj; exact ki_BadLook_BadDeed
    | 1, hj => by cases hj; exact ki_BadLook_BadLook
    | 2, hj => by cases hj; exact ki_BadLook_BadNumber
    | 3, hj => by cases hj; exact ki_BadLook_BadPath
    | 4, hj => by cases hj; exact ki_BadLook_BadState
    | 5, hj => by cases hj; exact ki_BadLook_Storm
    | _ + 6, hj => (by cases hj), kv_BadLook, ex_BadLook⟩
  have OBadPath : Own K [e_BadDeed, e_BadLook, e_BadNumber, e_BadPath, e_BadState, e_Storm] e_LookError e_BadPath 3 := ⟨⟨hg_BadPath, hk_BadPath, sb_BadPath, hd_BadPath, ha_BadPath, hn, ht, hm_BadPath⟩, fun j c hj => match j, hj with
    | 0, hj => by cases hj; exact ki_BadPath_BadDeed
    | 1, hj => by cases hj; exact ki_BadPath_BadLook
    | 2, hj => by cases hj; exact ki_BadPath_BadNumber
    | 3, hj => by cases hj; exact ki_BadPath_BadPath
    | 4, hj => by cases hj; exact ki_BadPath_BadState
    | 5, hj => by cases hj; exact ki_BadPath_Storm
    | _ + 6, hj => (by cases hj), kv_BadPath, ex_BadPath⟩
  have OBadState : Own K [e_BadDeed, e_BadLook, e_BadNumber, e_BadPath, e_BadState, e_Storm] e_LookError e_BadState 4 := ⟨⟨hg_BadState, hk_BadState, sb_BadState, hd_BadState, ha_BadState, hn, ht, hm_BadState⟩, fun j c hj => match j, hj with
    | 0, hj => by cases hj; exact ki_BadState_BadDeed
    | 1, hj => by cases hj; exact ki_BadState_BadLook
    | 2, hj => by cases hj; exact ki_BadState_BadNumber
    | 3, hj => by cases hj; exact ki_BadState_BadPath
    | 4, hj => by cases hj; exact ki_BadState_BadState
    | 5, hj => by cases hj; exact ki_BadState_Storm
    | _ + 6, hj => (by cases hj), kv_BadState, ex_BadState⟩
  have T : Tx K mg := ⟨gn n_isinstance, gn n_len, gn n_all, gn n_any, gn n_abs, gn n_range, gn n_str, gn n_tuple, gn n_int, gn n_bool, gn n_dict, ⟨_, gm v_SMALL, r_SMALL⟩, ⟨_, gm v_MOST_WORD, r_MOST_WORD⟩, ⟨_, gm v_MOST_DEEP, r_MOST_DEEP⟩, ⟨_, gm v_MOST_WORTH_states, r_MOST_WORTH_states⟩⟩
  have TT : Tt K mg aR aT := ⟨⟨_, gm v_MOST_NUMBER, r_MOST_NUMBER⟩, ⟨_, gm v_MOST_WITHIN, r_MOST_WITHIN⟩, gm g_READING, ⟨_, itsR, nR, l_READING, rfl, rfl, z_READING, w_READING⟩, gm g_TWO, ⟨_, itsT, nT, l_TWO, rfl, rfl, z_TWO, w_TWO⟩⟩
  have L : Lc K mg CLk CKn := ⟨⟨pg_Looks, hdc_Looks, po_Looks, sa_Looks⟩, no_Looks_now, no_Looks_terms, no_Looks_known, no_Looks_done, ⟨pg_Known, hdc_Known, po_Known, sa_Known⟩, no_Known_own, no_Known_row, gm gc_Looks, gm gc_Known⟩
  have N : Cn mg e_BadDeed e_BadLook e_BadNumber e_BadPath e_BadState e_Storm := ⟨gm g_BadDeed, gm g_BadLook, gm g_BadNumber, gm g_BadPath, gm g_BadState, gm g_Storm, gn n_ValueError, gn n_sum⟩
  refine ⟨PySem.W.fnOf "law" "law" (defArgs sLaw) (defBody sLaw) (defScope sLaw) .none kV18 dc18 pm18 an18 (.ref c18z) ct18, [(c18z, Pt), (c24z, Pw)], spLaw K Pt Pw, fun p hp => ?_, fun p hp => ?_, fun p hp => ?_, fun s u => .of_eq rfl, fun H a ns hl _ hT hS => ⟨a, ns, rfl, hS, hl, hT _ List.mem_cons_self, hT _ (List.mem_cons_of_mem _ List.mem_cons_self), fun _ => rfl⟩, fun base KB GB TB => ?_⟩
  · rcases List.mem_cons.mp hp with e | hp
    · rw [e]; exact hP_Pt
    · rw [List.mem_singleton.mp hp]; exact hP_Pw
  · rcases List.mem_cons.mp hp with e | hp
    · rw [e]; exact tn_Pt
    · rw [List.mem_singleton.mp hp]; exact tn_Pw
  · rcases List.mem_cons.mp hp with e | hp
    · rw [e]; exact PySem.W.codeHd_of_K X tb_Pt
    · rw [List.mem_singleton.mp hp]; exact PySem.W.codeHd_of_K X tb_Pw
  have Dw := ok_isWord (P := PySem.Challenge.rw_lookhouse_k20_terms_refused.prog) (w := w) (base := base) F0 m0 b0 T
  have Dp := ok_isPath (P := PySem.Challenge.rw_lookhouse_k20_terms_refused.prog) (w := w) (base := base) F1 m1 b1 T Dw
  have Dn := ok_isNumber (P := PySem.Challenge.rw_lookhouse_k20_terms_refused.prog) (w := w) (base := base) F3 m3 b3 T
  have Dnn := ok_needName F2 m2 b2 XBadPath Dw
  have Dst := ok_isState F4 m4 b4 T Dp Dn
  have Dns := ok_needState F5 m5 b5 XBadState Dst
  have D0 := ok_needT (P := PySem.Challenge.rw_lookhouse_k20_terms_refused.prog) (w := w) (base := base) F6 m6 b6 XBadLook
  have Dl := ok_needL (P := PySem.Challenge.rw_lookhouse_k20_terms_refused.prog) (w := w) (base := base) F10 m10 b10 XBadLook
  have Dnt := ok_needTerm F8 m8 b8 (ok_deep F7 m7 b7 T TT D0 Dw Dp Dn 8)
  have Dli := ok_looksIn (P := PySem.Challenge.rw_lookhouse_k20_terms_refused.prog) (w := w) (base := base) F9 m9 b9 T TT (gn n_sorted) 8
  have Dwo := ok_worth (P := PySem.Challenge.rw_lookhouse_k20_terms_refused.prog) (w := w) (base := base) F11 m11 b11
  have FI := ok_init (P := PySem.Challenge.rw_lookhouse_k20_terms_refused.prog) (w := w) (base := base) F19 T L Dns
  have Ddef := ok_define F20 M20 b20 T L Dnn Dnt Dl Dli
  have Dnam := ok_names (P := PySem.Challenge.rw_lookhouse_k20_terms_refused.prog) (w := w) (base := base) F21 M21 b21 L (gn n_list)
  have Dsho := ok_show F22 M22 b22 Dns
  have Drea := ok_readings F26 M26 b26 L Dnn Dl
  have Dfr := ok_fresh (P := PySem.Challenge.rw_lookhouse_k20_terms_refused.prog) (w := w) (base := base) F23 M23 b23 L
  have Dwk := ok_workOut (Pt := Pt) l24 c24 M24 b24 L Dwo ⟨mk_Known, a27, i27, kc_Known⟩ (ok_kinit F27 L) b27 (TB (c24z, Pw) (List.mem_cons_of_mem _ List.mem_cons_self)) ne_Pt_Pw
  have Dval := ok_value F25 M25 b25 L Dnn Dl Dfr Dwk
  have Dc := ok_cell (P := PySem.Challenge.rw_lookhouse_k20_terms_refused.prog) (w := w) (base := base) F12 m12 b12 T
  have Dd := ok_drawn (P := PySem.Challenge.rw_lookhouse_k20_terms_refused.prog) (w := w) (base := base) F13 m13 b13
  have Dtw := ok_tower (P := PySem.Challenge.rw_lookhouse_k20_terms_refused.prog) (w := w) (base := base) F17 m17 b17 T
  have Dno := ok_NoTerm F16 m16 b16 Dtw
  exact ok_law (fd := default) l18 c18 T L (gn n_max) (gn n_min) F15 m15 b15 (ok_word F14 T N) m14 k14 b14 (gm g_LookError) OBadLook OBadPath OBadState Dc Dd Dno Dtw Dnt Dli ⟨mk_Looks, a19, i19, kc_Looks⟩ FI b19 Ddef Dnam Dsho Drea Dval (TB (c18z, Pt) List.mem_cons_self) ne_Pt_Pw
end Lk
open PySem PySem.W PyProof.Rows
set_option maxRecDepth 100000 in
set_option maxHeartbeats 0 in
theorem PySem.Challenge.cw_lookhouse_k20_terms_refused_holds : PySem.Challenge.rw_lookhouse_k20_terms_refused.Holds := by
  w_on; o_law; k_head; (case hw => w_witness2)
  k_fill
  refine LamX.walk_ofTs (l := PySem.Challenge.rw_lookhouse_k20_terms_refused) (n := 63) (k := 16) (x := "script") (CX := fun _ => L2.CX0) (by decide +kernel) (by decide) rfl ⟨rfl, by decide, by decide⟩ (fun w h Y => PySem.W.km_in_of Y) ?F (fun _ _ _ _ _ z => z)
  case F =>
    intro w mg fa h Y KX G hmg
    refine' Lk.all_mk KX G hmg (PySem.W.km_tabs_of Y _ (List.mem_cons_of_mem _ List.mem_cons_self)) (PySem.W.km_tabs_of Y _ List.mem_cons_self) ?gc_Looks ?gc_Known ?a0 ?l0 ?c0 ?k0 ?a1 ?l1 ?c1 ?k1 ?a2 ?l2 ?c2 ?k2 ?a3 ?l3 ?c3 ?k3 ?a4 ?l4 ?c4 ?k4 ?a5 ?l5 ?c5 ?k5 ?a6 ?l6 ?c6 ?k6 ?a7 ?l7 ?c7 ?k7 ?a8 ?l8 ?c8 ?k8 ?a9 ?l9 ?c9 ?k9 ?a10 ?l10 ?c10 ?k10 ?a11 ?l11 ?c11 ?k11 ?a12 ?l12 ?c12 ?k12 ?a13 ?l13 ?c13 ?k13 ?a14 ?l14 ?c14 ?k14 ?a15 ?l15 ?c15 ?k15 ?a16 ?l16 ?c16 ?k16 ?a17 ?l17 ?c17 ?k17 ?a18 ?l18 ?c18 ?k18 ?a19 ?i19 ?l19 ?c19 ?k19 ?a20 ?i20 ?l20 ?c20 ?k20 ?a21 ?i21 ?l21 ?c21 ?k21 ?a22 ?i22 ?l22 ?c22 ?k22 ?a23 ?i23 ?l23 ?c23 ?k23 ?a24 ?i24 ?l24 ?c24 ?k24 ?a25 ?i25 ?l25 ?c25 ?k25 ?a26 ?i26 ?l26 ?c26 ?k26 ?a27 ?i27 ?l27 ?c27 ?k27 ?n_isinstance ?n_len ?n_all ?n_any ?n_abs ?n_range ?n_str ?n_tuple ?n_int ?n_bool ?n_dict ?n_max ?n_min ?n_sum ?n_ValueError ?n_sorted ?n_list ?v_SMALL ?r_SMALL ?v_MOST_WORD ?r_MOST_WORD ?v_MOST_DEEP ?r_MOST_DEEP ?v_MOST_WORTH_states ?r_MOST_WORTH_states ?v_MOST_NUMBER ?r_MOST_NUMBER ?v_MOST_WITHIN ?r_MOST_WITHIN ?pg_Looks ?hdc_Looks ?po_Looks ?sa_Looks ?mk_Looks ?kc_Looks ?no_Looks_now ?no_Looks_terms ?no_Looks_known ?no_Looks_done ?pg_Known ?hdc_Known ?po_Known ?sa_Known ?mk_Known ?kc_Known ?no_Known_own ?no_Known_row ?g_BadDeed ?g_BadLook ?g_BadNumber ?g_BadPath ?g_BadState ?g_Storm ?g_LookError ?x_BadLook ?kp_BadLook ?sb_BadLook ?ty_BadLook ?hg_BadLook ?hk_BadLook ?hd_BadLook ?ha_BadLook ?hm_BadLook ?ki_BadLook_BadDeed ?ki_BadLook_BadLook ?ki_BadLook_BadNumber ?ki_BadLook_BadPath ?ki_BadLook_BadState ?ki_BadLook_Storm ?kv_BadLook ?ex_BadLook ?x_BadPath ?kp_BadPath ?sb_BadPath ?ty_BadPath ?hg_BadPath ?hk_BadPath ?hd_BadPath ?ha_BadPath ?hm_BadPath ?ki_BadPath_BadDeed ?ki_BadPath_BadLook ?ki_BadPath_BadNumber ?ki_BadPath_BadPath ?ki_BadPath_BadState ?ki_BadPath_Storm ?kv_BadPath ?ex_BadPath ?x_BadState ?kp_BadState ?sb_BadState ?ty_BadState ?hg_BadState ?hk_BadState ?hd_BadState ?ha_BadState ?hm_BadState ?ki_BadState_BadDeed ?ki_BadState_BadLook ?ki_BadState_BadNumber ?ki_BadState_BadPath ?ki_BadState_BadState ?ki_BadState_Storm ?kv_BadState ?ex_BadState ?hn ?ht ?g_READING ?l_READING ?z_READING ?w_READING ?g_TWO ?l_TWO ?z_TWO ?w_TWO ?tb_Pt ?tn_Pt ?tb_Pw ?tn_Pw ?ne_Pt_Pw
    (case gc_Looks => k_is)
    (case gc_Known => k_is)
    (case a0 => k_is)
    (case l0 => k_is)
    (case c0 => k_is)
    (case k0 => k_is)
    (case a1 => k_is)
    (case l1 => k_is)
    (case c1 => k_is)
    (case k1 => k_is)
    (case a2 => k_is)
    (case l2 => k_is)
    (case c2 => k_is)
    (case k2 => k_is)
    (case a3 => k_is)
    (case l3 => k_is)
    (case c3 => k_is)
    (case k3 => k_is)
    (case a4 => k_is)
    (case l4 => k_is)
    (case c4 => k_is)
    (case k4 => k_is)
    (case a5 => k_is)
    (case l5 => k_is)
    (case c5 => k_is)
    (case k5 => k_is)
    (case a6 => k_is)
    (case l6 => k_is)
    (case c6 => k_is)
    (case k6 => k_is)
    (case a7 => k_is)
    (case l7 => k_is)
    (case c7 => k_is)
    (case k7 => k_is)
    (case a8 => k_is)
    (case l8 => k_is)
    (case c8 => k_is)
    (case k8 => k_is)
    (case a9 => k_is)
    (case l9 => k_is)
    (case c9 => k_is)
    (case k9 => k_is)
    (case a10 => k_is)
    (case l10 => k_is)
    (case c10 => k_is)
    (case k10 => k_is)
    (case a11 => k_is)
    (case l11 => k_is)
    (case c11 => k_is)
    (case k11 => k_is)
    (case a12 => k_is)
    (case l12 => k_is)
    (case c12 => k_is)
    (case k12 => k_is)
    (case a13 => k_is)
    (case l13 => k_is)
    (case c13 => k_is)
    (case k13 => k_is)
    (case a14 => k_is)
    (case l14 => k_is)
    (case c14 => k_is)
    (case k14 => k_is)
    (case a15 => k_is)
    (case l15 => k_is)
    (case c15 => k_is)
    (case k15 => k_is)
    (case a16 => k_is)
    (case l16 => k_is)
    (case c16 => k_is)
    (case k16 => k_is)
    (case a17 => k_is)
    (case l17 => k_is)
    (case c17 => k_is)
    (case k17 => k_is)
    (case a18 => k_is)
    (case l18 => k_is)
    (case c18 => k_is)
    (case k18 => k_is)
    (case a19 => k_is)
    (case i19 => k_is)
    (case l19 => k_is)
    (case c19 => k_is)
    (case k19 => k_is)
    (case a20 => k_is)
    (case i20 => k_is)
    (case l20 => k_is)
    (case c20 => k_is)
    (case k20 => k_is)
    (case a21 => k_is)
    (case i21 => k_is)
    (case l21 => k_is)
    (case c21 => k_is)
    (case k21 => k_is)
    (case a22 => k_is)
    (case i22 => k_is)
    (case l22 => k_is)
    (case c22 => k_is)
    (case k22 => k_is)
    (case a23 => k_is)
    (case i23 => k_is)
    (case l23 => k_is)
    (case c23 => k_is)
    (case k23 => k_is)
    (case a24 => k_is)
    (case i24 => k_is)
    (case l24 => k_is)
    (case c24 => k_is)
    (case k24 => k_is)
    (case a25 => k_is)
    (case i25 => k_is)
    (case l25 => k_is)
    (case c25 => k_is)
    (case k25 => k_is)
    (case a26 => k_is)
    (case i26 => k_is)
    (case l26 => k_is)
    (case c26 => k_is)
    (case k26 => k_is)
    (case a27 => k_is)
    (case i27 => k_is)
    (case l27 => k_is)
    (case c27 => k_is)
    (case k27 => k_is)
    (case n_isinstance => k_is)
    (case n_len => k_is)
    (case n_all => k_is)
    (case n_any => k_is)
    (case n_abs => k_is)
    (case n_range => k_is)
    (case n_str => k_is)
    (case n_tuple => k_is)
    (case n_int => k_is)
    (case n_bool => k_is)
    (case n_dict => k_is)
    (case n_max => k_is)
    (case n_min => k_is)
    (case n_sum => k_is)
    (case n_ValueError => k_is)
    (case n_sorted => k_is)
    (case n_list => k_is)
    (case v_SMALL => k_is)
    (case r_SMALL => exact ⟨_, rfl⟩)
    (case v_MOST_WORD => k_is)
    (case r_MOST_WORD => exact ⟨_, rfl⟩)
    (case v_MOST_DEEP => k_is)
    (case r_MOST_DEEP => exact ⟨_, rfl⟩)
    (case v_MOST_WORTH_states => k_is)
    (case r_MOST_WORTH_states => exact ⟨_, rfl⟩)
    (case v_MOST_NUMBER => k_is)
    (case r_MOST_NUMBER => exact ⟨_, rfl⟩)
    (case v_MOST_WITHIN => k_is)
    (case r_MOST_WITHIN => exact ⟨_, rfl⟩)
    (case pg_Looks => k_is)
    (case hdc_Looks => k_is)
    (case po_Looks => k_is)
    (case sa_Looks => k_is)
    (case mk_Looks => k_is)
    (case kc_Looks => k_is)
    (case no_Looks_now => k_is)
    (case no_Looks_terms => k_is)
    (case no_Looks_known => k_is)
    (case no_Looks_done => k_is)
    (case pg_Known => k_is)
    (case hdc_Known => k_is)
    (case po_Known => k_is)
    (case sa_Known => k_is)
    (case mk_Known => k_is)
    (case kc_Known => k_is)
    (case no_Known_own => k_is)
    (case no_Known_row => k_is)
    (case g_BadDeed => k_is)
    (case g_BadLook => k_is)
    (case g_BadNumber => k_is)
    (case g_BadPath => k_is)
    (case g_BadState => k_is)
    (case g_Storm => k_is)
    (case g_LookError => k_is)
    (case x_BadLook => k_exc)
    (case kp_BadLook => k_is)
    (case sb_BadLook => k_is)
    (case ty_BadLook => k_is)
    (case hg_BadLook => k_is)
    (case hk_BadLook => k_is)
    (case hd_BadLook => k_is)
    (case ha_BadLook => k_is)
    (case hm_BadLook => k_is)
    (case ki_BadLook_BadDeed => kernel_rfl)
    (case ki_BadLook_BadLook => kernel_rfl)
    (case ki_BadLook_BadNumber => kernel_rfl)
    (case ki_BadLook_BadPath => kernel_rfl)
    (case ki_BadLook_BadState => kernel_rfl)
    (case ki_BadLook_Storm => kernel_rfl)
    (case kv_BadLook => kernel_rfl)
    (case ex_BadLook => kernel_rfl)
    (case x_BadPath => k_exc)
    (case kp_BadPath => k_is)
    (case sb_BadPath => k_is)
    (case ty_BadPath => k_is)
    (case hg_BadPath => k_is)
    (case hk_BadPath => k_is)
    (case hd_BadPath => k_is)
    (case ha_BadPath => k_is)
    (case hm_BadPath => k_is)
    (case ki_BadPath_BadDeed => kernel_rfl)
    (case ki_BadPath_BadLook => kernel_rfl)
    (case ki_BadPath_BadNumber => kernel_rfl)
    (case ki_BadPath_BadPath => kernel_rfl)
    (case ki_BadPath_BadState => kernel_rfl)
    (case ki_BadPath_Storm => kernel_rfl)
    (case kv_BadPath => kernel_rfl)
    (case ex_BadPath => kernel_rfl)
    (case x_BadState => k_exc)
    (case kp_BadState => k_is)
    (case sb_BadState => k_is)
    (case ty_BadState => k_is)
    (case hg_BadState => k_is)
    (case hk_BadState => k_is)
    (case hd_BadState => k_is)
    (case ha_BadState => k_is)
    (case hm_BadState => k_is)
    (case ki_BadState_BadDeed => kernel_rfl)
    (case ki_BadState_BadLook => kernel_rfl)
    (case ki_BadState_BadNumber => kernel_rfl)
    (case ki_BadState_BadPath => kernel_rfl)
    (case ki_BadState_BadState => kernel_rfl)
    (case ki_BadState_Storm => kernel_rfl)
    (case kv_BadState => kernel_rfl)
    (case ex_BadState => kernel_rfl)
    (case hn => k_is)
    (case ht => k_is)
    (case g_READING => k_is)
    (case l_READING => k_is)
    (case z_READING => decide)
    (case w_READING => exact .cons ⟨_, rfl⟩ (.cons ⟨_, rfl⟩ (.cons ⟨_, rfl⟩ (.cons ⟨_, rfl⟩ .nil))))
    (case g_TWO => k_is)
    (case l_TWO => k_is)
    (case z_TWO => decide)
    (case w_TWO => exact .cons ⟨_, rfl⟩ (.cons ⟨_, rfl⟩ (.cons ⟨_, rfl⟩ (.cons ⟨_, rfl⟩ (.cons ⟨_, rfl⟩ .nil)))))
    (case tb_Pt => kernel_rfl)
    (case tn_Pt => kernel_rfl)
    (case tb_Pw => kernel_rfl)
    (case tn_Pw => kernel_rfl)
    (case ne_Pt_Pw => decide)
