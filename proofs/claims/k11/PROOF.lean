import PyProof.Rows.All
import Wide.All
import OpenK.AllK
import Wide.FinOn
import HandS.ForMost
import HandS.HotCalls
import HandS.Lambda
import HandS.ExcCtx
import HandS.ExcIs
import HandS.WordsExc
import HandS.EndTab
import KE.KDictDisplayH
import HandS.Walk
import HandS.IsInst
import HandS.Wide
import HandS.TupMul
import HandS.TupAny
import HandS.Evl
import HandS.More
import PySem.Challenge.RW_lookhouse_k11_states_refused
set_option Elab.async false
set_option linter.all false
set_option maxRecDepth 100000
set_option maxHeartbeats 4000000
/-! While an exception is handled: a list's iterator at its end, sum of a list, a list comprehension over a list. -/
namespace Lk
open PySem PySem.Spec PyProof.Rows L2 HotX L2H
section
variable {prog : Program} {w : World} {A : Around} {E : Value → Shared → Prop} {s : Shared}
theorem hot_end {it l x1 : Addr} {i : Nat} {items : Array Value} {Q : Option Value → Shared → Prop} (hot : HotAt A x1 s.heap) (hne : x1 ≠ it)
    (hit : s.heap.IsListIter it l i) (hl : s.heap.IsList l items) (hx : items[i]? = none)
    (hQ : ∀ h', Heap.ExtBut it s.heap h' → Q none { s with heap := h' }) : wpAny (model prog w) A (pyNext (.ref it)) Q E s := by
  obtain ⟨oi, hoi, hci, hdi⟩ := id hit
  obtain ⟨oL, hoL, _, nL, hdL⟩ := hl
  obtain ⟨hh, o1, vs1, h1, d1, c1⟩ := hot
  unfold pyNext
  refine wpAny_bind (wpAny_attempt (wpAny_callSpecial?_slot (name := Str.ofString "__next__") hit.typeIs slot_listiter_next
    (wpAny_call_entry slot_listiter_next hit.typeIs entry_listiter_next ?g (args_listiter_next _))))
  case g =>
    show wpAny _ _ (field (.ref it) 0 >>= _) _ _ s
    refine wpAny_bind (wpAny_field hoi hdi (x := .ref l) rfl ?_)
    show wpAny _ _ (if (Value.ref l == Value.none) = true then _ else _) _ _ s
    rw [if_neg (show ¬ ((Value.ref l == Value.none) = true) from Bool.false_ne_true)]
    show wpAny _ _ (field (.ref it) 1 >>= _) _ _ s
    refine wpAny_bind (wpAny_field hoi hdi (x := .int i 0) rfl ?_)
    show wpAny _ _ (seqItems? (.ref l) >>= _) _ _ s
    refine wpAny_bind (wpAny_seqItems hoL hdL ?_)
    simp only [Int.toNat_natCast, hx]
    refine wpAny_bind (wpAny_rule (wpAny_bind (wpAny_setField hoi hdi (by simp) ?_)))
    generalize hg : s.heap.update it (Obj.mapFields (·.setIfInBounds 0 Value.none)) = g
    have g1 : g.get? x1 = some o1 := by rw [← hg, Heap.get?_update_other _ _ (Ne.symm hne)]; exact h1
    show wpAny _ _ (newExc (.type "StopIteration") [] >>= _) _ _ _
    refine wpAny_bind ?_
    simp only [newExc, newTuple]
    refine wpAny_bind (wpAny_newObj_type ?_ (by size_fits))
    refine wpAny_bind (m := firstArgMember _ _) (wpAny_of_eq (a := Value.none) (by first | rfl | (simp only [firstArgMember]; rfl)) ?_)
    refine wpAny_newObj_type ?_ (by size_fits)
    have p1 := Heap.get?_push_of_some ({ cls := .type "tuple", data := .seq #[] } : Obj) g1
    have nx := Nat.ne_of_lt (Heap.lt_size p1)
    refine raiseNew_hot (x1 := x1) ⟨hh, o1, vs1, Heap.get?_push_of_some _ p1, d1, c1⟩ nx (Heap.get?_push_size _ rfl) rfl (by first | (simp; done) | (simp only [Array.size_append]; simp; omega)) ?_
    refine wpAny_bind (wpAny_isInstance (T := "StopIteration") (b := true) ⟨_, Heap.get?_update_self _ (Heap.get?_push_size _ rfl) rfl, rfl⟩ isSubtype_stop ?_)
    refine wpAny_pure (hQ _ fun b o hb e => ?_)
    have e1 : g.get? b = some o := by rw [← hg, Heap.get?_update_other _ _ (Ne.symm hb)]; exact e
    have e2 := Heap.get?_push_of_some ({ cls := .type "tuple", data := .seq #[] } : Obj) e1
    rw [Heap.get?_update_other _ _ (Nat.ne_of_gt (Heap.lt_size e2))]
    exact Heap.get?_push_of_some _ e2

/-- a list's walk while the exception at x1 is handled -/
theorem hot_walk {x1 : Addr} (hh : A.handled = some (.ref x1)) (it ax : Addr) (hne : ax ≠ it) (hx1 : x1 ≠ it) (items : Array Value) :
    Walks prog w A it [it, ax, x1] [it] items.size (fun i v => items[i]? = some v) (fun i h => (h.IsListIter it ax i ∧ h.IsList ax items) ∧ HotAt A x1 h) where
  sub := fun b hb => by
    have e : b = it := by simpa using hb
    rw [e]; simp
  frame := fun _ _ _ st hk => by
    obtain ⟨⟨s1, s2⟩, hz, o, vs, g1, g2, g3⟩ := st
    exact ⟨⟨s1.at fun o e => hk it (by simp) o e, s2.at fun o e => hk ax (by simp) o e⟩, hz, o, vs, hk x1 (by simp) o g1, g2, g3⟩
  item := fun i s Q E hi st hQ => by
    obtain ⟨⟨s1, s2⟩, hz, o, vs, g1, g2, g3⟩ := st
    refine wpAny_pyNext_list_item s1 s2 (x := items[i]) (by simp [hi]) fun h' hit' hs' => ?_
    refine hQ _ h' s.toks (by simp [hi]) ⟨⟨hit', s2.extBut hs'.extBut hne⟩, hz, o, vs, hs'.extBut x1 o hx1 g1, g2, g3⟩ fun b o hb e => hs'.extBut b o (fun z => hb (by simp [z])) e
  done := fun s Q E st hQ => hot_end st.2 hx1 st.1.1 st.1.2 (by simp) fun h' he' => hQ h' s.toks fun b o hb e => he' b o (fun z => hb (by simp [z])) e
  self := fun _ _ _ _ st hQ => wpAny_pyIter_listiter st.1.1 hQ
theorem hot_sum {x1 l : Addr} {its : List Value} {ns : List Int} {Q : Value → Shared → Prop} (hot : HotAt A x1 s.heap) (hl : s.heap.IsList l its.toArray) (hi : IntsAre its ns)
    (h : ∀ h' tk t', (∀ b o, s.heap.get? b = some o → h'.get? b = some o) → Q (.int ns.sum t') { s with heap := h', toks := tk }) : wpAny (model prog w) A (call (.builtin "sum") [.ref l]) Q E s := by
  obtain ⟨xs, e⟩ := hi.allInts.items
  have hn : numsOf (intItems xs).toList = ns := by rw [← e]; exact hi.numsOf
  rw [nums_intItems] at hn
  rw [e] at hl
  obtain ⟨hh, o1, vs1, g1, g2, g3⟩ := hot
  refine call_sum_walkG (iter_intList hl fun s₂ e₂ st hfp hlI => ?_)
  subst e₂
  have k1 := Heap.get?_push_of_some ({ cls := .type "list_iterator", data := .fields #[.ref l, .int 0 0] } : Obj) g1
  refine ⟨_, _, _, _, _, _, numAt xs, rfl, hot_walk (A := A.in1) (x1 := x1) hh s.heap.objs.size l hlI (Nat.ne_of_lt (Heap.lt_size g1)) (intItems xs), ⟨st, hh, o1, vs1, k1, g2, g3⟩, fun b hb => ?_, (fun _ _ => intItems_at), fun h' tk t' hk => ?_⟩
  · rcases List.mem_cons.mp hb with z | hb
    · exact hfp b (by rw [z]; simp)
    · rcases List.mem_cons.mp hb with z | hb
      · exact hfp b (by rw [z]; simp)
      · have z : b = x1 := by simpa using hb
        rw [z]; exact Heap.lt_size k1
  · have q := h h' tk t' (old_kept hk)
    have e3 : preSum (numAt xs) (intItems xs).size = ns.sum := by
      have e4 : (intItems xs).size = xs.size := by simp [intItems]
      rw [e4, preSum_eq, List.take_of_length_le (by simp), hn]
    rw [e3]
    exact q
end
/-- sum(xs), ints, an exception being handled -/
theorem cr_sumH {X : Cx} (hc : HotC X) : CallR X (.builtin "sum") (rSum X.K) := by
  intro pins s σ H xs us Q I r h
  obtain ⟨a, ns, rfl, hS, q⟩ := h
  cases r with
  | cons r1 rr =>
    cases rr
    cases (show _ = Value.ref a from r1)
    obtain ⟨its, rv, hl, _⟩ := I.list hS
    obtain ⟨x1, hot⟩ := hc.at I
    exact hot_sum hot hl.isList rv.ints fun h' tk t' hk => ⟨.int _, H, I.kept hk, ⟨_, rfl⟩, q⟩
end Lk
set_option Elab.async false
set_option linter.all false
set_option maxRecDepth 100000
set_option maxHeartbeats 4000000
namespace Lk
open PySem PySem.Spec PyProof.Rows L2 HotX L2H
section
variable {X : Cx} {pins : List (Addr × Obj)} {σ : L2.St} {H : Hp} {s : Shared}
/-- the list's iterator gives an item -/
theorem it_item {tg : Expr} {a it : Addr} {i : Nat} {E : Value → Shared → Prop} (I : Inv X pins σ H s) (hf : FpOk X pins H it) (st : s.heap.IsListIter it a i) (hg : (Itl X.K a).go i H) :
    wpAny (model X.prog X.w) X.A (pyNext (.ref it)) (fun r s1 => ∃ u, r = some u ∧
      wpAny (model X.prog X.w) X.A (letOwnedTupleGo tg (.ref it) u) (fun _ s2 => ∃ x, Inv X pins σ H s2 ∧ RelV x u ∧ (Itl X.K a).yld i H x H ∧ s2.heap.IsListIter it a (i + 1)) E s1) E s := by
  obtain ⟨xs, x, hq, hx⟩ := hg
  obtain ⟨its, rv, p, hz⟩ := I.list hq
  obtain ⟨u, hu, ru⟩ := rv.get hx
  obtain ⟨f0, f1, f2, f3, f4, f5⟩ := hf
  refine wpAny_pyNext_list_item st p.isList (x := u) (by simpa using hu) fun h' st' sb => ?_
  have J : Inv X pins σ H { s with heap := h' } := I.turned (t' := s.toks) (fun b o hb e => (sb.2 b hb).trans e) f0 f1 f3 f4 f5
  obtain ⟨o, e, c, d⟩ := id st'
  exact ⟨u, rfl, go_of (s := { s with heap := h' }) e c d (by decide) ⟨x, J, ru, ⟨rfl, fun ys hy => by rw [I.list_inj hy hq]; exact hx⟩, st'⟩⟩
/-- .. or stops, the exception of the pin p being handled -/
theorem it_done {a it : Addr} {i : Nat} {E : Value → Shared → Prop} {p : Addr × Obj} (I : Inv X pins σ H s) (hp : p ∈ X.pn ++ pins) (hot : Hot1 X.A p) (hf : FpOk X pins H it) (st : s.heap.IsListIter it a i) (hg : (Itl X.K a).stop i H) :
    wpAny (model X.prog X.w) X.A (pyNext (.ref it)) (fun r s1 => r = none ∧ Inv X pins σ H s1) E s := by
  obtain ⟨xs, hq, hx⟩ := hg
  obtain ⟨its, rv, pl, hz⟩ := I.list hq
  obtain ⟨f0, f1, f2, f3, f4, f5⟩ := hf
  obtain ⟨hh, vs, d1, c1⟩ := hot
  have hl := rv.length
  exact hot_end (x1 := p.1) ⟨hh, p.2, vs, (I.pin p hp).1, d1, c1⟩ (f5 p hp) st pl.isList (by simp; omega) fun h' eb => ⟨rfl, I.turned (t' := s.toks) (fun b o hb e => eb b o hb e) f0 f1 f3 f4 f5⟩
end
section
variable {X : Cx}
/-- [elt for tg in l if ..], l a list, while an exception is handled -/
theorem pe_lcH {elt tg l : Expr} {ifs : List Expr} {scope : Scope} {own : List (Str × Nat)} {pos : Pos} {tl : TE} {g : TG} {tt : TT} {te : TE} (hc : HotC X) (hN : X.N.Nodup) (hl : PE X l tl) (ok : BlkOk X.N X.env.scope scope own)
    (hg : ∀ (s : Shared) (H : Hp) (C : Addr) (cl : List (Str × Addr)) (fp : List Addr), PG (X.blk s H scope (compEnvC scope cl C X.env) fp) tg g)
    (ht : ∀ (s : Shared) (H : Hp) (C : Addr) (cl : List (Str × Addr)) (fp : List Addr), PTs (X.blk s H scope (compEnvC scope cl C X.env) fp) ifs tt)
    (he : ∀ (s : Shared) (H : Hp) (C : Addr) (cl : List (Str × Addr)) (fp : List Addr), PE (X.blk s H scope (compEnvC scope cl C X.env) fp) elt te) (hs : ∀ x, foldedSetIterable l X.env x = pure x := by intro _; rfl) :
    PE X (.ListComp elt [⟨tg, l, ifs, 0⟩] scope pos) (tLc (iList X.K tl) g tt te (own.map (·.2))) := by
  refine ⟨fun pins s σ H Q I h => ?_⟩
  obtain ⟨p, hot, hp⟩ := hc
  rw [eval_ListComp]
  have hfree : ∀ y ∈ scope.names, y.2 = .free → ∃ c, X.env.cells.lookup y.1 = some c := fun y hy e =>
    (ok.free y hy e).elim (fun k => I.ok.has _ (.inl k)) (fun k => I.ok.has _ (.inr k))
  refine wpAny_comprehension_free (use := none) rfl hs (closure_ok hfree) ok.kind (fun y hy e => by rw [ok.uniq y hy, e])
    (thn (hl.run pins s σ H _ I h) fun xv s1 ⟨x1, H1, I1, r1, a, ea, ⟨xs, hq⟩, q⟩ => ?_)
  subst ea
  cases (show xv = Value.ref a from r1)
  obtain ⟨its, rv, pl, hz⟩ := I1.list hq
  refine wpAny_pyIter_list pl.isList ?_
  -- the iterator
  generalize hit : s1.heap.objs.size = it
  generalize hs2 : ({ s1 with heap := s1.heap.push { cls := .type "list_iterator", data := .fields #[.ref a, .int 0 0] } } : Shared) = s2
  have I2 : Inv X pins σ H1 s2 := by rw [← hs2]; exact I1.kept (t' := s1.toks) fun b o e => Heap.get?_push_of_some _ e
  have st2 : s2.heap.IsListIter it a 0 := by rw [← hs2, ← hit]; exact ⟨_, Heap.get?_push_size _ rfl, rfl, rfl⟩
  have f2 : FpOk X pins H1 it := I1.fpOk (Nat.le_of_eq hit) (I1.hok.fresh (Nat.le_of_eq hit))
  have lt2 : it < s2.heap.objs.size := by obtain ⟨o, e, _⟩ := st2; exact Heap.lt_size e
  refine wpAny_newObj_type (newEnv_comp ?_) (by show 0 ≤ sizeLine; decide)
  -- the new list
  generalize hD : s2.heap.objs.size = D
  have hDn : H1 D = none := I2.hok.fresh (Nat.le_of_eq hD)
  obtain ⟨W, ⟨m0, w0⟩, turn⟩ := q D hDn
  generalize hs3 : ({ s2 with heap := s2.heap.push { cls := .type "list", data := .seq ([] : List Value).toArray } } : Shared) = s3
  have h3 : s3.heap = s2.heap.push { cls := .type "list", data := .seq ([] : List Value).toArray } := by rw [← hs3]
  have I3 : Inv X pins σ (upd H1 D (.lst [])) s3 := by
    rw [← hs3]
    refine I2.laid (t' := s2.toks) (fun b o e => Heap.get?_push_of_some _ e) (Nat.le_of_eq hD) ⟨Nat.zero_le _, [], 0, .nil, ?_⟩
    rw [← hD]
    exact Heap.get?_push_size _ rfl
  generalize hH3 : upd H1 D (.lst []) = H3 at I3 w0
  have n3 : H3 it = none := by
    rw [← hH3, upd_ne (by rw [← hD]; exact Nat.ne_of_lt lt2)]
    exact f2.1
  have f3 : ∀ b ∈ [it], FpOk X pins H3 b ∧ b < s3.heap.objs.size := fun b hb => by
    have e : b = it := by simpa using hb
    rw [e]
    exact ⟨⟨n3, f2.2⟩, by rw [h3, Heap.size_push]; exact Nat.lt_succ_of_lt lt2⟩
  have st3 : s3.heap.IsListIter it a 0 := st2.at fun o e => by rw [h3]; exact Heap.get?_push_of_some _ e
  have I4 := block_start I3 ok hN f3
  have pg := hg s3 H3 s3.heap.objs.size (cellsFrom (s3.heap.objs.size + 1) scope.names (cloFrom X.env.cells scope.names [])) [it]
  have pt := ht s3 H3 s3.heap.objs.size (cellsFrom (s3.heap.objs.size + 1) scope.names (cloFrom X.env.cells scope.names [])) [it]
  have pe := he s3 H3 s3.heap.objs.size (cellsFrom (s3.heap.objs.size + 1) scope.names (cloFrom X.env.cells scope.names [])) [it]
  generalize hce : compEnvC scope (cellsFrom (s3.heap.objs.size + 1) scope.names (cloFrom X.env.cells scope.names [])) s3.heap.objs.size X.env = ce at I4 pg pt pe
  have cL : ce.locals = s3.heap.objs.size := by subst hce; rfl
  generalize hs4 : ({ s3 with heap := pushCells (s3.heap.push { cls := .type "dict", data := .dict #[] }) scope.names } : Shared) = s4 at I4
  have kp4 : ∀ b o, s3.heap.get? b = some o → s4.heap.get? b = some o := fun b o e => by rw [← hs4]; exact pushCells_keeps _ _ _ _ (Heap.get?_push_of_some _ e)
  have st4 : s4.heap.IsListIter it a 0 := st3.at fun o e => kp4 _ _ e
  have P3 := I3.pin p (List.mem_append_left _ hp)
  have I5 : Inv (X.blk s3 H3 scope ce [it]) [p] (wipe σ (own.map (·.2))) H3 s4 := I4.pins_of fun r hr => by
    have e : r = p := by simpa using hr
    rw [e]
    refine ⟨kp4 _ _ P3.1, P3.2.1, ?_, fun z => ?_, P3.2.2.2.2⟩
    · show p.1 ≠ ce.locals
      rw [cL]; exact Nat.ne_of_lt (Heap.lt_size P3.1)
    · exact (List.mem_cons.mp (I3.stkSub p.1 z)).elim P3.2.2.1 P3.2.2.2.1
  have nip : p.1 ≠ it := f2.2.2.2.2.2 p (List.mem_append_left _ hp)
  have stat : ∀ {σ' : L2.St} {H' : Hp} {s' : Shared}, Inv (X.blk s3 H3 scope ce [it]) [p] σ' H' s' → H' it = none → FpOk (X.blk s3 H3 scope ce [it]) [p] H' it := fun {σ' H' s'} J hn =>
    ⟨hn, (J.ok.exf it (by simp)).1, J.ok.exfs it (by simp), .inl (by simp), fun x c e => (J.ok.exf it (by simp)).2 x c e, fun r hr => by
      have e : r = p := by simpa using (show r ∈ ([] : List (Addr × Obj)) ++ [p] from hr)
      rw [e]; exact nip⟩
  show codeAny _ _ (.compStart (.ListComp elt [⟨tg, l, ifs, 0⟩] scope pos) 0 (.ref it) (.ref D) (compEnvC scope (cellsFrom (s3.heap.objs.size + 1) scope.names (cloFrom X.env.cells scope.names [])) s3.heap.objs.size X.env)) _ _
  rw [hce]
  have fin : codeAny (model X.prog X.w) X.A (.compLoop (.ListComp elt [⟨tg, l, ifs, 0⟩] scope pos) 0 (.ref it) (.ref D) ce) (compPost (model X.prog X.w) X.A X.xe none (EP X pins σ Q) (.ref D) s3.heap.objs.size) s4 := by
    refine compLoop_any (fun n s' => ∃ i H', Inv (X.blk s3 H3 scope ce [it]) [p] (wipe σ (own.map (·.2))) H' s' ∧ s'.heap.IsListIter it a i ∧ H' it = none ∧ W i n H') ?_ m0 ⟨0, H3, I5, st4, n3, w0⟩
    rintro n s5 ⟨i, H5, J5, st5, n5, w5⟩
    rcases turn i n H5 w5 with ⟨stop, qq⟩ | ⟨go, Nx, hNx, step⟩
    · refine thnF (it_done (X := X.blk s3 H3 scope ce [it]) J5 (by show p ∈ ([] : List (Addr × Obj)) ++ [p]; simp) hot (stat J5 n5) st5 stop) fun r s6 ⟨hr, J6⟩ => ?_
      subst hr
      have J7 : Inv X pins σ H5 s6 := I3.call' (ch := [it]) J6.os J6.base J6.hok J6.bare fun b hb => by
        obtain ⟨⟨_, z1, _, z2, z3, z4⟩, _⟩ := f3 b hb
        exact ⟨z2, z1, z3, z4⟩
      have nC : H5 s3.heap.objs.size = none := by
        have z : H5 ce.locals = none := J6.free
        rw [cL] at z
        exact z
      obtain ⟨m, hn, _⟩ := J6.loc
      have hn : s6.heap.Ns ce.locals m := hn
      rw [cL] at hn
      obtain ⟨f0, f1, _, f4, f5, f6⟩ := I3.fpOk (H' := H5) (Nat.le_refl _) nC
      exact ⟨m, hn, fun h'' sb => ⟨.ref D, H5, J7.turned (t' := s6.toks) (fun b o hb e => (sb.2 b hb).trans e) f0 f1 f4 f5 f6, rfl, qq⟩⟩
    · refine thnF (it_item (X := X.blk s3 H3 scope ce [it]) (tg := tg) J5 (stat J5 n5) st5 go) fun r s6 ⟨u, hr, h6⟩ => ?_
      subst hr
      refine thnF h6 fun _ s7 ⟨x, J7, r7, y7, st7⟩ => ?_
      have J8 := J7.pinned (fp := [it]) (fun b hb => by
        have e : b = it := by simpa using hb
        rw [e]; exact stat J7 n5) (fun b hb => by
        have e : b = it := by simpa using hb
        rw [e]
        obtain ⟨o, e1, _, e3⟩ := id st7
        exact ⟨o, e1, fun v z => by rw [e3] at z; cases z⟩)
      refine thnF (pg.run _ s7 _ H5 x u _ J8 r7 (step x H5 y7)) fun _ s8 ⟨σ8, H8, J9, hw8, q8⟩ => ?_
      refine thnF (pt.run _ s8 σ8 H8 _ J9 q8) fun b s9 ⟨H9, J10, q9⟩ => ?_
      have over : ∀ {s' : Shared} {H' : Hp}, Inv (X.blk s3 H3 scope ce [it]) ([p] ++ pinsAt [it] s7.heap) σ8 H' s' → Nx H' →
          ∃ m, m < n ∧ ∃ i H', Inv (X.blk s3 H3 scope ce [it]) [p] (wipe σ (own.map (·.2))) H' s' ∧ s'.heap.IsListIter it a i ∧ H' it = none ∧ W i m H' := fun {s' H'} J nx => by
        obtain ⟨m', hm, w'⟩ := hNx H' nx
        obtain ⟨o, e1, _⟩ := id st7
        have z := J.pin (it, o) (List.mem_append_right _ (List.mem_append_right _ (mem_pinsAt (by simp) e1)))
        have hl8 : (wipe σ (own.map (·.2))).length = σ8.length := by rw [← hw8, wipe_length]
        refine ⟨m', hm, i + 1, H', J.unpinned.weak hl8 (fun j v e => ?_), st7.at fun o' e' => ?_, z.2.1, w'⟩
        · rw [← hw8] at e
          exact (wipe_some e).1
        · rw [e1] at e'; cases e'
          exact z.1
      cases b with
      | false =>
        simp only [Bool.false_eq_true, if_false] at q9 ⊢
        exact over J10 q9
      | true =>
        simp only [if_true] at q9 ⊢
        refine thnF (pe.run _ s9 σ8 H9 _ J10 q9) fun z s10 ⟨yv, H10, J11, r10, acc, hD10, hz10, nx⟩ => ?_
        exact app_ok (X := X.blk s3 H3 scope ce [it]) J11 hD10 hz10 r10 fun s11 J12 => over J12 nx
  exact codeAny_compStart_list fin (wpAny_pyIter_listiter st4 fin)
end
end Lk
set_option Elab.async false
set_option linter.all false
set_option maxRecDepth 100000
set_option maxHeartbeats 4000000
/-! A lambda handed to a def that catches what it raises; exceptions whose context is None. -/
namespace Lk
open PySem PySem.Spec PyProof.Rows L2 HotX L2H LamX
/-! ### a def that may raise (its exception has no context) -/
theorem okN {P : Program} {w : World} {K : PySem.W.Frag} {mg : Str → Option Value} {base : Heap} {x qual : Str} {st : Stmt} {f : Addr} {fd : FuncData} {N ps : List Str} {k : Nat} {sp : Sp} (F : L2.Fun K x qual st f fd) (S : FnScope N ps (defScope st)) (len : ∀ vs H Q E, sp vs H Q E → vs.length = ps.length)
    (hbody : ∀ (cdv : Value) (A : Around) (outer : List Env) (s : Shared) (H : Hp) (vs : List V) (Q : VK) (E : XK), Room k (A.deeper (envOfC qual (defScope st) s.heap.objs.size f cdv)) → sp vs H Q E →
      ∃ t, PSs (cxOf (L2N.CX P w) P w K mg base N qual (defScope st) f cdv A outer s H E) (defBody st) t ∧ t { nx := fun _ H' => Q .non H', rt := Q } (start N vs) H) : FnOk P w K mg base (L2N.CX P w) (k + 1) f fd ps sp := by
  obtain ⟨oc, od, kV, doc, pm, an, cdv, ct, osl, rfl, lk, hcd⟩ := F.ex
  exact fn_of lk hcd S len fun A outer s H vs Q E hr hsp => hbody cdv A outer s H vs Q E hr hsp
/-! ### a def called while the exception of the pin p is handled: its promise speaks of p -/
structure FnP (P : Program) (w : World) (K : PySem.W.Frag) (mg : Str → Option Value) (base : Heap) (k : Nat) (f : Addr) (fd : FuncData) (ps : List Str) (sp : Addr × Obj → Sp) : Prop where
  len : ∀ p vs H Q E, sp p vs H Q E → vs.length = ps.length
  run : ∀ (A : Around) (outer : List Env) (s : Shared) (H : Hp) (args : Args) (us : List Value) (vs : List V) (Q : VK) (p : Addr × Obj), RoomH k A → Hot1 A p → PinOk outer H s p → Env0 P w K mg base A outer s H → BindsTo s fd args (ps.zip us) → Vals vs us → sp p vs H Q L2.E0 →
    codeAny (model P w) A (.call (.ref f) args) (CR L2.CX0 outer P w H s Q L2.E0) s
theorem okP {P : Program} {w : World} {K : PySem.W.Frag} {mg : Str → Option Value} {base : Heap} {x qual : Str} {st : Stmt} {f : Addr} {fd : FuncData} {N ps : List Str} {k : Nat} {sp : Addr × Obj → Sp} (F : L2.Fun K x qual st f fd) (S : FnScope N ps (defScope st))
    (len : ∀ p vs H Q E, sp p vs H Q E → vs.length = ps.length)
    (hbody : ∀ (cdv : Value) (A : Around) (outer : List Env) (s : Shared) (H : Hp) (vs : List V) (Q : VK) (p : Addr × Obj), Hot1 A p → RoomH k (A.deeper (envOfC qual (defScope st) s.heap.objs.size f cdv)) → sp p vs H Q L2.E0 →
      ∃ t, PSs (cxH L2.CX0 P w K mg base N qual (defScope st) f cdv A outer s H L2.E0 p).nox (defBody st) t ∧ t { nx := fun _ H' => Q .non H', rt := Q } (L2.start N vs) H) :
    FnP P w K mg base (k + 1) f fd ps sp := by
  obtain ⟨oc, od, kV, doc, pm, an, cdv, ct, osl, rfl, lk, hcd⟩ := F.ex
  refine ⟨len, fun A outer s H args us vs Q p hr hot hpin e0 hb r hsp => ?_⟩
  have hl := len _ _ _ _ _ hsp
  have KX : K.In s.heap := e0.mod.kin.keeps fun b o e => (e0.bs b o e).1
  have lim : s.heap.NoLimit := e0.mod.nolimit.keeps fun b o e => (e0.bs b o e).1
  have hkind : ∀ y ∈ ps.zip us, (defScope st).names.lookup y.1 = some .local ∨ ((defScope st).names.lookup y.1 = some .cell ∧ ((cellsFrom (s.heap.objs.size + 1) (defScope st).names []).lookup y.1).isSome = true) := fun ⟨n, v⟩ hy =>
    (S.par n (List.of_mem_zip hy).1).elim .inl fun q => .inr ⟨q, PySem.W.cellsFrom_some _ _ _ (.inl q)⟩
  refine codeAny_call_function hr.depth (KX _ _ lk) rfl S.co S.gen rfl (PySem.W.codeRec_of KX hcd) (hb _ _ _ _ ?_)
  refine wpAny_newFunctionEnv_cells S.kind hkind fun env he s1 xx => ?_
  subst he
  refine ⟨lim.keeps xx.toInCall.keep, codeAny_func ?_⟩
  obtain ⟨t, ht, hq⟩ := hbody cdv A outer s H vs Q p hot (hr.deeper _) hsp
  have I : Inv (cxH L2.CX0 P w K mg base N qual (defScope st) f cdv A outer s H L2.E0 p) [] (L2.start N vs) H s1 := inv_startH S hpin e0 hl r xx
  refine wpAny_mono (ht.nox.run [] s1 (L2.start N vs) H _ I hq) (fun fl s' hs => ?_) fun e s' hs => hs
  have fin : ∀ {σ' : L2.St} {H' : Hp} {v : V} {u : Value}, Inv (cxH L2.CX0 P w K mg base N qual (defScope st) f cdv A outer s H L2.E0 p) [] σ' H' s' → L2.RelV v u → Q v H' → CE outer P w H s Q u s' :=
    fun {σ' H' v u} J rv q => ⟨v, H', J.os, J.bare, J.base, J.hok, rv, q⟩
  cases fl with
  | ret u =>
    obtain ⟨v, σ', H', J, rv, q⟩ := hs
    exact fin J rv q
  | next =>
    obtain ⟨σ', H', J, q⟩ := hs
    exact fin (v := V.non) (u := Value.none) J rfl q
  | brk => exact hs.elim fun _ z => z.elim fun _ z => False.elim z.2
  | cont => exact hs.elim fun _ z => z.elim fun _ z => False.elim z.2
section
variable {X : Cx} {k : Nat} {f : Addr} {fd : FuncData} {ps : List Str} {sp : Addr × Obj → Sp} {x : Str} {q pos : Pos} {e : Expr} {es : List Expr} {t : TA} {p : Addr × Obj}
theorem pe_callP (F : FnP X.prog X.w X.K X.mg X.base k f fd ps sp) (hr : RoomH k X.A) (hot : Hot1 X.A p) (hp : p ∈ X.pn) (hg : Gl X x) (hm : X.mg x = some (.ref f)) (hk : PySem.W.keepIn X.K (.ref f) = true) (hb : Binds X.K fd ps [])
    (ha : PA X (e :: es) t) (hdb : (x == ("__debug__" : Str)) = false := by decide) (he : starEach (e :: es) X.env = (false, eval e X.env) :: starEach es X.env := by rfl) (hpl : (backTo pos (starEach es X.env)).any (·.1) = false := by rfl) :
    PE X (.Call (.Name x q) (e :: es) [] pos) (fun σ H Q => t σ H fun vs H1 => sp p vs H1 Q L2.E0) := by
  refine ⟨fun pins s σ H Q I h => ?_⟩
  refine wpAny_Call_Name_kw (ld_glob I hg hm ?_ hdb)
  refine PySem.W.callWith_K (h₀ := X.base) I.ok.mod.kin hk (thn (ha.run pos pins s σ H _ I h) fun us s1 ⟨vs, H1, I1, r, hsp⟩ => ⟨I1.kIn, ?_⟩) he hpl
  have hl : us.length = ps.length := by rw [← r.length]; exact F.len _ _ _ _ _ hsp
  have b := hb s1 us I1.kIn (by rw [List.append_nil]; exact hl)
  rw [List.append_nil] at b
  have P1 := I1.pin p (List.mem_append_left _ hp)
  have hpin : PinOk X.stack H1 s1 p := ⟨P1.1, P1.2.1, fun hm => (List.mem_cons.mp (I1.stkSub p.1 hm)).elim P1.2.2.1 P1.2.2.2.1, P1.2.2.2.2⟩
  refine wpAny_call (codeAny_mono (F.run X.A X.stack s1 H1 ⟨us, []⟩ us vs Q p hr hot hpin I1.env0 b r hsp) fun rr s' hq => ?_)
  cases rr with
  | error e => exact (show False from hq).elim
  | ok fl =>
    cases fl with
    | ret u => exact I1.after hq
    | next => exact False.elim hq
    | brk => exact False.elim hq
    | cont => exact False.elim hq
/-- isinstance(e, c), e the exception of the pin p -/
theorem call_isP {D : Addr} (C : ExcC X.K D) (hp : p ∈ X.pn) (hz : Zc (.ref D) none p.2) (hf : ∃ vs, p.2.data = .fields vs) : CallR X (.builtin "isinstance") (rIsE X.K D p.1) := by
  intro pins s σ H xs us Q I r h
  obtain ⟨c, cv, b, rfl, hcv, e, qq⟩ := h
  obtain ⟨u1, u2, rfl, r1, r2⟩ := vals2 r
  cases (show u1 = Value.ref p.1 from r1)
  have ec := hcv _ r2
  subst ec
  have hget := (I.pin p (List.mem_append_left _ hp)).1
  obtain ⟨vs, hv⟩ := hf
  have J : PySem.W.InstAt s.heap p.1 p.2 D none := by
    obtain ⟨pa, oc, od, oda, osl⟩ := p
    obtain ⟨h1, h2⟩ := hz
    dsimp only at h1 h2 hv hget
    subst h1 h2 hv
    exact ⟨hget, rfl, rfl, trivial⟩
  exact PySem.W.kia_one (PySem.W.handS_kitx_exc C.hg C.hk C.hs C.hd C.ha C.hn C.ht C.hm) I.kIn J e (fun z => nomatch z) fun tk => ⟨.bl b, H, I.kept (t' := tk) fun _ _ z => z, rfl, qq⟩
end
end Lk
set_option Elab.async false
set_option linter.all false
set_option maxRecDepth 100000
set_option maxHeartbeats 4000000
namespace Lk
open PySem PySem.Spec PyProof.Rows L2 HotX L2H LamX
/-- what the lambda's frame makes of an exception -/
def lamXe (X : Cx) (A : Around) (outer : List Env) (s : Shared) (H : Hp) (E : XK) (scope : Scope) (f c' : Addr) : Value → Shared → Prop := fun e s' =>
  wpAny (model X.prog X.w) (A.deeper (lamEnv X scope s.heap.objs.size f c')) (leaving (lamEnv X scope s.heap.objs.size f c') e) (fun _ s'' => L2N.CX X.prog X.w outer H s E e s'') (fun e' s'' => L2N.CX X.prog X.w outer H s E e' s'') s'
/-- the context of the lambda's body -/
abbrev lamCxN (X : Cx) (A : Around) (outer : List Env) (s : Shared) (H : Hp) (E : XK) (scope : Scope) (f c' : Addr) : Cx := (lamCx X A outer s H E scope f c').wish (lamXe X A outer s H E scope f c')
section
variable {X : Cx} {pins : List (Addr × Obj)} {σ : L2.St} {H : Hp} {s : Shared}
/-- a() in the def that got the lambda -/
theorem pe_actN {Ng : List Str} {qg : Str} {sg : Scope} {g f c' : Addr} {cdg pm ctv : Value} {params : Arguments} {body : Expr} {scope : Scope} {k i : Nat} {a : Str} {pn : List (Addr × Obj)} {xe : Value → Shared → Prop} {W : WX} {E : XK} {tb : TE} {p1 p2 : Pos}
    (I : Inv X pins σ H s) (L : LamS X.env.scope scope) (hf : s.heap.get? f = some (PySem.W.kla_obj "<lambda>" (X.env.qual ++ "<lambda>") params body scope (cloFrom X.env.cells scope.names []) pm c' ctv)) (hfn : H f = none) (hfr : f ∉ frs X.stack)
    (hbind : bindArgs (PySem.W.kla_fn "<lambda>" (X.env.qual ++ "<lambda>") params body scope (cloFrom X.env.cells scope.names []) pm (.ref c') ctv) ⟨[], []⟩ = pure [])
    (tk : L2N.Takes ((cxOf C8.CX0 X.prog X.w X.K X.mg X.base Ng qg sg g cdg X.A X.stack s H C8.E0).tr pn xe) W) (hW : ∀ cls d (σ' : L2.St) H', σ'.length = Ng.length → E cls d H' → W cls d σ' H') (hr : Room (k + 1) (X.A.deeper (envOfC qg sg s.heap.objs.size g cdg)))
    (hbody : ∀ (A : Around) (outer : List Env) (s : Shared) (H : Hp), Room k (A.deeper (lamEnv X scope s.heap.objs.size f c')) → PE (lamCxN X A outer s H E scope f c') body tb)
    (hN : Ng[i]? = some a) (hv : Vis sg a) (hd : (a == ("__debug__" : Str)) = false := by decide) (hcd : (a == ("__classdict__" : Str)) = false := by decide) :
    PE ((cxOf C8.CX0 X.prog X.w X.K X.mg X.base Ng qg sg g cdg X.A X.stack s H C8.E0).tr pn xe) (.Call (.Name a p1) [] [] p2)
      (fun σZ HZ Q => σZ[i]? = some (some (.ref f)) ∧ HZ c' = some (CodeO c' (X.env.qual ++ "<lambda>")) ∧ tb σ HZ Q) := by
  refine ⟨fun pinsZ sZ σZ HZ Q IZ ⟨hs, hc, ht⟩ => ?_⟩
  refine wpAny_Call_Name_kw (thn ((pe_var (pos := p1) (i := i) hN hv hd hcd).run pinsZ sZ σZ HZ (fun v H1 => v = .ref f ∧ H1 = HZ) IZ ⟨.ref f, hs, rfl, rfl⟩) fun u s1 ⟨v, H1, I1, r1, q1, q2⟩ => ?_)
  subst q1
  rw [q2] at I1
  cases (show u = Value.ref f from r1)
  have of1 : s1.heap.get? f = some (PySem.W.kla_obj "<lambda>" (X.env.qual ++ "<lambda>") params body scope (cloFrom X.env.cells scope.names []) pm c' ctv) := I1.base.keep f _ hf hfn hfr (fun z => nomatch (show f ∈ ([] : List Addr) from z))
  refine PySem.W.callWith_F0 ⟨_, _, _, _, of1⟩ ?_
  have un : Un (frs X.stack) [] H HZ s.heap s1.heap := I1.base
  obtain ⟨⟨oc, vs, t, hoc, hdc, hvc⟩, _, _⟩ := I1.hok c' _ hc
  have rc : codeAny (model X.prog X.w) (X.A.deeper (envOfC qg sg s.heap.objs.size g cdg)) (.call (.ref f) ⟨[], []⟩) (CR (L2N.CX X.prog X.w) (envOfC qg sg s.heap.objs.size g cdg :: X.stack) X.prog X.w HZ s1 Q E) s1 := by
    refine PySem.W.kla_callFunE hr.depth of1 rfl L.co L.gen rfl ⟨c', oc, vs, t, rfl, hoc, hdc, hvc⟩ ?_
    rw [hbind]
    refine wpAny_pure (wpAny_newFunctionEnv (fun y hy => (L.own y hy).2) (fun y hy => absurd hy (by simp)) (fun h₁ hns hsb => ⟨I1.nolimit.fresh _ hsb, ?_⟩) L.kind)
    show codeAny _ _ (.expr body (lamEnv X scope s1.heap.objs.size f c')) _ _
    have kp : ∀ b o, s1.heap.get? b = some o → h₁.get? b = some o := fun b o e => hsb.extBut b o (Nat.ne_of_lt (Heap.lt_size e)) (Heap.get?_push_of_some _ e)
    have J0 : Inv (lamCx X (X.A.deeper (envOfC qg sg s.heap.objs.size g cdg)) (envOfC qg sg s.heap.objs.size g cdg :: X.stack) s1 HZ E scope f c') [] σ HZ { s1 with heap := h₁, toks := s1.toks + ([] : List (Str × Value)).length } :=
      lam_start2 I L I1.env0 hr.hd un hns kp
    have J := J0.wish (lamXe X (X.A.deeper (envOfC qg sg s.heap.objs.size g cdg)) (envOfC qg sg s.heap.objs.size g cdg :: X.stack) s1 HZ E scope f c')
    refine PySem.W.kla_codeExpr (wpAny_mono ((hbody _ _ s1 HZ (hr.deeper _)).run [] _ _ HZ Q J ht) (fun v s' hq => ?_) fun e s' hq => hq)
    obtain ⟨w', H', J', rv, q⟩ := hq
    exact ⟨w', H', J'.os, J'.bare, J'.base, J'.hok, rv, q⟩
  refine wpAny_call (codeAny_mono rc fun r s' hq => ?_)
  cases r with
  | error e => exact tk e s' (L2N.XE.of_call I1 (fun cls d H' h => hW cls d σZ H' I1.len h) hq)
  | ok fl =>
    cases fl with
    | ret u => exact I1.after hq
    | next => exact False.elim hq
    | brk => exact False.elim hq
    | cont => exact False.elim hq
end
/-- the def that calls what it got, in the place a -/
def GivesN (X : Cx) (Ng : List Str) (x : Str) (sg : Scope) (g : Addr) (cdg : Value) (bg : List Stmt) (a : Str) (q : Str) (k : Nat) (TT : (XK → Hp → VK → Prop) → Hp → VK → Prop) : Prop :=
  ∀ (f c' : Addr) (s : Shared) (H : Hp) (Q : VK) (tl : XK → Hp → VK → Prop), Room k (X.A.deeper (envOfC x sg s.heap.objs.size g cdg)) →
    (∀ (W : WX) (pn : List (Addr × Obj)) (xe : Value → Shared → Prop) (E : XK) (p1 p2 : Pos), L2N.Takes ((cxOf C8.CX0 X.prog X.w X.K X.mg X.base Ng x sg g cdg X.A X.stack s H C8.E0).tr pn xe) W → (∀ cls d (σ' : L2.St) H', σ'.length = Ng.length → E cls d H' → W cls d σ' H') →
      PE ((cxOf C8.CX0 X.prog X.w X.K X.mg X.base Ng x sg g cdg X.A X.stack s H C8.E0).tr pn xe) (.Call (.Name a p1) [] [] p2) (fun σZ HZ Q => σZ[0]? = some (some (.ref f)) ∧ HZ c' = some (CodeO c' q) ∧ tl E HZ Q)) →
    H c' = some (CodeO c' q) → TT tl H Q →
    ∃ t, PSs (cxOf C8.CX0 X.prog X.w X.K X.mg X.base Ng x sg g cdg X.A X.stack s H C8.E0).nox bg t ∧ t { nx := fun _ H' => Q .non H', rt := Q } (L2.start Ng [.ref f]) H
section
variable {X : Cx}
/-- x(lambda: body) -/
theorem pe_lamN {T : List (Addr × Str)} {TT : (XK → Hp → VK → Prop) → Hp → VK → Prop} {x a : Str} {g c P : Addr} {k : Nat} {pg : Arguments} {bg : List Stmt} {sg : Scope} {dV kV doc pm cdv ct oc : Value} {an od : Option Addr} {osl : Array (Option Value)} {Ng : List Str}
    {params : Arguments} {body : Expr} {scope : Scope} {t : XK → TE} {p lpos pos : Pos} (hg : Gl X x) (hm : X.mg x = some (.ref g)) (hk : PySem.W.keepIn X.K (.ref g) = true)
    (lk : X.K.lookup g = some ⟨oc, od, .func (PySem.W.fnOf x x pg bg sg dV kV doc pm an cdv ct), osl⟩) (hcg : PySem.W.codeIn X.K cdv x = true) (hb : L2.Binds X.K (PySem.W.fnOf x x pg bg sg dV kV doc pm an cdv ct) [a] []) (Sg : FnScope Ng [a] sg) (hNg : Ng[0]? = some a) (hva : Vis sg a)
    (hG : GivesN X Ng x sg g cdv bg a (X.env.qual ++ "<lambda>") (k + 1) TT)
    (TB : TabB X.base X.mg c P) (hcode : X.env.code = .ref c) (hmT : (P, X.env.qual ++ "<lambda>") ∈ T) (hu : ∀ p ∈ T, p.1 = P → p.2 = X.env.qual ++ "<lambda>") (hr : Room (k + 2) X.A) (L : LamS X.env.scope scope) (hdef : defaultsOf params X.env = ([], []))
    (hbind : ∀ (q : Str) (cl : List (Str × Addr)) (pm cv ctv : Value), bindArgs (PySem.W.kla_fn "<lambda>" q params body scope cl pm cv ctv) ⟨[], []⟩ = pure [])
    (hbody : ∀ (A : Around) (outer : List Env) (s : Shared) (H : Hp) (E : XK) (f c' : Addr), Room k (A.deeper (lamEnv X scope s.heap.objs.size f c')) → PE (lamCxN X A outer s H E scope f c') body (t E))
    (hdb : (x == ("__debug__" : Str)) = false := by decide) (hd : (a == ("__debug__" : Str)) = false := by decide) (hcd : (a == ("__classdict__" : Str)) = false := by decide) :
    PE X (.Call (.Name x p) [.Lambda params body scope lpos] [] pos) (tLam T TT t) := by
  refine ⟨fun pins s σ H Q I ⟨hT, h⟩ => ?_⟩
  refine wpAny_Call_Name_kw (ld_glob I hg hm ?_ hdb)
  refine PySem.W.callWith_K (h₀ := X.base) I.ok.mod.kin hk ?_ (by rfl) (by rfl)
  show wpAny _ _ (spliced ((false, eval (.Lambda params body scope lpos) X.env) :: backTo pos (starEach [] X.env))) _ _ s
  refine Calls.spliced_cons (lam_make2 I TB hcode hmT hu hT hdef (L.has I.ok) fun f c' pm' ctv H1 s' I1 eN T1 hf hfn hfr hco => ?_)
  refine Calls.spliced_nil ⟨I1.kIn, ?_⟩
  have rc : codeAny (model X.prog X.w) X.A (.call (.ref g) ⟨[.ref f], []⟩) (CR C8.CX0 X.stack X.prog X.w H1 s' Q C8.E0) s' := by
    refine run_ofS (N := Ng) (ps := [a]) (us := [.ref f]) (vs := [.ref f]) lk hcg Sg hr I1.env0 (hb s' [.ref f] I1.kIn rfl) (.cons rfl .nil) rfl fun hr' => ?_
    obtain ⟨t', ht', hq'⟩ := hG f c' s' H1 Q (fun E H' Q' => t E σ H' Q') hr' (fun W pn xe E p1 p2 tk hW => pe_actN (i := 0) I1 L hf hfn hfr (hbind _ _ _ _ _) tk hW hr' (fun A outer s H hr2 => hbody A outer s H E f c' hr2) hNg hva hd hcd) hco (h H1 eN T1)
    exact ⟨t', ht'.nox, hq'⟩
  refine wpAny_call (codeAny_mono rc fun r s2 hq => ?_)
  cases r with
  | error e => exact (show False from hq).elim
  | ok fl =>
    cases fl with
    | ret u => exact I1.after hq
    | next => exact False.elim hq
    | brk => exact False.elim hq
    | cont => exact False.elim hq
end
end Lk
set_option Elab.async false
set_option linter.all false
set_option maxRecDepth 100000
set_option maxHeartbeats 4000000
/-! {k: v, ..} with keys that are tuples -/
namespace Lk
open PySem PySem.Spec PyProof.Rows L2 HotX L2H LamX
def mergeT (kvs more : List (List Key × V)) : List (List Key × V) := more.foldl (fun acc kv => putK acc kv.1 kv.2) kvs
/-- the pairs that were made, as keys and values -/
abbrev TupKeys (H : Hp) (ps : List (V × V)) (kvs : List (List Key × V)) : Prop := Paired (fun (x : V × V) (kv : List Key × V) => (∃ a, x.1 = .ref a ∧ H a = some (.tup (kv.1.map kV))) ∧ x.2 = kv.2) ps kvs
def tDispT (trs : List (TE × TE)) : TE := fun σ H Q => ∀ p, H p = none → tPairs trs σ (upd H p (.dT [])) fun ps H2 => H2 p = some (.dT []) ∧ ∃ kvs : List (List Key × V), TupKeys H2 ps kvs ∧ kvs.length ≤ 15 ∧ Q (.ref p) (upd H2 p (.dT (mergeT [] kvs)))
section
variable {P : Program} {w : World}
theorem carriesT {H : Hp} {h : Heap} (ok : HOk P w H h) : ∀ {ps : List (V × V)} {kvs : List (List Key × V)} {ws : List (Value × Value)}, TupKeys H ps kvs → VV ps ws →
    ∃ rs, CarriesH (tupleKind (mixKind P w)) h ws rs ∧ KT H kvs rs
  | _, _, _, .nil, .nil => ⟨[], True.intro, .nil⟩
  | _, _, _, .cons (b := kv) ⟨⟨a, e1, e2⟩, e3⟩ t, .cons (b := ww) ⟨r1, r2⟩ u => by
    obtain ⟨rs, c, q⟩ := carriesT ok t u
    rw [e1] at r1
    obtain ⟨w1, w2⟩ := ww
    cases (show w1 = Value.ref a from r1)
    exact ⟨(kv.1, a, w2) :: rs, ⟨rfl, rfl, key_of ok e2, c⟩, .cons ⟨rfl, e2, by rw [← e3]; exact r2⟩ q⟩
theorem kt_merge {H : Hp} : ∀ {more : List (List Key × V)} {rs : List (List Key × Addr × Value)} {kvs : List (List Key × V)} {xs : List (List Key × Addr × Value)}, KT H more rs → KT H kvs xs → KT H (mergeT kvs more) (storedAllH xs rs)
  | _, _, _, _, .nil, q => q
  | _, _, kvs, xs, .cons (a := kv) (b := r) ⟨e1, e2, e3⟩ t, q => by
    have q2 := q.put kv.1 (b := r.2.1) (y := kv.2) (u := r.2.2) e2 e3
    have z := kt_merge t q2
    obtain ⟨r1, r2, r3⟩ := r
    have e1' : kv.1 = r1 := e1
    subst e1'
    exact z
theorem length_mergeT : ∀ (more kvs : List (List Key × V)), (mergeT kvs more).length ≤ kvs.length + more.length
  | [], kvs => by show kvs.length ≤ kvs.length + 0; omega
  | p :: r, kvs => by
    have h1 := length_mergeT r (putK kvs p.1 p.2)
    have h2 := length_putK kvs p.1 p.2
    show (mergeT (putK kvs p.1 p.2) r).length ≤ _
    rw [List.length_cons]; omega
end
theorem pe_dispT {X : Cx} {pos : Pos} {keys : List (Option Expr)} {values : List Expr} {trs : List (TE × TE)} (hu : X.A.units + 1 < cLine) (h : PPs X pos keys values trs) (hall : keys.all (·.isSome) = true) (hl : keys.length = values.length) (h0 : keys ≠ [])
    (h15 : keys.length ≤ 15) : PE X (.Dict keys values pos) (tDispT trs) := by
  refine ⟨fun pins s σ H Q I q => ?_⟩
  have hn := I.hok.fresh (Nat.le_refl s.heap.objs.size)
  have I1 := I.laid (a := s.heap.objs.size) (o := .dT []) (h' := s.heap.push { cls := .type "dict", data := .dict #[] }) (t' := s.toks) (fun _ _ q => Heap.get?_push_of_some _ q) (Nat.le_refl _) (dt_empty s.heap I.big)
  have hpl := pairTrees_length keys values X.env pos hall hl
  have hp0 : pairTrees keys values X.env pos ≠ [] := fun z => by
    rw [z] at hpl
    exact h0 (List.length_eq_zero_iff.mp hpl.symm)
  rw [arm_eval_Dict, zip_pairTrees keys values X.env pos hall hl, dictDisplay_pairs _ hp0 (by omega)]
  refine wpAny_bind (wpAny_standAt (wpAny_bind (wpAny_subDictH (knd := tupleKind (mixKind X.prog X.w)) (show X.A.units < cLine by omega) (by omega)
    (thn (h.run pins _ σ _ _ I1 (q _ hn)) fun ws s2 ⟨ps, H2, I2, rel, e, kvs, tk, lk, q2⟩ => ?_))))
  obtain ⟨rs, c, rk⟩ := carriesT I2.hok tk rel
  obtain ⟨z, hd, xs0, r0, dd⟩ := dt_of I2.hok e
  cases r0
  refine ⟨rs, c, dd, fun h' tk' dd' hs => wpAny_pure ⟨.ref s.heap.objs.size, _, ?_, rfl, q2⟩⟩
  have hz : (mergeT [] kvs).length ≤ sizeLine := by
    have h1 := length_mergeT kvs []
    rw [List.length_nil] at h1
    rw [sizeLine_eq]; omega
  obtain ⟨oq, es, ep, hq, h2, h3, h4, _, h5⟩ := dd'
  refine d_write I2 (by rw [e]; exact True.intro) hs ⟨oq, hq⟩ ⟨hz, hd, _, (kt_merge rk .nil).keeps fun c ys ec => ?_, oq, es, ep, hq, h2, h3, h4, h5⟩
  rw [upd_ne (ne_of ec e (fun z => nomatch z))]
  exact ec
end Lk
set_option Elab.async false
set_option linter.all false
set_option maxRecDepth 100000
set_option maxHeartbeats 4000000
/-! Data of any depth: what a value stands for. -/
namespace Lk
open PySem PySem.Spec PyProof.Rows L2 HotX L2H LamX
def kD : Key → PyData
  | .inl i => .int i
  | .inr x => .str x
mutual
inductive R (H : Hp) : V → PyData → Prop
  | non : R H .non .none
  | bl (b : Bool) : R H (.bl b) (.bool b)
  | int (i : Int) : R H (.int i) (.int i)
  | str (x : Str) (h : x.length ≤ 100000) : R H (.str x) (.str x)
  | lst {a : Addr} {xs : List V} {ds : List PyData} : H a = some (.lst xs) → Rs H xs ds → R H (.ref a) (.list ds)
  | tup {a : Addr} {xs : List V} {ds : List PyData} : H a = some (.tup xs) → Rs H xs ds → R H (.ref a) (.tuple ds)
  | dT {a : Addr} {kvs : List (List Key × V)} {ds : List (PyData × PyData)} : H a = some (.dT kvs) → ((∀ kv ∈ kvs, ∀ x, Sum.inr x ∈ kv.1 → x.length ≤ 100000) ∧ (kvs.map Prod.fst).Nodup) → ds.map Prod.fst = kvs.map (fun kv => PyData.tuple (kv.1.map kD)) → Rs H (kvs.map Prod.snd) (ds.map Prod.snd) → R H (.ref a) (.dict ds)
  | dK {a : Addr} {kvs : List (Key × V)} {ds : List (PyData × PyData)} : H a = some (.dK kvs) → ((∀ kv ∈ kvs, ∀ x, kv.1 = Sum.inr x → x.length ≤ 100000) ∧ (kvs.map Prod.fst).Nodup) → ds.map Prod.fst = kvs.map (fun kv => kD kv.1) → Rs H (kvs.map Prod.snd) (ds.map Prod.snd) → R H (.ref a) (.dict ds)
inductive Rs (H : Hp) : List V → List PyData → Prop
  | nil : Rs H [] []
  | cons {v : V} {vs : List V} {d : PyData} {ds : List PyData} : R H v d → Rs H vs ds → Rs H (v :: vs) (d :: ds)
end
mutual
theorem R.ext {H H' : Hp} (e : ExtN H H') : ∀ {v : V} {d : PyData}, R H v d → R H' v d
  | _, _, .non => .non
  | _, _, .bl b => .bl b
  | _, _, .int i => .int i
  | _, _, .str x h => .str x h
  | _, _, .lst h r => .lst (e _ _ h (fun _ z => nomatch z)) (Rs.ext e r)
  | _, _, .tup h r => .tup (e _ _ h (fun _ z => nomatch z)) (Rs.ext e r)
  | _, _, .dT h kb k r => .dT (e _ _ h (fun _ z => nomatch z)) kb k (Rs.ext e r)
  | _, _, .dK h kb k r => .dK (e _ _ h (fun _ z => nomatch z)) kb k (Rs.ext e r)
theorem Rs.ext {H H' : Hp} (e : ExtN H H') : ∀ {vs : List V} {ds : List PyData}, Rs H vs ds → Rs H' vs ds
  | _, _, .nil => .nil
  | _, _, .cons r t => .cons (R.ext e r) (Rs.ext e t)
end
theorem pairs_eq {α β : Type} : ∀ {a b : List (α × β)}, a.map Prod.fst = b.map Prod.fst → a.map Prod.snd = b.map Prod.snd → a = b
  | [], [], _, _ => rfl
  | [], _ :: _, h, _ => by simp at h
  | _ :: _, [], h, _ => by simp at h
  | (x, y) :: a, (u, v) :: b, h, k => by
    simp only [List.map_cons, List.cons.injEq] at h k
    rw [h.1, k.1, pairs_eq h.2 k.2]
mutual
theorem R.uniq {H : Hp} : ∀ {v : V} {d e : PyData}, R H v d → R H v e → d = e
  | _, _, _, .non, .non => rfl
  | _, _, _, .bl _, .bl _ => rfl
  | _, _, _, .int _, .int _ => rfl
  | _, _, _, .str _ _, .str _ _ => rfl
  | _, _, _, .lst h r, .lst h' r' => by rw [h] at h'; cases h'; rw [Rs.uniq r r']
  | _, _, _, .tup h r, .tup h' r' => by rw [h] at h'; cases h'; rw [Rs.uniq r r']
  | _, _, _, .dT h _ k r, .dT h' _ k' r' => by rw [h] at h'; cases h'; rw [pairs_eq (k.trans k'.symm) (Rs.uniq r r')]
  | _, _, _, .dK h _ k r, .dK h' _ k' r' => by rw [h] at h'; cases h'; rw [pairs_eq (k.trans k'.symm) (Rs.uniq r r')]
  | _, _, _, .lst h _, .tup h' _ => by rw [h] at h'; cases h'
  | _, _, _, .lst h _, .dT h' _ _ _ => by rw [h] at h'; cases h'
  | _, _, _, .lst h _, .dK h' _ _ _ => by rw [h] at h'; cases h'
  | _, _, _, .tup h _, .lst h' _ => by rw [h] at h'; cases h'
  | _, _, _, .tup h _, .dT h' _ _ _ => by rw [h] at h'; cases h'
  | _, _, _, .tup h _, .dK h' _ _ _ => by rw [h] at h'; cases h'
  | _, _, _, .dT h _ _ _, .lst h' _ => by rw [h] at h'; cases h'
  | _, _, _, .dT h _ _ _, .tup h' _ => by rw [h] at h'; cases h'
  | _, _, _, .dT h _ _ _, .dK h' _ _ _ => by rw [h] at h'; cases h'
  | _, _, _, .dK h _ _ _, .lst h' _ => by rw [h] at h'; cases h'
  | _, _, _, .dK h _ _ _, .tup h' _ => by rw [h] at h'; cases h'
  | _, _, _, .dK h _ _ _, .dT h' _ _ _ => by rw [h] at h'; cases h'
theorem Rs.uniq {H : Hp} : ∀ {vs : List V} {ds es : List PyData}, Rs H vs ds → Rs H vs es → ds = es
  | _, _, _, .nil, .nil => rfl
  | _, _, _, .cons r t, .cons r' t' => by rw [R.uniq r r', Rs.uniq t t']
end
theorem size_snd : ∀ ds : List (PyData × PyData), sizeOf (ds.map Prod.snd) ≤ sizeOf ds
  | [] => by simp
  | (a, b) :: ds => by
    have h := size_snd ds
    simp only [List.map_cons, List.cons.sizeOf_spec, Prod.mk.sizeOf_spec]
    omega
/- what is smaller than the data at a does not hold a: the object at a may change -/
mutual
theorem R.but {H : Hp} {a : Addr} {D : PyData} {o : HO} (ha : R H (.ref a) D) : ∀ {v : V} {x : PyData}, R H v x → sizeOf x < sizeOf D → R (upd H a o) v x
  | _, _, .non, _ => .non
  | _, _, .bl b, _ => .bl b
  | _, _, .int i, _ => .int i
  | _, _, .str x h, _ => .str x h
  | _, _, .lst (a := b) h r, z => by
    have nb : b ≠ a := fun e => by
      subst e
      rw [← (R.uniq (.lst h r) ha)] at z
      exact Nat.lt_irrefl _ z
    exact .lst (by rw [upd_ne nb]; exact h) (Rs.but ha r (Nat.lt_of_lt_of_le (by simp only [PyData.list.sizeOf_spec]; omega) (Nat.le_of_lt z)))
  | _, _, .tup (a := b) h r, z => by
    have nb : b ≠ a := fun e => by
      subst e
      rw [← (R.uniq (.tup h r) ha)] at z
      exact Nat.lt_irrefl _ z
    exact .tup (by rw [upd_ne nb]; exact h) (Rs.but ha r (Nat.lt_of_lt_of_le (by simp only [PyData.tuple.sizeOf_spec]; omega) (Nat.le_of_lt z)))
  | _, _, .dT (a := b) (ds := ds) h kb k r, z => by
    have nb : b ≠ a := fun e => by
      subst e
      rw [← (R.uniq (.dT h kb k r) ha)] at z
      exact Nat.lt_irrefl _ z
    have hz := size_snd ds
    exact .dT (by rw [upd_ne nb]; exact h) kb k (Rs.but ha r (Nat.lt_of_lt_of_le (by simp only [PyData.dict.sizeOf_spec]; omega) (Nat.le_of_lt z)))
  | _, _, .dK (a := b) (ds := ds) h kb k r, z => by
    have nb : b ≠ a := fun e => by
      subst e
      rw [← (R.uniq (.dK h kb k r) ha)] at z
      exact Nat.lt_irrefl _ z
    have hz := size_snd ds
    exact .dK (by rw [upd_ne nb]; exact h) kb k (Rs.but ha r (Nat.lt_of_lt_of_le (by simp only [PyData.dict.sizeOf_spec]; omega) (Nat.le_of_lt z)))
theorem Rs.but {H : Hp} {a : Addr} {D : PyData} {o : HO} (ha : R H (.ref a) D) : ∀ {vs : List V} {ds : List PyData}, Rs H vs ds → sizeOf ds < sizeOf D → Rs (upd H a o) vs ds
  | _, _, .nil, _ => .nil
  | _, _, .cons r t, z => .cons (R.but ha r (Nat.lt_trans (by simp only [List.cons.sizeOf_spec]; omega) z)) (Rs.but ha t (Nat.lt_trans (by simp only [List.cons.sizeOf_spec]; omega) z))
end
theorem R.same {H H' : Hp} (e : Same H H') {v : V} {d : PyData} (r : R H v d) : R H' v d := r.ext fun b o h _ => e b o h
theorem Rs.same {H H' : Hp} (e : Same H H') {vs : List V} {ds : List PyData} (r : Rs H vs ds) : Rs H' vs ds := r.ext fun b o h _ => e b o h
theorem Rs.length {H : Hp} : ∀ {vs : List V} {ds : List PyData}, Rs H vs ds → vs.length = ds.length
  | _, _, .nil => rfl
  | _, _, .cons _ t => by rw [List.length_cons, List.length_cons, Rs.length t]
theorem Rs.get {H : Hp} : ∀ {vs : List V} {ds : List PyData} {i : Nat} {d : PyData}, Rs H vs ds → ds[i]? = some d → ∃ v, vs[i]? = some v ∧ R H v d
  | _, _, _, _, .nil, e => by simp at e
  | _, _, 0, _, .cons r _, e => by simp at e; subst e; exact ⟨_, rfl, r⟩
  | _, _, i + 1, d, .cons _ t, e => by
    obtain ⟨v, h1, h2⟩ := Rs.get (i := i) (d := d) t (by simpa using e)
    exact ⟨v, by simpa using h1, h2⟩
theorem Rs.get' {H : Hp} : ∀ {vs : List V} {ds : List PyData} {i : Nat} {v : V}, Rs H vs ds → vs[i]? = some v → ∃ d, ds[i]? = some d ∧ R H v d
  | _, _, _, _, .nil, e => by simp at e
  | _, _, 0, _, .cons r _, e => by simp at e; subst e; exact ⟨_, rfl, r⟩
  | _, _, i + 1, d, .cons _ t, e => by
    obtain ⟨v, h1, h2⟩ := Rs.get' (i := i) (v := d) t (by simpa using e)
    exact ⟨v, by simpa using h1, h2⟩
theorem Rs.append {H : Hp} : ∀ {vs : List V} {ds : List PyData} {ws : List V} {es : List PyData}, Rs H vs ds → Rs H ws es → Rs H (vs ++ ws) (ds ++ es)
  | _, _, _, _, .nil, s => s
  | _, _, _, _, .cons r t, s => .cons r (Rs.append t s)
/-- the kind of a thing, as isinstance asks it -/
def tyD : PyData → String
  | .none => "NoneType"
  | .bool _ => "bool"
  | .int _ => "int"
  | .str _ => "str"
  | .list _ => "list"
  | .tuple _ => "tuple"
  | .dict _ => "dict"
end Lk
set_option Elab.async false
set_option linter.all false
set_option maxRecDepth 100000
set_option maxHeartbeats 4000000
namespace Lk
open PySem PySem.Spec PyProof.Rows L2 HotX L2H LamX
section
variable {X : Cx} {pins : List (Addr × Obj)} {σ : L2.St} {H : Hp} {s : Shared}
theorem kitR {x : V} {u : Value} {d : PyData} (I : Inv X pins σ H s) (rx : RelV x u) (r : R H x d) : ∃ P : Heap → Prop, PySem.W.KitX X.K u (.type (tyD d)) P ∧ P s.heap ∧ u ≠ .builtin "__main__.__loader__#opaque" := by
  cases r with
  | non => exact kit_of I rx (.base .non)
  | bl b => exact kit_of I rx (.base (.bl b))
  | int i => exact kit_of I rx (.base (.int i))
  | str z _ => exact kit_of I rx (.base (.str z))
  | lst h _ => exact kit_of I rx (.base (.lst h))
  | tup h _ => exact kit_of I rx (.base (.tup h))
  | dT h _ _ _ => exact kit_of I rx (.base (.dT h))
  | dK h _ _ _ => exact kit_of I rx (.base (.dK h))
/-- isinstance(x, T): x any data, T a built-in class by its name -/
def rIsD (T : String) : List V → Hp → VK → Prop := fun xs H Q => ∃ (x : V) (d : PyData) (b : Bool), xs = [x, .ty T] ∧ R H x d ∧ kitB (tyD d) T = some b ∧ Q (.bl b) H
theorem call_isD {T : String} : CallR X (.builtin "isinstance") (rIsD T) := by
  intro pins s σ H xs us Q I r h
  obtain ⟨x, d, b, rfl, rd, e, q⟩ := h
  obtain ⟨u1, u2, rfl, r1, r2⟩ := vals2 r
  cases (show u2 = Value.type T from r2)
  obtain ⟨P, Z, p, hx⟩ := kitR I r1 rd
  exact PySem.W.kia_one Z I.kIn p (kit_ty e) hx fun tk => ⟨.bl b, H, I.tok tk, rfl, q⟩
end
/-! ### calls by promise -/
/-- the def of the name x keeps the promise sp, by level k -/
structure Df (P : Program) (w : World) (K : PySem.W.Frag) (mg : Str → Option Value) (base : Heap) (x : Str) (k : Nat) (ps : List Str) (sp : Sp) : Prop where
  ex : ∃ (f : Addr) (fd : FuncData), mg x = some (.ref f) ∧ PySem.W.keepIn K (.ref f) = true ∧ Binds K fd ps [] ∧ FnOk P w K mg base (L2N.CX P w) k f fd ps sp
theorem passN {X : Cx} : Passes (L2N.CX X.prog X.w) X L2.E0 := fun _ _ _ _ _ _ _ h => by
  obtain ⟨_, _, _, _, _, _, _, _, _, _, _, _, z⟩ := h
  exact z.elim
theorem taken {X : Cx} {W : WX} {E : XK} (tk : L2N.Takes X W) (hW : ∀ cls d σ H, E cls d H → W cls d σ H) : Passes (L2N.CX X.prog X.w) X E := L2N.passes_call tk hW
section
variable {X : Cx} {k j : Nat} {x : Str} {ps : List Str} {sp : Sp} {E : XK} {p pos : Pos} {e : Expr} {es : List Expr} {t : TA}
theorem pe_df (F : Df X.prog X.w X.K X.mg X.base x k ps sp) (hr : Room j X.A) (hk : k ≤ j) (hg : Gl X x) (hx : Passes (L2N.CX X.prog X.w) X E) (ha : PA X (e :: es) t)
    (hdb : (x == ("__debug__" : Str)) = false := by decide) (he : starEach (e :: es) X.env = (false, eval e X.env) :: starEach es X.env := by rfl) (hpl : (backTo pos (starEach es X.env)).any (·.1) = false := by rfl) :
    PE X (.Call (.Name x p) (e :: es) [] pos) (tCall sp [] E t) := by
  obtain ⟨f, fd, hm, hkp, hb, F⟩ := F.ex
  exact pe_call F (hr.mono hk) hg hm hkp hb .nil hx ha hdb he hpl
theorem pe_df0 (F : Df X.prog X.w X.K X.mg X.base x k ps sp) (hr : Room j X.A) (hk : k ≤ j) (hg : Gl X x) (hx : Passes (L2N.CX X.prog X.w) X E)
    (hdb : (x == ("__debug__" : Str)) = false := by decide) :
    PE X (.Call (.Name x p) [] [] pos) (tCall sp [] E tNil) := by
  obtain ⟨f, fd, hm, hkp, hb, F⟩ := F.ex
  exact pe_call0 F (hr.mono hk) hg hm hkp hb .nil hx hdb
end
/-- a def of the text, by its body -/
theorem df_of {P : Program} {w : World} {K : PySem.W.Frag} {mg : Str → Option Value} {base : Heap} {x qual : Str} {st : Stmt} {f : Addr} {fd : FuncData} {N ps : List Str} {k : Nat} {sp : Sp} (F : L2.Fun K x qual st f fd) (hm : mg x = some (.ref f)) (hb : Binds K fd ps [])
    (S : FnScope N ps (defScope st)) (len : ∀ vs H Q E, sp vs H Q E → vs.length = ps.length)
    (hbody : ∀ (cdv : Value) (A : Around) (outer : List Env) (s : Shared) (H : Hp) (vs : List V) (Q : VK) (E : XK), Room k (A.deeper (envOfC qual (defScope st) s.heap.objs.size f cdv)) → sp vs H Q E →
      ∃ t, PSs (cxOf (L2N.CX P w) P w K mg base N qual (defScope st) f cdv A outer s H E) (defBody st) t ∧ t { nx := fun _ H' => Q .non H', rt := Q } (start N vs) H) : Df P w K mg base x (k + 1) ps sp :=
  ⟨f, fd, hm, F.kp, hb, okN F S len hbody⟩
end Lk
set_option Elab.async false
set_option linter.all false
set_option maxRecDepth 100000
set_option maxHeartbeats 4000000
/-! What an expression comes to, as data. -/
namespace Lk
open PySem PySem.Spec PyProof.Rows L2 HotX L2H LamX
open Evl (Ev EvL EvA EvT Ex)
abbrev St := L2.St
theorem exN {H H' : Hp} (e : Ex H H') : ExtN H H' := fun b o h _ => e b o h
def EvD (te : TE) (σ : St) (H : Hp) (d : PyData) : Prop := ∀ H1, Ex H H1 → ∀ Q : VK, (∀ v H2, Ex H1 H2 → R H2 v d → Q v H2) → te σ H1 Q
def EvDs (ta : TA) (σ : St) (H : Hp) (ds : List PyData) : Prop := ∀ H1, Ex H H1 → ∀ Q : List V → Hp → Prop, (∀ vs H2, Ex H1 H2 → Rs H2 vs ds → Q vs H2) → ta σ H1 Q
section
variable {K : PySem.W.Frag} {σ : St} {H H' : Hp} {ta tb te : TE} {tr : TA} {d e : PyData} {ds : List PyData} {v : V} {b c : Bool} {i j : Int}
theorem EvD.mono (e : Ex H H') (h : EvD te σ H d) : EvD te σ H' d := fun H1 a Q q => h H1 (e.trans a) Q q
theorem EvDs.mono (e : Ex H H') (h : EvDs tr σ H ds) : EvDs tr σ H' ds := fun H1 a Q q => h H1 (e.trans a) Q q
theorem EvD.of (h : Ev te σ H v) (r : R H v d) : EvD te σ H d := fun H1 e Q q => h H1 e Q fun H2 e2 => q v H2 e2 (r.ext (exN (e.trans e2)))
theorem EvD.ofU {xs : List V} (h : Evl.EvU te σ H xs) (r : Rs H xs ds) : EvD te σ H (.tuple ds) := fun H1 e Q q => h H1 e Q fun p H2 _ e2 hp => q (.ref p) H2 e2 (.tup hp (r.ext (exN (e.trans e2))))
theorem EvD.ofL {xs : List V} (h : EvL te σ H xs) (r : Rs H xs ds) : EvD te σ H (.list ds) := fun H1 e Q q => h H1 e Q fun p H2 _ e2 hp => q (.ref p) H2 e2 (.lst hp (r.ext (exN (e.trans e2))))
theorem EvD.vb (h : EvD te σ H (.bool b)) : Ev te σ H (.bl b) := fun H1 e Q q => h H1 e Q fun v H2 e2 r => by cases r; exact q H2 e2
theorem EvD.ti (h : EvD te σ H (.int i)) : Ev te σ H (.int i) := fun H1 e Q q => h H1 e Q fun v H2 e2 r => by cases r; exact q H2 e2
theorem EvD.tn (h : EvD te σ H .none) : Ev te σ H .non := fun H1 e Q q => h H1 e Q fun v H2 e2 r => by cases r; exact q H2 e2
theorem EvD.ts {x : Str} (h : EvD te σ H (.str x)) : Ev te σ H (.str x) := fun H1 e Q q => h H1 e Q fun v H2 e2 r => by cases r; exact q H2 e2
theorem Ev.db (h : Ev te σ H (.bl b)) : EvD te σ H (.bool b) := EvD.of h (.bl b)
theorem Ev.di (h : Ev te σ H (.int i)) : EvD te σ H (.int i) := EvD.of h (.int i)
theorem ed_var {k : Nat} (h : σ[k]? = some (some v)) (r : R H v d) : EvD (tVar k) σ H d := EvD.of (Evl.ev_var h) r
theorem ed_c (r : R H v d) : EvD (tC v) σ H d := EvD.of Evl.ev_c r
theorem eds_nil : EvDs tNil σ H [] := fun H1 _ _ q => q [] H1 (Ex.refl H1) .nil
theorem eds_cons (h : EvD ta σ H d) (hr : EvDs tr σ H ds) : EvDs (tCons ta tr) σ H (d :: ds) := fun H1 e _ q =>
  h H1 e _ fun v H2 e2 r => hr H2 (e.trans e2) _ fun vs H3 e3 rs => q (v :: vs) H3 (e2.trans e3) (.cons (r.ext (exN e3)) rs)
theorem ed_tup (h : EvDs tr σ H ds) (hl : ds.length ≤ 100000) : EvD (tTup tr) σ H (.tuple ds) := fun H1 e _ q =>
  h H1 e _ fun vs H2 e2 rs => ⟨Evl.sz_of (by rw [rs.length]; exact hl), fun p hp => q (.ref p) _ (e2.trans (Ex.new hp)) (.tup upd_same (rs.ext (exN (Ex.new hp))))⟩
theorem ed_lst (h : EvDs tr σ H ds) (hl : ds.length ≤ 100000) : EvD (tLst tr) σ H (.list ds) := fun H1 e _ q =>
  h H1 e _ fun vs H2 e2 rs => ⟨Evl.sz_of (by rw [rs.length]; exact hl), fun p hp => q (.ref p) _ (e2.trans (Ex.new hp)) (.lst upd_same (rs.ext (exN (Ex.new hp))))⟩
/-- isinstance(x, T) -/
theorem ed_isi {T : String} (h : EvD ta σ H d) (hb : kitB (tyD d) T = some b) : EvD (tCB (rIsD T) (tCons ta (tCons (tC (.ty T)) tNil))) σ H (.bool b) := fun H1 e Q q =>
  h H1 e _ fun v H2 e2 r => ⟨v, d, b, rfl, r, hb, q _ H2 e2 (.bl b)⟩
theorem ed_and (h1 : EvD ta σ H (.bool b)) (h2 : b = true → EvD tb σ H (.bool c)) : EvD (tAndV ta tb) σ H (.bool (b && c)) := Ev.db (Evl.ev_andV h1.vb fun z => (h2 z).vb)
theorem ed_or (h1 : EvD ta σ H (.bool b)) (h2 : b = false → EvD tb σ H (.bool c)) : EvD (tOrV ta tb) σ H (.bool (b || c)) := Ev.db (Evl.ev_orV h1.vb fun z => (h2 z).vb)
theorem ed_not (h : EvD ta σ H (.bool b)) : EvD (tNotV ta) σ H (.bool (!b)) := Ev.db (Evl.ev_notV h.vb)
theorem ed_is (h : EvD te σ H d) (z : d = e) : EvD te σ H e := z ▸ h
/-- two ints -/
theorem ed_I0 {g : Int → Int → V} (h1 : EvD ta σ H (.int i)) (h2 : EvD tb σ H (.int j)) (r : R H (g i j) d) : EvD (tOp (rI0 g) ta tb) σ H d := EvD.of (Evl.ev_op h1.ti h2.ti Evl.rv_I0) r
theorem ed_I {C : Int → Int → Prop} {g : Int → Int → V} (h1 : EvD ta σ H (.int i)) (h2 : EvD tb σ H (.int j)) (hc : C i j) (r : R H (g i j) d) : EvD (tOp (rI C g) ta tb) σ H d := EvD.of (Evl.ev_op h1.ti h2.ti (Evl.rv_I hc)) r
/-- a <= b <= c of ints and the like -/
theorem ed_chain {f g : Int → Int → Bool} {tc : TE} {k : Int} (h1 : EvD ta σ H (.int i)) (h2 : EvD tb σ H (.int j)) (h3 : EvD tc σ H (.int k)) :
    EvD (tChain (rI0 fun a b => V.bl (f a b)) (rI0 fun a b => V.bl (g a b)) ta tb tc) σ H (.bool (f i j && g j k)) := fun H1 e Q q =>
  h1.ti H1 e _ fun H2 e2 => h2.ti H2 (e.trans e2) _ fun H3 e3 => ⟨i, j, rfl, rfl, f i j, rfl, by
    cases hf : f i j with
    | true =>
      show tc σ H3 _
      refine h3.ti H3 ((e.trans e2).trans e3) _ fun H4 e4 => ⟨j, k, rfl, rfl, ?_⟩
      exact q _ H4 ((e2.trans e3).trans e4) (by rw [hf, Bool.true_and]; exact .bl _)
    | false =>
      show Q (.bl false) H3
      exact q _ H3 (e2.trans e3) (by rw [hf, Bool.false_and]; exact .bl _)⟩
theorem ed_lenS {x : Str} (h : EvD ta σ H (.str x)) : EvD (tCB (fun xs H Q => ∃ z, xs = [V.str z] ∧ z.length ≤ sizeLine ∧ Q (V.int z.length) H) (tCons ta tNil)) σ H (.int x.length) := fun H1 e Q q =>
  h H1 e _ fun v H2 e2 r => by
    cases r with
    | str _ hz => exact ⟨x, rfl, Evl.sz_of hz, q _ H2 e2 (.int _)⟩
/-- len of a list or tuple -/
theorem ed_lenQ (h : EvD ta σ H d) (hd : d = .tuple ds ∨ d = .list ds) : EvD (tCB (Evl.rLenS K) (tCons ta tNil)) σ H (.int ds.length) := fun H1 e Q q =>
  h H1 e _ fun v H2 e2 r => by
    rcases hd with rfl | rfl
    · cases r with
      | tup hp rs => exact ⟨_, _, rfl, .inr (.inl (.inl hp)), by rw [rs.length]; exact q _ H2 e2 (.int _)⟩
    · cases r with
      | lst hp rs => exact ⟨_, _, rfl, .inl (.inl (.inl hp)), by rw [rs.length]; exact q _ H2 e2 (.int _)⟩
/-- t[i] of a tuple, i written -/
theorem ed_ixT {k : Nat} (h : EvD ta σ H (.tuple ds)) (h2 : EvD tb σ H (.int k)) (hk : ds[k]? = some d) : EvD (tOp (rIxT K) ta tb) σ H d := fun H1 e Q q =>
  h H1 e _ fun v H2 e2 r => h2.ti H2 (e.trans e2) _ fun H3 e3 => by
    cases r with
    | tup hp rs =>
      obtain ⟨w, hw, rw'⟩ := rs.get hk
      exact ⟨_, _, _, w, rfl, rfl, .inl (.inl (e3 _ _ hp)), atI_nat hw, q w H3 (e2.trans e3) (rw'.ext (exN e3))⟩
theorem ed_ixL {k : Nat} (h : EvD ta σ H (.list ds)) (h2 : EvD tb σ H (.int k)) (hk : ds[k]? = some d) : EvD (tOp (rIxL K) ta tb) σ H d := fun H1 e Q q =>
  h H1 e _ fun v H2 e2 r => h2.ti H2 (e.trans e2) _ fun H3 e3 => by
    cases r with
    | lst hp rs =>
      obtain ⟨w, hw, rw'⟩ := rs.get hk
      exact ⟨_, _, _, w, rfl, rfl, .inl (.inl (e3 _ _ hp)), atI_nat hw, q w H3 (e2.trans e3) (rw'.ext (exN e3))⟩
/-! ### [e for x in ..], no test -/
theorem given_all (ws : List V) : Evl.given ws.length (fun _ => true) (fun i => ws.getD i .non) = ws := by
  unfold Evl.given
  rw [List.filter_eq_self.mpr (by simp)]
  apply List.ext_getElem
  · simp
  · intro i h1 h2
    simp [List.getElem?_eq_getElem h2]
theorem yes_t {σ : St} {H : Hp} : EvT tYes σ H true := fun H1 _ _ q => q H1 (Ex.refl H1)
/-- the comprehension's own loop, over a walk that gives I i x -/
theorem lc_w {J : It} {n : Nat} {G : Hp → Prop} {I : Nat → V → Prop} {jx : Nat} {vs : List Nat} {D : Addr} {Q : VK} (wk : Walk J n G (fun i H x H' => H' = H ∧ I i x)) (hG : ∀ H', Ex H H' → G H') (ws : List V) (hn : ws.length = n) (hz : n ≤ 40000)
    (hw : ∀ x, wipe ((wipe σ vs).set jx (some x)) vs = wipe σ vs) (he : ∀ i x, i < n → I i x → Ev te ((wipe σ vs).set jx (some x)) H (ws.getD i .non)) (hD : H D = none) (q : ∀ H2, Ex H H2 → H2 D = some (.lst ws) → Q (.ref D) H2) :
    ∃ W : Nat → Nat → Hp → Prop, (∃ m, W 0 m (upd H D (.lst []))) ∧ ∀ i m H, W i m H →
      (J.stop i H ∧ Q (.ref D) H) ∨ (J.go i H ∧ ∃ Nx : Hp → Prop, (∀ H', Nx H' → ∃ m', m' < m ∧ W (i + 1) m' H') ∧ ∀ x H', J.yld i H x H' → gName jx x (wipe σ vs) H' fun σ2 H2 => wipe σ2 vs = wipe σ vs ∧ tYes σ2 H2 fun b H3 =>
        if b = true then te σ2 H3 fun y H4 => ∃ acc, H4 D = some (.lst acc) ∧ acc.length < sizeLine ∧ Nx (upd H4 D (.lst (acc ++ [y]))) else Nx H3) :=
  lc_it (σ := σ) (vs := vs) (g := gName jx) (tt := tYes) (te := te) (Qd := fun H => Q (.ref D) H) wk (Evl.Cw H (fun _ => true) (fun i => ws.getD i .non) D) ⟨hD, Ex.new hD, upd_same⟩ (fun i H' _ p => hG H' p.2.1)
    (fun i x H1 H' hi p ⟨e1, e2⟩ => by
      subst e1
      exact ⟨hw x, Evl.cw_turn p (by omega) yes_t fun _ => he i x hi e2⟩)
    (fun H' p => q H' p.2.1 (by rw [← hn] at p; rw [← given_all ws]; exact p.2.2))
theorem el_lcT {a : Addr} {xs : List V} {tl : TE} {jx : Nat} {vs : List Nat} (h : Ev tl σ H (.ref a)) (hx : H a = some (.tup xs)) (ws : List V) (hn : ws.length = xs.length) (hz : xs.length ≤ 40000)
    (hw : ∀ x, wipe ((wipe σ vs).set jx (some x)) vs = wipe σ vs) (he : ∀ (i : Nat) x H1, Ex H H1 → xs[i]? = some x → Ev te ((wipe σ vs).set jx (some x)) H1 (ws.getD i .non)) :
    EvL (tLc (iTup K tl) (gName jx) tYes te vs) σ H ws := fun H0 e Q q => h H0 e _ fun H1 e1 => ⟨a, rfl, ⟨xs, .inl (.inl ((e.trans e1) _ _ hx))⟩, fun D hD =>
  lc_w (walk_tup (K := K) (a := a) (xs := xs)) (fun H' e2 => .inl (.inl (((e.trans e1).trans e2) _ _ hx))) ws hn hz hw (fun i x hi hx' => he i x H1 (e.trans e1) hx') hD fun H2 e2 h2 => q D H2 (Evl.fresh_back e1 hD) (e1.trans e2) h2⟩
theorem el_lcS {z : Str} {tl : TE} {jx : Nat} {vs : List Nat} (h : Ev tl σ H (.str z)) (ws : List V) (hn : ws.length = z.cps.size) (hz : z.cps.size ≤ 40000)
    (hw : ∀ x, wipe ((wipe σ vs).set jx (some x)) vs = wipe σ vs) (he : ∀ (i : Nat) c H1, Ex H H1 → z.cps[i]? = some c → Ev te ((wipe σ vs).set jx (some (.str ⟨#[c]⟩))) H1 (ws.getD i .non)) :
    EvL (tLc (iStr tl) (gName jx) tYes te vs) σ H ws := fun H0 e Q q => h H0 e _ fun H1 e1 => ⟨z, rfl, fun D hD =>
  lc_w (walk_str (z := z)) (fun H' _ => trivial) ws hn hz hw (fun i x hi ⟨c, h1, h2⟩ => by rw [h2]; exact he i c H1 (e.trans e1) h1) hD fun H2 e2 h2 => q D H2 (Evl.fresh_back e1 hD) (e1.trans e2) h2⟩
theorem ed_all {bs : List Bool} (h : EvL ta σ H (bs.map V.bl)) : EvD (tCB (rAll K) (tCons ta tNil)) σ H (.bool (bs.all id)) := fun H1 e Q q =>
  h H1 e _ fun p H2 _ e2 hp => ⟨p, bs, rfl, .inl (.inl hp), q _ H2 e2 (.bl _)⟩
theorem ed_any {bs : List Bool} (h : EvL ta σ H (bs.map V.bl)) : EvD (tCB (rAny K) (tCons ta tNil)) σ H (.bool (bs.any id)) := fun H1 e Q q =>
  h H1 e _ fun p H2 _ e2 hp => ⟨p, bs, rfl, .inl (.inl hp), q _ H2 e2 (.bl _)⟩
end
end Lk
set_option Elab.async false
set_option linter.all false
set_option maxRecDepth 100000
set_option maxHeartbeats 4000000
namespace Lk
open PySem PySem.Spec PyProof.Rows L2 HotX L2H LamX
open Evl (Ev EvL EvA EvT Ex)
/-! ### == of data -/
mutual
theorem R.dp {K : PySem.W.Frag} {H : Hp} : ∀ {v : V} {d : PyData}, R H v d → d.canLay0 = true → Dp K H v d
  | _, _, .non, _ => .non
  | _, _, .bl b, _ => .bl b
  | _, _, .int i, _ => .int i
  | _, _, .str x _, _ => .str x
  | _, _, .lst h r, c => .lst (.inl (.inl h)) (Rs.dp r (by simpa only [PyData.canLay0] using c))
  | _, _, .tup h r, c => .tup (.inl (.inl h)) (Rs.dp r (by simpa only [PyData.canLay0] using c))
  | _, _, .dT _ _ _ _, c => by simp [PyData.canLay0] at c
  | _, _, .dK _ _ _ _, c => by simp [PyData.canLay0] at c
theorem Rs.dp {K : PySem.W.Frag} {H : Hp} : ∀ {vs : List V} {ds : List PyData}, Rs H vs ds → PyData.canLayAll0 ds = true → DpAll K H vs ds
  | _, _, .nil, _ => .nil
  | _, _, .cons r t, c => by
    simp only [PyData.canLayAll0, Bool.and_eq_true] at c
    exact .cons (R.dp r c.1) (Rs.dp t c.2)
end
section
variable {K : PySem.W.Frag} {σ : St} {H H' : Hp} {ta tb te : TE} {tr : TA} {d e : PyData} {ds : List PyData} {v : V} {b c : Bool} {i j : Int}
theorem ed_eq (h1 : EvD ta σ H d) (h2 : EvD tb σ H e) (s1 : SeqAt.shaped d = true) (s2 : SeqAt.shaped e = true) : EvD (tOp (rEqD K) ta tb) σ H (.bool (PyData.eqv d e)) := fun H1 a Q q =>
  h1 H1 a _ fun v1 H2 a2 r1 => h2 H2 (a.trans a2) _ fun v2 H3 a3 r2 =>
    ⟨d, e, (r1.ext (exN a3)).dp (SeqAt.canLay_of_shaped s1), r2.dp (SeqAt.canLay_of_shaped s2), s1, s2, q _ H3 (a2.trans a3) (.bl _)⟩
theorem ed_ne (h1 : EvD ta σ H d) (h2 : EvD tb σ H e) (s1 : SeqAt.shaped d = true) (s2 : SeqAt.shaped e = true) : EvD (tOp (rNeD K) ta tb) σ H (.bool (!PyData.eqv d e)) := fun H1 a Q q =>
  h1 H1 a _ fun v1 H2 a2 r1 => h2 H2 (a.trans a2) _ fun v2 H3 a3 r2 =>
    ⟨d, e, (r1.ext (exN a3)).dp (SeqAt.canLay_of_shaped s1), r2.dp (SeqAt.canLay_of_shaped s2), s1, s2, q _ H3 (a2.trans a3) (.bl _)⟩
/-! ### tests -/
theorem et_b {t : TE} (h : EvD t σ H (.bool b)) : EvT (tB t) σ H b := Evl.et_B h.vb
/-! ### comprehension over range(lo, hi) -/
theorem el_lcR2 {lo hi : Int} {jx : Nat} {vs : List Nat} (h : EvDs tr σ H [.int lo, .int hi]) (b1 : -100000 ≤ lo) (b2 : lo ≤ 100000) (b3 : -100000 ≤ hi) (b4 : hi ≤ 100000) (ws : List V) (hn : ws.length = (hi - lo).toNat) (hz : (hi - lo).toNat ≤ 40000)
    (hw : ∀ x, wipe ((wipe σ vs).set jx (some x)) vs = wipe σ vs) (he : ∀ (i : Nat) H1, Ex H H1 → i < (hi - lo).toNat → Ev te ((wipe σ vs).set jx (some (.int (lo + i)))) H1 (ws.getD i .non)) :
    EvL (tLc (iRng2 tr) (gName jx) tYes te vs) σ H ws := fun H0 e Q q => h H0 e _ fun xs H1 e1 rs => by
  obtain ⟨v, w, d', e', rfl, hd, r1, r2⟩ : ∃ v w d e, xs = [v, w] ∧ ([PyData.int lo, PyData.int hi] : List PyData) = [d, e] ∧ R H1 v d ∧ R H1 w e := by
    cases rs with
    | cons r t => cases t with
      | cons r' t' => cases t'; exact ⟨_, _, _, _, rfl, rfl, r, r'⟩
  cases hd
  cases r1
  cases r2
  refine ⟨lo, hi, rfl, ⟨by omega, by omega, by omega, by omega⟩, fun D hD => ?_⟩
  exact lc_w (walk_range (lo := lo) (n := (hi - lo).toNat)) (fun _ _ => trivial) ws hn hz hw (fun i x hi' hx => by rw [hx]; exact he i H1 (e.trans e1) hi') hD fun H2 e2 h2 => q D H2 (Evl.fresh_back e1 hD) (e1.trans e2) h2
end
/-! ### keys of a dict -/
theorem kD_inj {a b : Key} (h : kD a = kD b) : a = b := by
  cases a <;> cases b <;> simp [kD] at h <;> simp [h]
theorem kD_eqv (a b : Key) : PyData.eqv (kD a) (kD b) = decide (a = b) := by
  cases a with
  | inl i => cases b with
    | inl j => simp only [kD, PyData.eqv]; rw [key_ll]
    | inr y => simp [kD, PyData.eqv]
  | inr x => cases b with
    | inl j => simp [kD, PyData.eqv]
    | inr y => simp only [kD, PyData.eqv]; rw [key_rr]; by_cases h : x = y <;> simp [h]
theorem keys_eqv : ∀ a b : List Key, PyData.eqvAll (a.map kD) (b.map kD) = decide (a = b)
  | [], [] => by simp [PyData.eqvAll]
  | [], _ :: _ => by simp [PyData.eqvAll]
  | _ :: _, [] => by simp [PyData.eqvAll]
  | x :: a, y :: b => by
    simp only [List.map_cons, PyData.eqvAll, kD_eqv, keys_eqv a b, List.cons.injEq]
    by_cases h1 : x = y <;> by_cases h2 : a = b <;> simp [h1, h2]
theorem rs_keys {H : Hp} : ∀ k : List Key, (∀ x, Sum.inr x ∈ k → x.length ≤ 100000) → Rs H (k.map kV) (k.map kD)
  | [], _ => .nil
  | .inl i :: k, h => .cons (.int i) (rs_keys k fun x hx => h x (List.mem_cons_of_mem _ hx))
  | .inr x :: k, h => .cons (.str x (h x List.mem_cons_self)) (rs_keys k fun x hx => h x (List.mem_cons_of_mem _ hx))
theorem has_key {ds : List (PyData × PyData)} {kvs : List (List Key × V)} (h : ds.map Prod.fst = kvs.map (fun kv => PyData.tuple (kv.1.map kD))) (k : List Key) : (ds.any fun p => PyData.eqv p.1 (.tuple (k.map kD))) = (valV kvs k).isSome := by
  rw [← valV_any]
  have e1 : (ds.any fun p => PyData.eqv p.1 (.tuple (k.map kD))) = (ds.map Prod.fst).any fun x => PyData.eqv x (.tuple (k.map kD)) := by rw [List.any_map]; rfl
  rw [e1, h, List.any_map]
  congr 1
  funext kv
  show PyData.eqvAll (kv.1.map kD) (k.map kD) = decide (kv.1 = k)
  exact keys_eqv _ _
theorem val_at {κ : Type} [DecidableEq κ] : ∀ {kvs : List (κ × V)} {i : Nat} {k : κ} {v : V}, (kvs.map Prod.fst).Nodup → kvs[i]? = some (k, v) → valV kvs k = some v
  | [], _, _, _, _, h => by simp at h
  | p :: r, 0, k, v, _, h => by
    simp at h
    subst h
    exact valV_pos rfl
  | p :: r, i + 1, k, v, nd, h => by
    simp only [List.map_cons, List.nodup_cons] at nd
    have h' : r[i]? = some (k, v) := by simpa using h
    have hne : ¬ p.1 = k := fun e => nd.1 (List.mem_map.mpr ⟨(k, v), List.mem_of_getElem? h', e.symm⟩)
    rw [valV_neg hne]
    exact val_at nd.2 h'
theorem at_pair {ds : List (PyData × PyData)} {ks : List PyData} {H : Hp} {vs : List V} (h : ds.map Prod.fst = ks) (r : Rs H vs (ds.map Prod.snd)) {i : Nat} {x : PyData} {v : V} (hk : ks[i]? = some x) (hv : vs[i]? = some v) : ∃ p, ds[i]? = some p ∧ p.1 = x ∧ R H v p.2 := by
  obtain ⟨d, hd, rd⟩ := r.get' hv
  rw [← h, List.getElem?_map] at hk
  rw [List.getElem?_map] at hd
  cases e : ds[i]? with
  | none => rw [e] at hk; cases hk
  | some p =>
    rw [e] at hk hd
    cases hk
    cases hd
    exact ⟨p, rfl, rfl, rd⟩
end Lk
set_option Elab.async false
set_option linter.all false
set_option maxRecDepth 100000
set_option maxHeartbeats 4000000
/-! Written data: displays, +, * -/
namespace Lk
open PySem PySem.Spec PyProof.Rows L2 HotX L2H LamX
open Evl (Ev EvL EvA EvT Ex EvU)
def flatD : V → PyData
  | .bl b => .bool b
  | .int i => .int i
  | .str x => .str x
  | _ => .none
def flatOk : V → Bool
  | .non => true
  | .bl _ => true
  | .int _ => true
  | .str x => decide (x.length ≤ 100000)
  | _ => false
theorem flat_r {H : Hp} : ∀ {v : V}, flatOk v = true → R H v (flatD v)
  | .non, _ => .non
  | .bl b, _ => .bl b
  | .int i, _ => .int i
  | .str x, h => .str x (of_decide_eq_true h)
theorem flat_rs {H : Hp} : ∀ {vs : List V}, vs.all flatOk = true → Rs H vs (vs.map flatD)
  | [], _ => .nil
  | v :: vs, h => by
    rw [List.all_cons, Bool.and_eq_true] at h
    exact .cons (flat_r h.1) (flat_rs h.2)
def keyOk : Key → Bool
  | .inl _ => true
  | .inr x => decide (x.length ≤ 100000)
section
variable {K : PySem.W.Frag} {σ : St} {H H' : Hp} {ta tb tk : TE} {tr : TA} {d e : PyData} {ds es : List PyData} {v : V} {trs : List (TE × TE)}
theorem ed_catL (h1 : EvD ta σ H (.list ds)) (h2 : EvD tb σ H (.list es)) (hl : ds.length + es.length ≤ 100000) : EvD (tOp rCat ta tb) σ H (.list (ds ++ es)) := fun H1 a Q q =>
  h1 H1 a _ fun v1 H2 a2 r1 => h2 H2 (a.trans a2) _ fun v2 H3 a3 r2 => by
    have r1' := r1.ext (exN a3)
    cases r1' with
    | @lst l xs _ hx rx => cases r2 with
      | @lst l' ys _ hy ry =>
        refine ⟨l, l', xs, ys, rfl, rfl, hx, hy, Evl.sz_of (by rw [rx.length, ry.length]; exact hl), fun p hp => q _ _ ((a2.trans a3).trans (Ex.new hp)) (.lst upd_same ((rx.append ry).ext (exN (Ex.new hp))))⟩
theorem rs_rep {H : Hp} {vs : List V} {ds : List PyData} (r : Rs H vs ds) : ∀ n : Nat, Rs H (List.replicate n vs).flatten (List.replicate n ds).flatten
  | 0 => .nil
  | n + 1 => by
    rw [List.replicate_succ, List.replicate_succ, List.flatten_cons, List.flatten_cons]
    exact r.append (rs_rep r n)
theorem len_rep {α : Type} (l : List α) : ∀ n : Nat, (List.replicate n l).flatten.length = l.length * n
  | 0 => by simp
  | n + 1 => by rw [List.replicate_succ, List.flatten_cons, List.length_append, len_rep l n, Nat.mul_succ]; omega
/-- [x] * n -/
theorem ed_repL {n : Nat} (h1 : EvD ta σ H (.list ds)) (hl : ds.length * n ≤ 1000) (hn : n ≤ 1000) : EvD (tOp rRep ta (tC (.int (n : Int)))) σ H (.list (List.replicate n ds).flatten) := fun H1 a Q q =>
  h1 H1 a _ fun v1 H2 a2 r1 => by
    cases r1 with
    | @lst l xs _ hx rx =>
      refine ⟨l, (n : Int), xs, rfl, rfl, hx, by omega, by omega, ?_, fun p hp => q _ _ (a2.trans (Ex.new hp)) (.lst upd_same ((rs_rep rx n).ext (exN (Ex.new hp))))⟩
      rw [Int.toNat_natCast, rx.length]
      exact Evl.sz_of (by omega)
/-- (x,) * n -/
theorem eu_repT {n : Nat} {xs : List V} (h1 : EvU ta σ H xs) (h0 : xs ≠ []) (hl : xs.length ≤ 1000) (h2 : 2 ≤ n) (hn : n ≤ 1000) : EvU (tOp (rRepT K) ta (tC (.int (n : Int)))) σ H (List.replicate n xs).flatten := fun H1 a Q q =>
  h1 H1 a _ fun p H2 hp a2 hx => ⟨p, (n : Int), xs, rfl, rfl, .inl (.inl hx), h0, by omega, by omega, hl, fun p' hp' => q p' _ (Evl.fresh_back a2 hp') (a2.trans (Ex.new hp')) (by rw [Int.toNat_natCast]; exact upd_same)⟩
/-! dicts -/
def EvPs (trs : List (TE × TE)) (σ : St) (H : Hp) (ps : List (List Key × V)) : Prop := ∀ H1, Ex H H1 → ∀ Q : List (V × V) → Hp → Prop, (∀ xs H2, Ex H1 H2 → TupKeys H2 xs ps → Q xs H2) → tPairs trs σ H1 Q
theorem tk_ext {H H' : Hp} (e : Ex H H') : ∀ {xs : List (V × V)} {ps : List (List Key × V)}, TupKeys H xs ps → TupKeys H' xs ps
  | _, _, .nil => .nil
  | _, _, .cons ⟨⟨a, h1, h2⟩, h3⟩ t => .cons ⟨⟨a, h1, e _ _ h2⟩, h3⟩ (tk_ext e t)
theorem eps_nil : EvPs [] σ H [] := fun H1 _ _ q => q [] H1 (Ex.refl _) .nil
theorem eps_cons {k : List Key} {ps : List (List Key × V)} (h : EvU tk σ H (k.map kV)) (hr : EvPs trs σ H ps) : EvPs ((tk, tC v) :: trs) σ H ((k, v) :: ps) := fun H1 a Q q =>
  h H1 a _ fun p H2 _ a2 hp => hr H2 (a.trans a2) _ fun xs H3 a3 t => q _ H3 (a2.trans a3) (.cons ⟨⟨p, rfl, a3 _ _ hp⟩, rfl⟩ t)
theorem merge_nd : ∀ (ps acc : List (List Key × V)), ((acc ++ ps).map Prod.fst).Nodup → mergeT acc ps = acc ++ ps
  | [], acc, _ => by rw [List.append_nil]; rfl
  | p :: ps, acc, nd => by
    have hn : valV acc p.1 = none := by
      cases e : valV acc p.1 with
      | none => rfl
      | some v =>
        exfalso
        have hm : p.1 ∈ acc.map Prod.fst := by
          have : (valV acc p.1).isSome = true := by rw [e]; rfl
          rw [← valV_any, List.any_eq_true] at this
          obtain ⟨q, hq, eq⟩ := this
          exact List.mem_map.mpr ⟨q, hq, of_decide_eq_true eq⟩
        rw [List.map_append, List.map_cons, List.nodup_append] at nd
        exact nd.2.2 _ hm _ List.mem_cons_self rfl
    show mergeT (putK acc p.1 p.2) ps = _
    rw [putK_new _ hn, merge_nd ps _ (by rw [List.append_assoc]; exact nd), List.append_assoc]
    rfl
theorem ed_dispT {ps : List (List Key × V)} (h : EvPs trs σ H ps) (nd : (ps.map Prod.fst).Nodup) (hl : ps.length ≤ 15) (hv : (ps.all fun p => flatOk p.2 && p.1.all keyOk) = true) :
    EvD (tDispT trs) σ H (.dict (ps.map fun p => (.tuple (p.1.map kD), flatD p.2))) := fun H1 a Q q p hp =>
  h _ (a.trans (Ex.new hp)) _ fun xs H2 e2 t => by
    have h2 : H2 p = some (.dT []) := e2 _ _ upd_same
    refine ⟨h2, ps, t, hl, ?_⟩
    have em : mergeT [] ps = ps := merge_nd ps [] nd
    rw [em]
    rw [List.all_eq_true] at hv
    have hx : Ex H1 (upd H2 p (.dT ps)) := fun b o hb => by
      have nb : b ≠ p := ne_of_none hb hp
      rw [upd_ne nb]
      refine e2 _ _ ?_
      rw [upd_ne nb]
      exact hb
    refine q _ _ hx (.dT upd_same ⟨fun kv hkv x hx => ?_, nd⟩ ?_ ?_)
    · have := hv kv hkv
      rw [Bool.and_eq_true, List.all_eq_true] at this
      exact of_decide_eq_true (this.2 _ hx)
    · rw [List.map_map]
      rfl
    · rw [List.map_map]
      have e1 : (ps.map (Prod.snd ∘ fun p => (PyData.tuple (p.1.map kD), flatD p.2))) = (ps.map Prod.snd).map flatD := by rw [List.map_map]; rfl
      rw [e1]
      refine flat_rs ?_
      rw [List.all_map, List.all_eq_true]
      intro y hy
      have := hv y hy
      rw [Bool.and_eq_true] at this
      exact this.1
/-- {k: v}, one key, a text -/
theorem ed_dispK {x : Str} (hx : x.length ≤ 100000) (hv : flatOk v = true) : EvD (tDisp [(tC (.str x), tC v)]) σ H (.dict [(.str x, flatD v)]) := fun H1 a Q q p hp => by
  refine ⟨upd_same, [(Sum.inr x, v)], rfl, by simp, ?_⟩
  rw [upd_upd]
  refine q _ _ (Ex.new hp) (.dK upd_same ⟨fun kv hkv y hy => ?_, ?_⟩ rfl (.cons (flat_r hv) .nil))
  · have e1 : kv = (Sum.inr x, v) := by simpa [mergeK, putK] using hkv
    rw [e1] at hy
    cases hy
    exact hx
  · simp [mergeK, putK]
end
end Lk
set_option Elab.async false
set_option linter.all false
set_option maxRecDepth 100000
set_option maxHeartbeats 4000000
namespace Lk
open PySem PySem.Spec PyProof.Rows L2 HotX L2H LamX
open Evl (Ev EvL EvA EvT Ex)
def topS (i : Nat) : Stmt := PySem.Challenge.pw_lookhouse_k11_states_refused.main.body.getD i (.Pass ⟨0, 0, 0, 0⟩)
abbrev sNeed : Stmt := topS 14
abbrev sIsWord : Stmt := topS 15
abbrev sIsPath : Stmt := topS 16
abbrev sNeedPath : Stmt := topS 17
abbrev sIsNumber : Stmt := topS 18
abbrev sIsState : Stmt := topS 20
abbrev sNeedState : Stmt := topS 21
abbrev sNeedDeed : Stmt := topS 22
abbrev sDone : Stmt := topS 26
abbrev sChanged : Stmt := topS 27
abbrev sBetween : Stmt := topS 28
/-! what the module's names hold -/
def smallS : Str := "abcdefghijklmnopqrstuvwxyz"
structure Tx (K : PySem.W.Frag) (mg : Str → Option Value) : Prop where
  isi : mg "isinstance" = none
  len : mg "len" = none
  all : mg "all" = none
  any : mg "any" = none
  abs : mg "abs" = none
  rng : mg "range" = none
  str : mg "str" = none
  tup : mg "tuple" = none
  int : mg "int" = none
  bool : mg "bool" = none
  dict : mg "dict" = none
  small : ∃ u, mg "SMALL" = some u ∧ RelV (.str smallS) u
  mword : ∃ u, mg "MOST_WORD" = some u ∧ RelV (.int 6) u
  mdeep : ∃ u, mg "MOST_DEEP" = some u ∧ RelV (.int 4) u
  mworth : ∃ u, mg "MOST_WORTH" = some u ∧ RelV (.int 1000000000) u
/-! ### what the defs come to -/
def isWord : PyData → Bool
  | .str x => (decide ((1 : Int) ≤ (x.length : Int)) && decide ((x.length : Int) ≤ 6)) && x.cps.toList.all fun c => decide (c ∈ smallS.cps.toList)
  | _ => false
def isPath : PyData → Bool
  | .tuple ds => decide ((ds.length : Int) ≤ 4) && ds.all isWord
  | _ => false
def isNumber (most : Int) : PyData → Bool
  | .int i => decide ((i.natAbs : Int) ≤ most)
  | _ => false
def isStr : PyData → Bool
  | .str _ => true
  | _ => false
def isTup : PyData → Bool
  | .tuple _ => true
  | _ => false
def isInt : PyData → Bool
  | .int _ => true
  | .bool _ => true
  | _ => false
def isBool : PyData → Bool
  | .bool _ => true
  | _ => false
def isDict : PyData → Bool
  | .dict _ => true
  | _ => false
theorem kit_str (d : PyData) : kitB (tyD d) "str" = some (isStr d) := by
  cases d <;> (show kitB _ _ = some _) <;> simp only [tyD, isStr] <;> decide +kernel
theorem kit_tup (d : PyData) : kitB (tyD d) "tuple" = some (isTup d) := by
  cases d <;> (show kitB _ _ = some _) <;> simp only [tyD, isTup] <;> decide +kernel
theorem kit_int (d : PyData) : kitB (tyD d) "int" = some (isInt d) := by
  cases d <;> (show kitB _ _ = some _) <;> simp only [tyD, isInt] <;> decide +kernel
theorem kit_bool (d : PyData) : kitB (tyD d) "bool" = some (isBool d) := by
  cases d <;> (show kitB _ _ = some _) <;> simp only [tyD, isBool] <;> decide +kernel
theorem kit_dict (d : PyData) : kitB (tyD d) "dict" = some (isDict d) := by
  cases d <;> (show kitB _ _ = some _) <;> simp only [tyD, isDict] <;> decide +kernel
/-- a promise that tells what comes of things, without a refusal -/
def spF (n : Nat) (f : List PyData → PyData) : Sp := fun vs H Q _ => ∃ ds, Rs H vs ds ∧ ds.length = n ∧ ∀ v H', Same H H' → R H' v (f ds) → Q v H'
theorem spF_len {n : Nat} {f : List PyData → PyData} {ps : List Str} (hn : ps.length = n) (vs : List V) (H : Hp) (Q : VK) (E : XK) (h : spF n f vs H Q E) : vs.length = ps.length := by
  obtain ⟨ds, r, hl, _⟩ := h
  rw [r.length, hl, hn]
def f1 (g : PyData → Bool) : List PyData → PyData
  | [d] => .bool (g d)
  | _ => .none
theorem Rs.one {H : Hp} {vs : List V} {ds : List PyData} (r : Rs H vs ds) (h : ds.length = 1) : ∃ v d, vs = [v] ∧ ds = [d] ∧ R H v d := by
  cases r with
  | nil => cases h
  | cons r t => cases t with
    | nil => exact ⟨_, _, rfl, rfl, r⟩
    | cons _ _ => cases h
theorem Rs.two {H : Hp} {vs : List V} {ds : List PyData} (r : Rs H vs ds) (h : ds.length = 2) : ∃ v w d e, vs = [v, w] ∧ ds = [d, e] ∧ R H v d ∧ R H w e := by
  cases r with
  | nil => cases h
  | cons r t =>
    obtain ⟨w, e, rfl, rfl, q⟩ := t.one (by simpa using h)
    exact ⟨_, _, _, _, rfl, rfl, r, q⟩
/-- a call of such a def -/
theorem ed_call {σ : St} {H : Hp} {n : Nat} {f : List PyData → PyData} {E : XK} {ta : TA} {ds : List PyData} {d : PyData} (h : EvDs ta σ H ds) (hn : ds.length = n) (hd : f ds = d) : EvD (tCall (spF n f) [] E ta) σ H d := fun H1 e Q q =>
  h H1 e _ fun vs H2 e2 rs => ⟨ds, by rw [List.append_nil]; exact rs, hn, fun v H3 s3 r => q v H3 (e2.trans s3) (by rw [← hd]; exact r)⟩
theorem s_retD {te : TE} {σ : St} {H : Hp} {d : PyData} {D : Ends} (h : EvD te σ H d) (k : ∀ v H1, Ex H H1 → R H1 v d → D.rt v H1) : tRet te D σ H := h H (Ex.refl H) _ k
section
variable {P : Program} {w : World} {K : PySem.W.Frag} {mg : Str → Option Value} {base : Heap}
theorem scIsWord : FnScope ["thing", "sign"] ["thing"] (defScope sIsWord) := ⟨rfl, rfl, rfl, by decide +kernel, rfl, by decide +kernel, by decide +kernel⟩
theorem ok_isWord {f : Addr} {fd : FuncData} (F : L2.Fun K "is_word" "is_word" sIsWord f fd) (hm : mg "is_word" = some (.ref f)) (hb : Binds K fd ["thing"] []) (T : Tx K mg) : Df P w K mg base "is_word" 1 ["thing"] (spF 1 (f1 isWord)) := by
  refine df_of F hm hb scIsWord (spF_len rfl) (fun cdv A outer s H vs Q E hr h => ?_)
  obtain ⟨ds, rs, hl, k⟩ := h
  obtain ⟨v, d, rfl, rfl, rd⟩ := rs.one hl
  refine ⟨_, pss_one (ps_ret (pe_and (pe_callB (call_isD (T := "str")) (by rfl) T.isi boot_isinstance (pa_cons (pv 0) (pa_cons (pe_bltn (v := .ty "str") (by rfl) T.str boot_str rfl) pa_nil)))
      (pe_and (pe_chain op_le op_le pe_int (pe_callB call_len_str (by rfl) T.len PySem.boot_len (pa_cons (pv 0) pa_nil)) (C8.pe_gc (by rfl) T.mword))
      (pe_one (pe_callB (cr_all rfl) (by rfl) T.all boot_all (pa_cons (pe_lc (own := [("sign", 1)]) (g := gName 1) (tt := tYes) rfl scIsWord.nd (pi_str (pv 0)) (blkOk_by (own := [("sign", 1)]) (N := ["thing", "sign"]) (sc := defScope sIsWord) (by decide +kernel))
        (fun _ _ _ _ _ => pg_name (i := 1) scIsWord.nd rfl (Or.inl rfl)) (fun _ _ _ _ _ => pts_nil) (fun _ _ _ _ _ => pe_cmpR op_in_sign (pv 1) (C8.pe_gc (by rfl) T.small) rfl)) pa_nil)))))), ?_⟩
  refine s_retD (d := .bool (isWord d)) ?_ fun v1 H1 e1 r1 => k v1 H1 e1 r1
  refine ed_is (ed_and (c := isWord d) (ed_isi (ed_var rfl rd) (kit_str d)) fun hs => ?_) (by cases d <;> simp [isStr, isWord])
  cases rd with
  | str z hz =>
    refine ed_is (ed_and (ed_chain (i := 1) (j := (z.length : Int)) (k := 6) (ed_c (.int 1)) (ed_lenS (ed_var rfl (.str z hz))) (ed_c (.int 6))) fun hc =>
      ed_all (bs := z.cps.toList.map fun c => decide (c ∈ smallS.cps.toList)) (el_lcS (z := z) (Evl.ev_var rfl) _ (by simp) ?_ (fun x => rfl) fun i c H1 _ hc => ?_)) ?_
    · have : z.cps.size = z.length := rfl
      have h6 : (z.length : Int) ≤ 6 := of_decide_eq_true (Bool.and_eq_true .. ▸ hc).2
      omega
    · refine Evl.ev_is (Evl.ev_op (Evl.ev_var rfl) Evl.ev_c (Evl.rv_val fun H2 _ Q q => ⟨c, smallS, rfl, rfl, q⟩)) ?_
      have hc' : z.cps.toList[i]? = some c := by rw [Array.getElem?_toList]; exact hc
      simp [hc']
    · rw [List.all_map]
      rfl
  | _ => cases hs
theorem scIsPath : FnScope ["thing", "word"] ["thing"] (defScope sIsPath) := ⟨rfl, rfl, rfl, by decide +kernel, rfl, by decide +kernel, by decide +kernel⟩
theorem ok_isPath {f : Addr} {fd : FuncData} (F : L2.Fun K "is_path" "is_path" sIsPath f fd) (hm : mg "is_path" = some (.ref f)) (hb : Binds K fd ["thing"] []) (T : Tx K mg) (D1 : Df P w K mg base "is_word" 1 ["thing"] (spF 1 (f1 isWord))) : Df P w K mg base "is_path" 2 ["thing"] (spF 1 (f1 isPath)) := by
  refine df_of F hm hb scIsPath (spF_len rfl) (fun cdv A outer s H vs Q E hr h => ?_)
  obtain ⟨ds, rs, hl, k⟩ := h
  obtain ⟨v, d, rfl, rfl, rd⟩ := rs.one hl
  refine ⟨_, pss_one (ps_ret (pe_and (pe_callB (call_isD (T := "tuple")) (by rfl) T.isi boot_isinstance (pa_cons (pv 0) (pa_cons (pe_bltn (v := .ty "tuple") (by rfl) T.tup boot_tuple rfl) pa_nil)))
      (pe_and (pe_cmpR op_le (pe_callB call_len_seq (by rfl) T.len PySem.boot_len (pa_cons (pv 0) pa_nil)) (C8.pe_gc (by rfl) T.mdeep) (nomark _))
      (pe_one (pe_callB (cr_all rfl) (by rfl) T.all boot_all (pa_cons (pe_lc (own := [("word", 1)]) (g := gName 1) (tt := tYes) rfl scIsPath.nd (pi_tup (pv 0)) (blkOk_by (own := [("word", 1)]) (N := ["thing", "word"]) (sc := defScope sIsPath) (by decide +kernel))
        (fun _ _ _ _ _ => pg_name (i := 1) scIsPath.nd rfl (Or.inl rfl)) (fun _ _ _ _ _ => pts_nil) (fun _ _ _ _ _ => pe_df D1 hr (Nat.le_refl _) (by rfl) passN (pa_cons (pv 1) pa_nil))) pa_nil)))))), ?_⟩
  refine s_retD (d := .bool (isPath d)) ?_ fun v1 H1 e1 r1 => k v1 H1 e1 r1
  refine ed_is (ed_and (c := isPath d) (ed_isi (ed_var rfl rd) (kit_tup d)) fun hs => ?_) (by cases d <;> simp [isTup, isPath])
  cases rd with
  | @tup a xs ds hp rs' =>
    refine ed_is (ed_and (ed_I0 (i := (ds.length : Int)) (j := 4) (ed_lenQ (ed_var rfl (.tup hp rs')) (.inl rfl)) (ed_c (.int 4)) (.bl _)) fun hc =>
      ed_all (bs := ds.map isWord) (el_lcT (a := a) (xs := xs) (Evl.ev_var rfl) hp _ ?_ ?_ (fun x => rfl) fun i x H1 e1 hx => ?_)) ?_
    · rw [List.length_map, List.length_map, rs'.length]
    · have h4 : (ds.length : Int) ≤ 4 := of_decide_eq_true hc
      rw [rs'.length]
      omega
    · obtain ⟨d', hd', rx⟩ := rs'.get' hx
      refine Evl.ev_is (EvD.vb (b := isWord d') (ed_call (eds_cons (ed_var rfl (rx.ext (exN e1))) eds_nil) rfl rfl)) ?_
      simp [hd']
    · rw [List.all_map]
      rfl
  | _ => cases hs
theorem scIsNumber : FnScope ["thing", "most"] ["thing", "most"] (defScope sIsNumber) := ⟨rfl, rfl, rfl, by decide +kernel, rfl, by decide +kernel, by decide +kernel⟩
def fNumber : List PyData → PyData
  | [d, .int m] => .bool (isNumber m d)
  | _ => .none
def spNumber : Sp := fun vs H Q _ => ∃ v d m, vs = [v, .int m] ∧ R H v d ∧ ∀ H', Same H H' → Q (.bl (isNumber m d)) H'
theorem ok_isNumber {f : Addr} {fd : FuncData} (F : L2.Fun K "is_number" "is_number" sIsNumber f fd) (hm : mg "is_number" = some (.ref f)) (hb : Binds K fd ["thing", "most"] []) (T : Tx K mg) : Df P w K mg base "is_number" 1 ["thing", "most"] spNumber := by
  refine df_of F hm hb scIsNumber (fun vs H Q E h => by obtain ⟨_, _, _, rfl, _⟩ := h; rfl) (fun cdv A outer s H vs Q E hr h => ?_)
  obtain ⟨v, d, m, rfl, rd, k⟩ := h
  refine ⟨_, pss_one (ps_ret (pe_and (pe_callB (call_isD (T := "int")) (by rfl) T.isi boot_isinstance (pa_cons (pv 0) (pa_cons (pe_bltn (v := .ty "int") (by rfl) T.int boot_int rfl) pa_nil)))
      (pe_and (pe_not (pe_callB (call_isD (T := "bool")) (by rfl) T.isi boot_isinstance (pa_cons (pv 0) (pa_cons (pe_bltn (v := .ty "bool") (by rfl) T.bool (by decide +kernel) rfl) pa_nil))))
      (pe_one (pe_cmpR op_le (pe_callB call_abs (by rfl) T.abs (by decide +kernel) (pa_cons (pv 0) pa_nil)) (pv 1) (nomark _)))))), ?_⟩
  refine s_retD (d := .bool (isNumber m d)) ?_ fun v1 H1 e1 r1 => by cases r1; exact k H1 e1
  refine ed_is (ed_and (c := isNumber m d) (ed_isi (ed_var rfl rd) (kit_int d)) fun hs => ed_is (ed_and (c := isNumber m d) (ed_not (ed_isi (ed_var rfl rd) (kit_bool d))) fun hb => ?_) (by cases d <;> simp [isBool, isNumber])) (by cases d <;> simp [isInt, isNumber])
  cases rd with
  | int i =>
    refine ed_is (ed_I0 (i := (i.natAbs : Int)) (j := m) (fun H1 e Q q => ?_) (ed_var rfl (.int m)) (.bl _)) rfl
    refine ⟨_, rfl, i, rfl, ?_⟩
    have : (if i < 0 then -i else i) = (i.natAbs : Int) := by omega
    rw [this]
    exact q _ H1 (Ex.refl _) (.int _)
  | bl b => cases hb
  | _ => cases hs
end
end Lk
set_option Elab.async false
set_option linter.all false
set_option maxRecDepth 100000
set_option maxHeartbeats 4000000
namespace Lk
open PySem PySem.Spec PyProof.Rows L2 HotX L2H LamX
open Evl (Ev EvL EvA EvT Ex)
/-- an own class of refusals, as raise asks it -/
structure Xc (K : PySem.W.Frag) (mg : Str → Option Value) (x : Str) (C : Addr) : Prop where
  g : mg x = some (.ref C)
  x : PySem.W.excIn K C [.type "ValueError", .type "Exception", .type "BaseException", .type "object"] "ValueError.__new__" = true
  kp : PySem.W.keepIn K (.ref C) = true
  sb : PySem.W.subIn K (.ref C) (.type "BaseException") = some true
  ty : PySem.W.typeIn K (.ref C) = some (.type "type")
def spNeed (C : Addr) : Sp := fun vs H Q E => ∃ b, vs = [.bl b] ∧ (b = true → Q .non H) ∧ (b = false → E (.ref C) none H)
/-- a thing is let by, or refused -/
def spRef (C : Addr) (f : PyData → Bool) : Sp := fun vs H Q E => ∃ v d, vs = [v] ∧ R H v d ∧ (f d = true → ∀ H', Same H H' → Q .non H') ∧ (f d = false → ∀ H', Same H H' → E (.ref C) none H')
/-! ### states -/
def takeD (n : Nat) : PyData → PyData
  | .tuple ds => .tuple (ds.take n)
  | d => d
def lenD : PyData → Nat
  | .tuple ds => ds.length
  | _ => 0
def hasD (ds : List (PyData × PyData)) (k : PyData) : Bool := ds.any fun p => PyData.eqv p.1 k
def aboveD (ds : List (PyData × PyData)) (k : PyData) : Bool := (List.range (lenD k - 1)).any fun n => hasD ds (takeD (n + 1) k)
def okEntry (ds : List (PyData × PyData)) (p : PyData × PyData) : Bool := !(!isPath p.1 || (PyData.eqv p.1 (.tuple []) || !isNumber 1000000000 p.2)) && !aboveD ds p.1
def isState : PyData → Bool
  | .dict ds => ds.all (okEntry ds)
  | _ => false
theorem shaped_path {d : PyData} (h : isPath d = true) : SeqAt.shaped d = true := by
  cases d with
  | tuple ds =>
    simp only [isPath, Bool.and_eq_true] at h
    have h2 := h.2
    have c : ∀ l : List PyData, l.all isWord = true → PyData.canLayAll0 l = true ∧ PyData.depthAll l = 0 := by
      intro l
      induction l with
      | nil => intro _; exact ⟨rfl, rfl⟩
      | cons x r ih =>
        intro hl
        simp only [List.all_cons, Bool.and_eq_true] at hl
        obtain ⟨c1, c2⟩ := ih hl.2
        cases x with
        | str z =>
          have hz : PyData.strOk z = true := by
            have hw := hl.1
            simp only [isWord, Bool.and_eq_true, List.all_eq_true] at hw
            have ha := hw.2
            unfold PyData.strOk
            rw [Array.all_eq_true]
            intro j hj
            have hm := ha z.cps[j] (by simp)
            have hm := of_decide_eq_true hm
            have key : ∀ c ∈ smallS.cps.toList, (decide (c < 1114112)) = true := by decide +kernel
            exact key _ hm
          exact ⟨by simp only [PyData.canLayAll0, PyData.canLay0, hz, c1, Bool.and_self], by simp only [PyData.depthAll, PyData.depth, c2]; rfl⟩
        | _ => simp [isWord] at hl
    obtain ⟨c1, c2⟩ := c ds h2
    simp [SeqAt.shaped, PyData.canLay0, c1, PyData.depth, c2]
  | _ => simp [isPath] at h
theorem ed_num {σ : St} {H : Hp} {E : XK} {ta : TA} {d : PyData} {m : Int} (h : EvDs ta σ H [d, .int m]) : EvD (tCall spNumber [] E ta) σ H (.bool (isNumber m d)) := fun H1 e Q q =>
  h H1 e _ fun vs H2 e2 rs => by
    obtain ⟨v, w, d', e', rfl, hd, r1, r2⟩ := rs.two rfl
    cases hd
    cases r2
    exact ⟨v, d, m, rfl, r1, fun H3 s3 => q _ H3 (e2.trans s3) (.bl _)⟩
section
variable {P : Program} {w : World} {K : PySem.W.Frag} {mg : Str → Option Value} {base : Heap}
theorem scNeed : FnScope ["good"] ["good"] (defScope sNeed) := ⟨rfl, rfl, rfl, by decide +kernel, rfl, by decide +kernel, by decide +kernel⟩
theorem ok_need {f C : Addr} {fd : FuncData} (F : L2.Fun K "need" "need" sNeed f fd) (hm : mg "need" = some (.ref f)) (hb : Binds K fd ["good"] []) (X : Xc K mg "BadDeed" C) : Df P w K mg base "need" 1 ["good"] (spNeed C) := by
  refine df_of F hm hb scNeed (fun vs H Q E h => by obtain ⟨_, rfl, _⟩ := h; rfl) (fun cdv A outer s H vs Q E hr h => ?_)
  obtain ⟨b, rfl, k1, k2⟩ := h
  refine ⟨_, pss_one (ps_if (pt_not (pt_val (pv 0))) (pss_one (L2N.ps_raise rfl (L2N.takes_of rfl rfl rfl rfl) (L2N.pmk_own PySem.F.excBase_ValueError X.x X.g X.kp (raises_own X.sb X.ty) (by rfl)))) pss_nil), ?_⟩
  refine ⟨_, rfl, b, rfl, ?_⟩
  cases b with
  | true => exact iteF (k1 rfl)
  | false => exact iteT (k2 rfl)
theorem scNeedPath : FnScope ["path"] ["path"] (defScope sNeedPath) := ⟨rfl, rfl, rfl, by decide +kernel, rfl, by decide +kernel, by decide +kernel⟩
theorem ok_needPath {f C : Addr} {fd : FuncData} (F : L2.Fun K "need_path" "need_path" sNeedPath f fd) (hm : mg "need_path" = some (.ref f)) (hb : Binds K fd ["path"] []) (X : Xc K mg "BadPath" C) (D2 : Df P w K mg base "is_path" 2 ["thing"] (spF 1 (f1 isPath))) :
    Df P w K mg base "need_path" 3 ["path"] (spRef C isPath) := by
  refine df_of F hm hb scNeedPath (fun vs H Q E h => by obtain ⟨_, _, rfl, _⟩ := h; rfl) (fun cdv A outer s H vs Q E hr h => ?_)
  obtain ⟨v, d, rfl, rd, k1, k2⟩ := h
  refine ⟨_, pss_one (ps_if (pt_not (pt_val (pe_df D2 hr (Nat.le_refl _) (by rfl) passN (pa_cons (pv 0) pa_nil)))) (pss_one (L2N.ps_raise rfl (L2N.takes_of rfl rfl rfl rfl) (L2N.pmk_own PySem.F.excBase_ValueError X.x X.g X.kp (raises_own X.sb X.ty) (by rfl)))) pss_nil), ?_⟩
  refine Evl.s_if (b := !isPath d) (Evl.et_not (et_b (ed_call (eds_cons (ed_var rfl rd) eds_nil) rfl rfl))) (fun hb H1 e1 => ?_) (fun hb H1 e1 => ?_)
  · exact k2 (by simpa using hb) H1 e1
  · exact k1 (by simpa using hb) H1 e1
theorem scIsState : FnScope ["state", "path", "many"] ["state"] (defScope sIsState) := ⟨rfl, rfl, rfl, by decide +kernel, rfl, by decide +kernel, by decide +kernel⟩
theorem ok_isState {f : Addr} {fd : FuncData} (F : L2.Fun K "is_state" "is_state" sIsState f fd) (hm : mg "is_state" = some (.ref f)) (hb : Binds K fd ["state"] []) (T : Tx K mg) (D2 : Df P w K mg base "is_path" 2 ["thing"] (spF 1 (f1 isPath))) (D1 : Df P w K mg base "is_number" 1 ["thing", "most"] spNumber) :
    Df P w K mg base "is_state" 3 ["state"] (spF 1 (f1 isState)) := by
  refine df_of F hm hb scIsState (spF_len rfl) (fun cdv A outer s H vs Q E hr h => ?_)
  obtain ⟨ds, rs, hl, k⟩ := h
  obtain ⟨v, d, rfl, rfl, rd⟩ := rs.one hl
  have hu := hu_of hr
  refine ⟨_, PSs.nox (pss_cons (ps_if (pt_not (pt_val (pe_callB (call_isD (T := "dict")) (by rfl) T.isi boot_isinstance (pa_cons (pv 0) (pa_cons (pe_bltn (v := .ty "dict") (by rfl) T.dict (by decide +kernel) rfl) pa_nil))))) (pss_one (ps_ret pe_bl)) pss_nil)
    (pss_cons (ps_lock (ps_for PassesOwn.never rfl (pi_keys (pv 0)) (pg_name (i := 1) scIsState.nd rfl (Or.inr rfl))
      (pss_cons (ps_if (PW.pt (pw_or (pt_not (pt_val (pe_df D2 hr (Nat.le_refl _) (by rfl) passN (pa_cons (pv 1) pa_nil))))
          (pw_or (pt_cmpR (op_eqD hr.units) (pv 1) (pe_tup pa_nil) (nomark _)) (pw_or1 (pt_not (pt_val (pe_df D1 hr (by decide) (by rfl) passN (pa_cons (pe_dget hu (pv 0) (pv 1) (fun _ _ => rfl)) (pa_cons (C8.pe_gc (by rfl) T.mworth) pa_nil))))))))) (pss_one (ps_ret pe_bl)) pss_nil)
      (pss_one (ps_if (pt_val (pe_callB (cr_any rfl) (by rfl) T.any boot_any (pa_cons (pe_lc (own := [("many", 2)]) (g := gName 2) (tt := tYes) rfl scIsState.nd (pi_range2 (by rfl) T.rng (pa_cons pe_int (pa_cons (pe_callB call_len_seq (by rfl) T.len PySem.boot_len (pa_cons (pv 1) pa_nil)) pa_nil))) (blkOk_by (own := [("many", 2)]) (N := ["state", "path", "many"]) (sc := defScope sIsState) (by decide +kernel))
        (fun _ _ _ _ _ => pg_name (i := 2) scIsState.nd rfl (Or.inl rfl)) (fun _ _ _ _ _ => pts_nil) (fun _ _ _ _ _ => pe_cmp (pc_din hu (pe_slice (r := rSlA K) sl_tupA (pv 1) po_none (po_some (pv 2))) (pv 0)) rfl)) pa_nil))) (pss_one (ps_ret pe_bl)) pss_nil)))))
    (pss_one (ps_ret pe_bl)))), ?_⟩
  refine Evl.q_when (b := !isDict d) (Evl.et_not (et_b (ed_isi (ed_var rfl rd) (kit_dict d)))) (fun hb H1 e1 => ?_) (fun hb H1 e1 => ?_)
  · refine k _ H1 e1 ?_
    cases d <;> simp [isDict] at hb <;> exact .bl false
  · have rd1 := rd.ext (exN e1)
    cases rd1 with
    | @dT a kvs ds ha hn hk hv =>
      refine ⟨a, _, ha, trivial, fun od => ?_⟩
      have ra : R H1 (.ref a) (.dict ds) := .dT ha hn hk hv
      have vz : sizeOf (ds.map Prod.snd) < sizeOf (PyData.dict ds) := by
        have := size_snd ds
        simp only [PyData.dict.sizeOf_spec]
        omega
      have hvL : Rs (upd H1 a (.frz od (.dT kvs))) (kvs.map Prod.snd) (ds.map Prod.snd) := Rs.but ra hv vz
      generalize hHL : upd H1 a (.frz od (.dT kvs)) = HL at hvL
      have hL : HL a = some (.frz od (.dT kvs)) := by rw [← hHL]; exact upd_same
      have back : ∀ {H2 : Hp}, Ex HL H2 → Same H (upd H2 a (.dT kvs)) := fun {H2} e2 b o hb => by
        by_cases z : b = a
        · subst z
          rw [upd_same]
          exact (ha.symm.trans (e1 _ _ hb))
        · rw [upd_ne z]
          refine e2 _ _ ?_
          rw [← hHL, upd_ne z]
          exact e1 _ _ hb
      refine ⟨_, rfl, a, od, rfl, .inr ⟨kvs, hL, ?_⟩⟩
      refine for_it (walk_keysT (d := a) (o := od) (kvs := kvs)) (fun i σ' H' => (∃ o1 o2, σ' = [some (.ref a), o1, o2]) ∧ Ex HL H' ∧ ∀ (j : Nat) p, j < i → ds[j]? = some p → okEntry ds p = true) ⟨⟨_, _, rfl⟩, Ex.refl _, fun j p hj => absurd hj (Nat.not_lt_zero _)⟩ (fun i σ' H' _ h => h.2.1 _ _ hL) ?_ ?_
      · rintro i x σ' H2 H3 hi ⟨⟨o1, o2, rfl⟩, e2, hall⟩ ⟨rfl, kk, vv, q, hkv, rfl, hq⟩
        obtain ⟨p, hp, hp1, rp0⟩ := at_pair hk hvL (i := i) (x := .tuple (kk.map kD)) (v := vv) (by rw [List.getElem?_map, hkv]; rfl) (by rw [List.getElem?_map, hkv]; rfl)
        have rp : R H3 vv p.2 := rp0.ext (exN e2)
        have rq : R H3 (.ref q) p.1 := by
          rw [hp1]
          exact .tup hq (rs_keys kk fun x hx => hn.1 (kk, vv) (List.mem_of_getElem? hkv) x hx)
        have hva := val_at hn.2 hkv
        have aL : H3 a = some (.frz od (.dT kvs)) := e2 _ _ hL
        have ret : ∀ H4, Ex H3 H4 → okEntry ds p = false → H4 a = some (.frz od (.dT kvs)) ∧ Q (.bl false) (upd H4 a (.dT kvs)) := fun H4 e4 hf => by
          refine ⟨e4 _ _ aL, k _ _ (back (e2.trans e4)) ?_⟩
          have : isState (.dict ds) = false := by
            show ds.all (okEntry ds) = false
            rw [List.all_eq_false]
            exact ⟨p, List.mem_of_getElem? hp, by rw [hf]; exact Bool.false_ne_true⟩
          show R _ _ (.bool (isState (.dict ds)))
          rw [this]
          exact .bl false
        show tSeq _ _ _ [some (.ref a), some (.ref q), o2] H3
        refine Evl.q_when (b := !isPath p.1 || (PyData.eqv p.1 (.tuple []) || !isNumber 1000000000 p.2)) (Evl.et_or (Evl.et_not (et_b (ed_call (eds_cons (ed_var rfl rq) eds_nil) rfl rfl))) fun hpath =>
          Evl.et_or (Evl.et_test (ed_eq (ed_var rfl rq) (ed_tup eds_nil (by decide)) (shaped_path (by simpa using hpath)) (by decide +kernel)).vb) fun _ => Evl.et_not (et_b (ed_num (eds_cons ?g1 (eds_cons (ed_c (.int _)) eds_nil))))) (fun hb4 H4 e4 => ?_) (fun hb4 H4 e4 => ?_)
        case g1 =>
          intro H5 e5 Q5 q5
          refine ⟨_, rfl, _, rfl, a, vv, rfl, .inr ⟨kvs, kk, q, .inr ⟨od, e5 _ _ aL⟩, rfl, e5 _ _ hq, hva.symm⟩, q5 _ H5 (Ex.refl _) (rp.ext (exN e5))⟩
        · exact ret H4 e4 (by simp only [okEntry, hb4, Bool.not_true, Bool.false_and])
        · refine Evl.s_when (b := aboveD ds p.1) (et_b ?g2) (fun hb5 H5 e5 => ?_) (fun hb5 H5 e5 => ?_)
          case g2 =>
            have hlen : lenD p.1 = kk.length := by rw [hp1]; simp [lenD]
            have h4 : kk.length ≤ 4 := by
              have hpath : isPath p.1 = true := by
                cases hz : isPath p.1
                · rw [hz] at hb4; simp at hb4
                · rfl
              rw [hp1] at hpath
              simp only [isPath, Bool.and_eq_true, List.length_map] at hpath
              have := of_decide_eq_true hpath.1
              omega
            refine ed_is (ed_any (bs := (List.range (kk.length - 1)).map fun n => hasD ds (takeD (n + 1) p.1)) (el_lcR2 (lo := 1) (hi := (kk.length : Int)) (eds_cons (ed_c (.int 1)) (eds_cons (ed_lenQ (ds := kk.map kD) (ed_var rfl (rq.ext (exN e4))) (.inl hp1) |> (ed_is · (by rw [List.length_map]))) eds_nil)) (by omega) (by omega) (by omega) (by omega) _ (by simp) (by omega) (fun x => rfl) fun n H5 e5 hn5 => ?_)) ?_
            · have hlt : n < kk.length - 1 := by omega
              have e45 : Ex H3 H5 := e4.trans e5
              have hv5 : (((List.range (kk.length - 1)).map fun n => hasD ds (takeD (n + 1) p.1)).map V.bl).getD n .non = .bl (hasD ds (takeD (n + 1) p.1)) := by
                simp [hlt]
              rw [hv5]
              intro H6 e6 Q6 q6
              have e36 : Ex H3 H6 := e45.trans e6
              refine ⟨_, rfl, _, rfl, _, rfl, q, kk.map kV, rfl, .inl (.inl (e36 _ _ hq)), fun hwh => ?_, fun _ p6 hp6 => ?_⟩
              · exfalso
                have z := hwh.2
                have e7 : (1 : Int) + (n : Int) = ((n + 1 : Nat) : Int) := by omega
                rw [e7, HT.sIx_nat, List.length_map] at z
                omega
              · have ecut : cutV (kk.map kV) none (some (1 + (n : Int))) = (kk.take (n + 1)).map kV := by
                  have e7 : (1 : Int) + (n : Int) = ((n + 1 : Nat) : Int) := by omega
                  unfold cutV
                  rw [e7, HT.sIx_nat, HT.sIx_none, List.length_map, List.drop_zero, Nat.sub_zero, Nat.min_eq_left (by omega), List.map_take]
                refine ⟨_, rfl, a, _, rfl, .inr ⟨kvs, kk.take (n + 1), p6, .inr ⟨od, ?_⟩, rfl, by rw [ecut]; exact upd_same, rfl⟩, ?_⟩
                · rw [upd_ne (ne_of_none (e36 _ _ aL) hp6)]
                  exact e36 _ _ aL
                · have := q6 (upd H6 p6 (.tup (cutV (kk.map kV) none (some (1 + (n : Int)))))) (Ex.new hp6)
                  have e8 : hasD ds (takeD (n + 1) p.1) = (valV kvs (kk.take (n + 1))).isSome := by
                    rw [hp1, ← has_key hk]
                    simp only [takeD, hasD, List.map_take]
                  rw [← e8]
                  exact this
            · rw [List.any_map]
              unfold aboveD
              rw [hlen]
              rfl
          · exact ret H5 (e4.trans e5) (by simp only [okEntry, hb4, hb5, Bool.not_true, Bool.and_false])
          · refine ⟨⟨_, _, rfl⟩, (e2.trans e4).trans e5, fun j p' hj hp' => ?_⟩
            rcases Nat.lt_succ_iff_lt_or_eq.mp hj with hj | rfl
            · exact hall j p' hj hp'
            · rw [hp] at hp'
              cases hp'
              simp only [okEntry, hb4, hb5, Bool.not_false, Bool.and_self]
      · rintro σ' H2 ⟨⟨o1, o2, rfl⟩, e2, hall⟩
        refine ⟨e2 _ _ hL, k _ _ (back e2) ?_⟩
        have hlen : ds.length = kvs.length := by
          have := congrArg List.length hk
          simpa using this
        have : isState (.dict ds) = true := by
          show ds.all (okEntry ds) = true
          rw [List.all_eq_true]
          intro p hp
          obtain ⟨j, hj, e⟩ := List.getElem_of_mem hp
          exact hall j p (by omega) (by rw [← e]; exact List.getElem?_eq_getElem hj)
        show R _ _ (.bool (isState (.dict ds)))
        rw [this]
        exact .bl true
    | @dK a kvs ds ha hn hk hv =>
      refine ⟨a, _, ha, trivial, fun od => ?_⟩
      generalize hHL : upd H1 a (.frz od (.dK kvs)) = HL
      have hL : HL a = some (.frz od (.dK kvs)) := by rw [← hHL]; exact upd_same
      have back : ∀ {H2 : Hp}, Ex HL H2 → Same H (upd H2 a (.dK kvs)) := fun {H2} e2 b o hb => by
        by_cases z : b = a
        · subst z
          rw [upd_same]
          exact (ha.symm.trans (e1 _ _ hb))
        · rw [upd_ne z]
          refine e2 _ _ ?_
          rw [← hHL, upd_ne z]
          exact e1 _ _ hb
      refine ⟨_, rfl, a, od, rfl, .inl ⟨kvs, hL, ?_⟩⟩
      refine for_it (walk_keys (d := a) (o := od) (kvs := kvs)) (fun i σ' H' => i = 0 ∧ σ' = [some (.ref a), none, none] ∧ Ex HL H') ⟨rfl, rfl, Ex.refl _⟩ (fun i σ' H' _ h => h.2.2 _ _ hL) ?_ ?_
      · rintro i x σ' H2 H3 hi ⟨rfl, rfl, e2⟩ ⟨rfl, kk, vv, hkv, rfl⟩
        have rq : R H3 (kV kk) (kD kk) := by
          cases kk with
          | inl i => exact .int i
          | inr x => exact .str x (hn.1 (Sum.inr x, vv) (List.mem_of_getElem? hkv) x rfl)
        have np : isPath (kD kk) = false := by cases kk <;> rfl
        show tSeq _ _ _ [some (.ref a), some (kV kk), none] H3
        refine Evl.q_when (b := true) (Evl.et_is (Evl.et_or (a := true) (b := true) (Evl.et_is (Evl.et_not (et_b (ed_call (d := .bool false) (eds_cons (ed_var rfl rq) eds_nil) rfl (by show PyData.bool (isPath (kD kk)) = _; rw [np])))) rfl) (fun z => by cases z)) rfl) (fun _ H4 e4 => ?_) (fun z => by cases z)
        refine ⟨e4 _ _ (e2 _ _ hL), k _ _ (back (e2.trans e4)) ?_⟩
        have hd0 : ∃ p r, ds = p :: r ∧ p.1 = kD kk := by
          cases ds with
          | nil =>
            have := congrArg List.length hk
            simp at this
            rw [this] at hkv
            simp at hkv
          | cons p r =>
            refine ⟨p, r, rfl, ?_⟩
            have h0 : (kvs.map fun kv => kD kv.1)[0]? = some (kD kk) := by rw [List.getElem?_map, hkv]; rfl
            rw [← hk] at h0
            simpa using h0
        obtain ⟨p, r, rfl, hp⟩ := hd0
        have : isState (.dict (p :: r)) = false := by
          show ((p :: r).all (okEntry (p :: r))) = false
          have h0 : okEntry (p :: r) p = false := by
            unfold okEntry
            rw [hp, np]
            rfl
          rw [List.all_cons, h0, Bool.false_and]
        show R _ _ (.bool (isState (.dict (p :: r))))
        rw [this]
        exact .bl false
      · rintro σ' H2 ⟨hn0, rfl, e2⟩
        refine ⟨e2 _ _ hL, k _ _ (back e2) ?_⟩
        have hd0 : ds = [] := by
          have := congrArg List.length hk
          simp only [List.length_map] at this
          exact List.length_eq_zero_iff.mp (by omega)
        subst hd0
        exact .bl true
    | _ => simp [isDict] at hb
end
end Lk
set_option Elab.async false
set_option linter.all false
set_option maxRecDepth 100000
set_option maxHeartbeats 4000000
namespace Lk
open PySem PySem.Spec PyProof.Rows L2 HotX L2H LamX
open Evl (Ev EvL EvA EvT Ex)
section
variable {K : PySem.W.Frag} {σ : St} {H H' : Hp} {ta tb te : TE} {tr : TA} {d e : PyData} {ds : List PyData} {v : V} {b c : Bool} {i j : Int} {D : Ends} {tz : TS} {E : XK} {C : Addr}
theorem q_need (h : EvD te σ H (.bool b)) (h1 : b = true → ∀ H1, Ex H H1 → tz D σ H1) (h2 : b = false → ∀ H1, Ex H H1 → E (.ref C) none H1) : tSeq (tDrop (tCall (spNeed C) [] E (tCons te tNil))) tz D σ H :=
  h.vb H (Ex.refl H) _ fun H1 e1 => ⟨b, rfl, fun z => h1 z H1 e1, fun z => h2 z H1 e1⟩
theorem s_need (h : EvD te σ H (.bool b)) (h1 : b = true → ∀ H1, Ex H H1 → D.nx σ H1) (h2 : b = false → ∀ H1, Ex H H1 → E (.ref C) none H1) : tDrop (tCall (spNeed C) [] E (tCons te tNil)) D σ H :=
  h.vb H (Ex.refl H) _ fun H1 e1 => ⟨b, rfl, fun z => h1 z H1 e1, fun z => h2 z H1 e1⟩
/-- x == y of two texts, of two ints -/
theorem ed_eqS {x y : Str} (h1 : EvD ta σ H (.str x)) (h2 : EvD tb σ H (.str y)) : EvD (tOp rEq ta tb) σ H (.bool (decide (x = y))) :=
  Ev.db (Evl.ev_is (Evl.ev_op h1.ts h2.ts (Evl.rv_eq rfl)) (by simp))
theorem ed_eqI (h1 : EvD ta σ H (.int i)) (h2 : EvD tb σ H (.int j)) : EvD (tOp rEq ta tb) σ H (.bool (decide (i = j))) :=
  Ev.db (Evl.ev_is (Evl.ev_op h1.ti h2.ti (Evl.rv_eq rfl)) (by simp))
/-- z in (a, b, ..), texts -/
theorem ed_inS {z : Str} {ws : List Str} (h1 : EvD ta σ H (.str z)) (h2 : Evl.EvU tb σ H (ws.map V.str)) : EvD (tOp (rIn K false) ta tb) σ H (.bool (decide (z ∈ ws))) :=
  Ev.db (Evl.ev_is (Evl.ev_inU h1.ts h2 rfl (by simp [flatV])) (by
    congr 1
    unfold inV
    rw [List.any_map]
    rw [Bool.eq_iff_iff, List.any_eq_true, decide_eq_true_iff]
    constructor
    · rintro ⟨y, hy, e⟩
      have e' : y = z := eq_of_beq (show (y == z) = true from e)
      rw [← e']
      exact hy
    · intro hz
      exact ⟨z, hz, show (z == z) = true from beq_self_eq_true z⟩))
end
/-! ### deeds by their form -/
def deedWords : List Str := ["set", "add", "drop", "move", "put"]
def lenW (z : Str) : Option Int := if z = "set" then some 3 else if z = "add" then some 3 else if z = "drop" then some 2 else if z = "move" then some 3 else none
/-- the dict of lengths -/
structure Lens (K : PySem.W.Frag) (w : World) (mg : Str → Option Value) (aL : Addr) : Prop where
  g : mg "LENGTHS" = some (.ref aL)
  kd : ∃ es n, KDict K w aL es n
  at_ : ∀ z ∈ deedWords, ∃ r : Option Value, PySem.W.nsIn K aL z = some r ∧ r.isSome = (lenW z).isSome ∧ ∀ n, lenW z = some n → ∃ u, r = some u ∧ RelV (.int n) u
def third : List PyData → PyData
  | _ :: _ :: d :: _ => d
  | _ => .none
def deedOk (z : Str) (p : PyData) (r : List PyData) : Bool :=
  (decide ((((r.length + 2 : Nat)) : Int) = (lenW z).getD 0) && (isPath p && !PyData.eqv p (.tuple []))) && ((!decide (z ∈ (["set", "add"] : List Str)) || isNumber 1000000000 (r.headD .none)) && (!decide (z = "move") || (isPath (r.headD .none) && !PyData.eqv (r.headD .none) (.tuple []))))
def needDeed : PyData → Bool
  | .tuple (.str z :: p :: r) => (lenW z).isSome && deedOk z p r
  | _ => false
def headB : PyData → Bool
  | .tuple (.str z :: _ :: _) => (lenW z).isSome
  | _ => false
def headOk (d : PyData) : Prop := ∀ z r, d = .tuple (.str z :: r) → z ∈ deedWords
def spDeed (C : Addr) : Sp := fun vs H Q E => ∃ v d, vs = [v] ∧ R H v d ∧ headOk d ∧ (needDeed d = true → ∀ H', Same H H' → Q .non H') ∧ (needDeed d = false → ∀ H', Same H H' → E (.ref C) none H')
theorem shaped_nil : SeqAt.shaped (.tuple []) = true := by decide +kernel
section
variable {P : Program} {w : World} {K : PySem.W.Frag} {mg : Str → Option Value} {base : Heap}
theorem scNeedDeed : FnScope ["deed"] ["deed"] (defScope sNeedDeed) := ⟨rfl, rfl, rfl, by decide +kernel, rfl, by decide +kernel, by decide +kernel⟩
theorem ok_needDeed {f C aL : Addr} {fd : FuncData} (F : L2.Fun K "need_deed" "need_deed" sNeedDeed f fd) (hm : mg "need_deed" = some (.ref f)) (hb : Binds K fd ["deed"] []) (T : Tx K mg) (L : Lens K w mg aL) (D0 : Df P w K mg base "need" 1 ["good"] (spNeed C))
    (D2 : Df P w K mg base "is_path" 2 ["thing"] (spF 1 (f1 isPath))) (D1 : Df P w K mg base "is_number" 1 ["thing", "most"] spNumber) : Df P w K mg base "need_deed" 3 ["deed"] (spDeed C) := by
  refine df_of F hm hb scNeedDeed (fun vs H Q E h => by obtain ⟨_, _, rfl, _⟩ := h; rfl) (fun cdv A outer s H vs Q E hr h => ?_)
  obtain ⟨v, d, rfl, rd, hh, k1, k2⟩ := h
  obtain ⟨es, n, kd⟩ := L.kd
  have tk := L2N.takes_of (X := cxOf (L2N.CX P w) P w K mg base ["deed"] "need_deed" (defScope sNeedDeed) f cdv A outer s H E) (E := E) (E₁ := fun e' s'' => L2N.CX P w outer H s E e' s'') rfl rfl rfl rfl
  refine ⟨_, pss_cons (ps_expr (pe_df D0 hr (by decide) (by rfl) (taken tk fun _ _ _ _ h => h) (pa_cons (pe_and (pe_callB (call_isD (T := "tuple")) (by rfl) T.isi boot_isinstance (pa_cons (pv 0) (pa_cons (pe_bltn (v := .ty "tuple") (by rfl) T.tup boot_tuple rfl) pa_nil)))
      (pe_and (pe_cmpR op_gt (pe_callB call_len_seq (by rfl) T.len PySem.boot_len (pa_cons (pv 0) pa_nil)) pe_int (nomark _))
      (pe_and (pe_callB (call_isD (T := "str")) (by rfl) T.isi boot_isinstance (pa_cons (pe_ix ix_tup (pv 0) pe_int (fun _ _ => rfl)) (pa_cons (pe_bltn (v := .ty "str") (by rfl) T.str boot_str rfl) pa_nil)))
      (pe_one (pe_cmpR (op_in_kd kd) (pe_ix ix_tup (pv 0) pe_int (fun _ _ => rfl)) (C8.pe_gc (v := .ref aL) (by rfl) ⟨_, L.g, rfl⟩) rfl))))) pa_nil)))
    (pss_cons (ps_expr (pe_df D0 hr (by decide) (by rfl) (taken tk fun _ _ _ _ h => h) (pa_cons (pe_and (pe_cmpR op_eq (pe_callB call_len_seq (by rfl) T.len PySem.boot_len (pa_cons (pv 0) pa_nil)) (pe_ix ix_kdict (C8.pe_gc (v := .ref aL) (by rfl) ⟨_, L.g, rfl⟩) (pe_ix ix_tup (pv 0) pe_int (fun _ _ => rfl)) (fun _ _ => rfl)) (nomark _))
      (pe_and (pe_df D2 hr (by decide) (by rfl) passN (pa_cons (pe_ix ix_tup (pv 0) pe_int (fun _ _ => rfl)) pa_nil))
      (pe_one (pe_cmpR (op_neD hr.units) (pe_ix ix_tup (pv 0) pe_int (fun _ _ => rfl)) (pe_tup pa_nil) (nomark _))))) pa_nil)))
    (pss_cons (ps_if (pt_cmpR op_in_seq (pe_ix ix_tup (pv 0) pe_int (fun _ _ => rfl)) (pe_tup (pa_cons pe_str (pa_cons pe_str pa_nil))) rfl)
      (pss_one (ps_expr (pe_df D0 hr (by decide) (by rfl) (taken tk fun _ _ _ _ h => h) (pa_cons (pe_df D1 hr (by decide) (by rfl) passN (pa_cons (pe_ix ix_tup (pv 0) pe_int (fun _ _ => rfl)) (pa_cons (C8.pe_gc (by rfl) T.mworth) pa_nil))) pa_nil)))) pss_nil)
    (pss_one (ps_if (pt_cmpR op_eq (pe_ix ix_tup (pv 0) pe_int (fun _ _ => rfl)) pe_str (nomark _))
      (pss_one (ps_expr (pe_df D0 hr (by decide) (by rfl) (taken tk fun _ _ _ _ h => h) (pa_cons (pe_and (pe_df D2 hr (by decide) (by rfl) passN (pa_cons (pe_ix ix_tup (pv 0) pe_int (fun _ _ => rfl)) pa_nil))
        (pe_one (pe_cmpR (op_neD hr.units) (pe_ix ix_tup (pv 0) pe_int (fun _ _ => rfl)) (pe_tup pa_nil) (nomark _)))) pa_nil)))) pss_nil)))), ?_⟩
  refine q_need (b := headB d) ?g1 (fun hb H1 e1 => ?_) (fun hb H1 e1 => ?_)
  case g1 =>
    refine ed_is (ed_and (c := headB d) (ed_isi (ed_var rfl rd) (kit_tup d)) fun hs => ?_) (by cases d <;> simp [isTup, headB])
    cases rd with
    | @tup a xs ds hp rs' =>
      have rt : R H (.ref a) (.tuple ds) := .tup hp rs'
      refine ed_is (ed_and (c := headB (.tuple ds)) (ed_I0 (i := (ds.length : Int)) (j := 1) (ed_lenQ (ed_var rfl rt) (.inl rfl)) (ed_c (.int 1)) (.bl _)) fun hlen => ?_) ?_
      · have hl : 1 < ds.length := by
          have := of_decide_eq_true hlen
          omega
        match ds, hl, rt with
        | x :: p :: r, _, rt =>
          refine ed_is (ed_and (c := headB (.tuple (x :: p :: r))) (ed_isi (ed_ixT (k := 0) (ed_var rfl rt) (ed_c (.int 0)) rfl) (kit_str x)) fun hstr => ?_) (by cases x <;> simp [isStr, headB])
          cases x with
          | str z =>
            obtain ⟨rr, e1, e2, _⟩ := L.at_ z (hh z _ rfl)
            refine fun H1 e Q1 q => (ed_ixT (K := K) (k := 0) (d := .str z) (ed_var (k := 0) (v := .ref a) rfl rt) (ed_c (.int 0)) rfl).ts H1 e _ fun H2 e3 => ⟨z, rr, rfl, rfl, e1, q _ H2 e3 ?_⟩
            rw [e2]
            exact .bl _
          | _ => cases hstr
      · match ds with
        | [] => rfl
        | [x] => cases x <;> rfl
        | _ :: _ :: _ =>
          show PyData.bool (decide ((1 : Int) < ((_ + 1 + 1 : Nat) : Int)) && _) = _
          rw [decide_eq_true (by omega), Bool.true_and]
    | _ => cases hs
  · -- the head is right
    cases rd with
    | @tup a xs ds hp rs' =>
      match ds, hb, hp, rs' with
      | .str z :: p :: r, hb, hp, rs' =>
        have rt : R H (.ref a) (.tuple (.str z :: p :: r)) := .tup hp rs'
        have rt1 : R H1 (.ref a) (.tuple (.str z :: p :: r)) := rt.ext (exN e1)
        obtain ⟨rr, f1, f2, f3⟩ := L.at_ z (hh z _ rfl)
        have hz : (lenW z).isSome = true := hb
        obtain ⟨m, hm'⟩ := Option.isSome_iff_exists.mp hz
        obtain ⟨u0, hu0, ru0⟩ := f3 m hm'
        have nd : needDeed (.tuple (.str z :: p :: r)) = deedOk z p r := by
          show ((lenW z).isSome && deedOk z p r) = _
          rw [hz, Bool.true_and]
        refine q_need (b := decide ((((r.length + 2 : Nat)) : Int) = (lenW z).getD 0) && (isPath p && !PyData.eqv p (.tuple []))) (ed_and (ed_is (ed_eqI (i := ((r.length + 2 : Nat) : Int)) (j := m) (ed_is (ed_lenQ (ed_var rfl rt1) (.inl rfl)) rfl) ?g2) (by rw [hm']; rfl)) fun _ =>
          ed_and (ed_call (eds_cons (ed_ixT (k := 1) (ed_var rfl rt1) (ed_c (.int 1)) rfl) eds_nil) rfl rfl) fun hpa => ed_ne (ed_ixT (k := 1) (ed_var rfl rt1) (ed_c (.int 1)) rfl) (ed_tup eds_nil (by decide)) (shaped_path hpa) shaped_nil) (fun hb2 H2 e2 => ?_) (fun hb2 H2 e2 => ?_)
        case g2 =>
          refine fun H5 e5 Q5 q5 => (ed_ixT (K := K) (k := 0) (d := .str z) (ed_var (k := 0) (v := .ref a) rfl rt1) (ed_c (.int 0)) rfl).ts H5 e5 _ fun H6 e6 => ⟨aL, z, .int m, rfl, rfl, ⟨es, n, u0, kd.at_, kd.lit, f1.trans (congrArg some hu0), ru0⟩, q5 _ H6 e6 (.int m)⟩
        · have rt2 := rt1.ext (exN e2)
          have hlen : (((r.length + 2 : Nat)) : Int) = m := by
            have h1 := (Bool.and_eq_true .. ▸ hb2).1
            have h2 := of_decide_eq_true h1
            rw [hm'] at h2
            exact h2
          have h01 : Ex H H2 := e1.trans e2
          have m3 : z ∈ (["set", "add"] : List Str) ∨ z = "move" → ∃ x r', r = x :: r' := fun hz3 => by
            have hm3 : m = 3 := by
              have : lenW z = some 3 := by
                rcases hz3 with h | h
                · simp only [List.mem_cons, List.not_mem_nil, or_false] at h
                  rcases h with h | h <;> rw [h] <;> decide +kernel
                · rw [h]; decide +kernel
              rw [hm'] at this
              exact Option.some.inj this
            match r, hlen with
            | [], h => simp at h; omega
            | x :: r', _ => exact ⟨x, r', rfl⟩
          refine Evl.q_when (b := decide (z ∈ (["set", "add"] : List Str))) (Evl.et_test (ed_inS (ws := ["set", "add"]) (ed_ixT (k := 0) (ed_var rfl rt2) (ed_c (.int 0)) rfl) (Evl.eu_tup (Evl.ea_cons Evl.ev_c (Evl.ea_cons Evl.ev_c Evl.ea_nil)) (by decide))).vb) (fun hb3 H3 e3 => ?_) (fun hb3 H3 e3 => ?_)
          · obtain ⟨x, r', rfl⟩ := m3 (.inl (of_decide_eq_true hb3))
            have rt3 := rt2.ext (exN e3)
            refine s_need (b := isNumber 1000000000 x) (ed_num (eds_cons (ed_ixT (k := 2) (ed_var rfl rt3) (ed_c (.int 2)) rfl) (eds_cons (ed_c (.int _)) eds_nil))) (fun hb4 H4 e4 => ?_) (fun hb4 H4 e4 => ?_)
            · have hmv : decide (z = "move") = false := by
                apply decide_eq_false
                intro hz4
                rw [hz4] at hb3
                revert hb3
                decide +kernel
              refine Evl.s_when (b := decide (z = "move")) (Evl.et_test (ed_eqS (ed_ixT (k := 0) (ed_var rfl (rt3.ext (exN e4))) (ed_c (.int 0)) rfl) (ed_c (.str _ (by decide +kernel)))).vb) (fun hb5 => absurd hb5 (by rw [hmv]; decide)) (fun hb5 H5 e5 => ?_)
              refine k1 ?_ H5 (((h01.trans e3).trans e4).trans e5)
              rw [nd]
              unfold deedOk
              rw [hb2, hb3, hb5]
              simp [hb4]
            · refine k2 ?_ H4 ((h01.trans e3).trans e4)
              rw [nd]
              unfold deedOk
              rw [hb2, hb3]
              simp [hb4]
          · have rt3 := rt2.ext (exN e3)
            refine Evl.s_when (b := decide (z = "move")) (Evl.et_test (ed_eqS (ed_ixT (k := 0) (ed_var rfl rt3) (ed_c (.int 0)) rfl) (ed_c (.str _ (by decide +kernel)))).vb) (fun hb5 H5 e5 => ?_) (fun hb5 H5 e5 => ?_)
            · obtain ⟨x, r', rfl⟩ := m3 (.inr (of_decide_eq_true hb5))
              have rt5 := rt3.ext (exN e5)
              refine s_need (b := isPath x && !PyData.eqv x (.tuple [])) (ed_and (ed_call (eds_cons (ed_ixT (k := 2) (ed_var rfl rt5) (ed_c (.int 2)) rfl) eds_nil) rfl rfl) fun hpa => ed_ne (ed_ixT (k := 2) (ed_var rfl rt5) (ed_c (.int 2)) rfl) (ed_tup eds_nil (by decide)) (shaped_path hpa) shaped_nil) (fun hb6 H6 e6 => ?_) (fun hb6 H6 e6 => ?_)
              · refine k1 ?_ H6 (((h01.trans e3).trans e5).trans e6)
                rw [nd]
                unfold deedOk
                rw [hb2, hb3, hb5]
                simpa using hb6
              · refine k2 ?_ H6 (((h01.trans e3).trans e5).trans e6)
                rw [nd]
                unfold deedOk
                rw [hb2, hb3, hb5]
                simpa using hb6
            · refine k1 ?_ H5 ((h01.trans e3).trans e5)
              rw [nd]
              unfold deedOk
              rw [hb2, hb3, hb5]
              rfl
        · refine k2 ?_ H2 (e1.trans e2)
          rw [nd]
          unfold deedOk
          rw [hb2, Bool.false_and]
      | [], hb, _, _ => cases hb
      | [_], hb, _, _ => simp [headB] at hb
      | .none :: _ :: _, hb, _, _ => cases hb
      | .bool _ :: _ :: _, hb, _, _ => cases hb
      | .int _ :: _ :: _, hb, _, _ => cases hb
      | .list _ :: _ :: _, hb, _, _ => cases hb
      | .tuple _ :: _ :: _, hb, _, _ => cases hb
      | .dict _ :: _ :: _, hb, _, _ => cases hb
    | _ => cases hb
  · refine k2 ?_ H1 e1
    cases d with
    | tuple ds =>
      match ds, hb with
      | .str z :: p :: r, hb =>
        show ((lenW z).isSome && deedOk z p r) = false
        rw [show (lenW z).isSome = false from hb, Bool.false_and]
      | [], _ => rfl
      | [x], _ => cases x <;> rfl
      | .none :: _ :: _, _ => rfl
      | .bool _ :: _ :: _, _ => rfl
      | .int _ :: _ :: _, _ => rfl
      | .list _ :: _ :: _, _ => rfl
      | .tuple _ :: _ :: _, _ => rfl
      | .dict _ :: _ :: _, _ => rfl
    | _ => rfl
end
end Lk
set_option Elab.async false
set_option linter.all false
set_option maxRecDepth 100000
set_option maxHeartbeats 4000000
namespace Lk
open PySem PySem.Spec PyProof.Rows L2 HotX L2H LamX
open Evl (Ev EvL EvA EvT Ex)
section
variable {K : PySem.W.Frag} {σ : St} {H H' : Hp} {te : TE} {d : PyData} {D : Ends} {tz : TS} {E : XK} {C : Addr} {f : PyData → Bool}
theorem q_ref (h : EvD te σ H d) (h1 : f d = true → ∀ H1, Ex H H1 → tz D σ H1) (h2 : f d = false → ∀ H1, Ex H H1 → E (.ref C) none H1) : tSeq (tDrop (tCall (spRef C f) [] E (tCons te tNil))) tz D σ H :=
  h H (Ex.refl H) _ fun v H1 e1 r => ⟨v, d, rfl, r, fun z H2 s2 => h1 z H2 (e1.trans s2), fun z H2 s2 => h2 z H2 (e1.trans s2)⟩
theorem s_ref (h : EvD te σ H d) (h1 : f d = true → ∀ H1, Ex H H1 → D.nx σ H1) (h2 : f d = false → ∀ H1, Ex H H1 → E (.ref C) none H1) : tDrop (tCall (spRef C f) [] E (tCons te tNil)) D σ H :=
  h H (Ex.refl H) _ fun v H1 e1 r => ⟨v, d, rfl, r, fun z H2 s2 => h1 z H2 (e1.trans s2), fun z H2 s2 => h2 z H2 (e1.trans s2)⟩
theorem q_deed (h : EvD te σ H d) (hh : headOk d) (h1 : needDeed d = true → ∀ H1, Ex H H1 → tz D σ H1) (h2 : needDeed d = false → ∀ H1, Ex H H1 → E (.ref C) none H1) : tSeq (tDrop (tCall (spDeed C) [] E (tCons te tNil))) tz D σ H :=
  h H (Ex.refl H) _ fun v H1 e1 r => ⟨v, d, rfl, r, hh, fun z H2 s2 => h1 z H2 (e1.trans s2), fun z H2 s2 => h2 z H2 (e1.trans s2)⟩
end
/-- refused, for its state, then for its deed -/
def spDone (CS CD : Addr) : Sp := fun vs H Q E => ∃ v w d e, vs = [v, w] ∧ R H v d ∧ R H w e ∧ headOk e ∧ (isState d = false → ∀ H', Same H H' → E (.ref CS) none H') ∧ (isState d = true → needDeed e = false ∧ ∀ H', Same H H' → E (.ref CD) none H')
/-- refused, for one of two states -/
def spTwo (CS : Addr) : Sp := fun vs H Q E => ∃ v w d e, vs = [v, w] ∧ R H v d ∧ R H w e ∧ (isState d = true → isState e = false) ∧ ∀ H', Same H H' → E (.ref CS) none H'
section
variable {P : Program} {w : World} {K : PySem.W.Frag} {mg : Str → Option Value} {base : Heap}
theorem scNeedState : FnScope ["state"] ["state"] (defScope sNeedState) := ⟨rfl, rfl, rfl, by decide +kernel, rfl, by decide +kernel, by decide +kernel⟩
theorem ok_needState {f C : Addr} {fd : FuncData} (F : L2.Fun K "need_state" "need_state" sNeedState f fd) (hm : mg "need_state" = some (.ref f)) (hb : Binds K fd ["state"] []) (X : Xc K mg "BadState" C) (D3 : Df P w K mg base "is_state" 3 ["state"] (spF 1 (f1 isState))) :
    Df P w K mg base "need_state" 4 ["state"] (spRef C isState) := by
  refine df_of F hm hb scNeedState (fun vs H Q E h => by obtain ⟨_, _, rfl, _⟩ := h; rfl) (fun cdv A outer s H vs Q E hr h => ?_)
  obtain ⟨v, d, rfl, rd, k1, k2⟩ := h
  refine ⟨_, pss_one (ps_if (pt_not (pt_val (pe_df D3 hr (Nat.le_refl _) (by rfl) passN (pa_cons (pv 0) pa_nil)))) (pss_one (L2N.ps_raise rfl (L2N.takes_of rfl rfl rfl rfl) (L2N.pmk_own PySem.F.excBase_ValueError X.x X.g X.kp (raises_own X.sb X.ty) (by rfl)))) pss_nil), ?_⟩
  refine Evl.s_if (b := !isState d) (Evl.et_not (et_b (ed_call (eds_cons (ed_var rfl rd) eds_nil) rfl rfl))) (fun hb H1 e1 => ?_) (fun hb H1 e1 => ?_)
  · exact k2 (by simpa using hb) H1 e1
  · exact k1 (by simpa using hb) H1 e1
theorem scDone : FnScope ["state", "deed"] ["state", "deed"] (defScope sDone) := ⟨rfl, rfl, rfl, by decide +kernel, rfl, by decide +kernel, by decide +kernel⟩
theorem ok_done {f CS CD : Addr} {fd : FuncData} (F : L2.Fun K "done" "done" sDone f fd) (hm : mg "done" = some (.ref f)) (hb : Binds K fd ["state", "deed"] []) (D4 : Df P w K mg base "need_state" 4 ["state"] (spRef CS isState)) (D3 : Df P w K mg base "need_deed" 3 ["deed"] (spDeed CD)) :
    Df P w K mg base "done" 5 ["state", "deed"] (spDone CS CD) := by
  refine df_of F hm hb scDone (fun vs H Q E h => by obtain ⟨_, _, _, _, rfl, _⟩ := h; rfl) (fun cdv A outer s H vs Q E hr h => ?_)
  obtain ⟨v, u, d, e, rfl, rd, re, hh, k1, k2⟩ := h
  have tk := L2N.takes_of (X := cxOf (L2N.CX P w) P w K mg base ["state", "deed"] "done" (defScope sDone) f cdv A outer s H E) (E := E) (E₁ := fun e' s'' => L2N.CX P w outer H s E e' s'') rfl rfl rfl rfl
  refine ⟨_, pss_cons (ps_expr (pe_df D4 hr (by decide) (by rfl) (taken tk fun _ _ _ _ h => h) (pa_cons (pv 0) pa_nil))) (pss_cons (ps_expr (pe_df D3 hr (by decide) (by rfl) (taken tk fun _ _ _ _ h => h) (pa_cons (pv 1) pa_nil))) pss_never), ?_⟩
  refine q_ref (ed_var rfl rd) (fun z H1 e1 => ?_) (fun z H1 e1 => k1 z H1 e1)
  obtain ⟨z2, k3⟩ := k2 z
  exact q_deed (ed_var rfl (re.ext (exN e1))) hh (fun z3 => absurd z3 (by rw [z2]; exact Bool.false_ne_true)) (fun _ H2 e2 => k3 H2 (e1.trans e2))
theorem scChanged : FnScope ["state", "other", "places", "path"] ["state", "other"] (defScope sChanged) := ⟨rfl, rfl, rfl, by decide +kernel, rfl, by decide +kernel, by decide +kernel⟩
theorem ok_changed {f CS : Addr} {fd : FuncData} (F : L2.Fun K "changed" "changed" sChanged f fd) (hm : mg "changed" = some (.ref f)) (hb : Binds K fd ["state", "other"] []) (D4 : Df P w K mg base "need_state" 4 ["state"] (spRef CS isState)) :
    Df P w K mg base "changed" 5 ["state", "other"] (spTwo CS) := by
  refine df_of F hm hb scChanged (fun vs H Q E h => by obtain ⟨_, _, _, _, rfl, _⟩ := h; rfl) (fun cdv A outer s H vs Q E hr h => ?_)
  obtain ⟨v, u, d, e, rfl, rd, re, k1, k2⟩ := h
  have tk := L2N.takes_of (X := cxOf (L2N.CX P w) P w K mg base ["state", "other", "places", "path"] "changed" (defScope sChanged) f cdv A outer s H E) (E := E) (E₁ := fun e' s'' => L2N.CX P w outer H s E e' s'') rfl rfl rfl rfl
  refine ⟨_, pss_cons (ps_expr (pe_df D4 hr (by decide) (by rfl) (taken tk fun _ _ _ _ h => h) (pa_cons (pv 0) pa_nil))) (pss_cons (ps_expr (pe_df D4 hr (by decide) (by rfl) (taken tk fun _ _ _ _ h => h) (pa_cons (pv 1) pa_nil))) pss_never), ?_⟩
  refine q_ref (ed_var rfl rd) (fun z H1 e1 => ?_) (fun z H1 e1 => k2 H1 e1)
  exact q_ref (ed_var rfl (re.ext (exN e1))) (fun z3 => absurd z3 (by rw [k1 z]; exact Bool.false_ne_true)) (fun _ H2 e2 => k2 H2 (e1.trans e2))
theorem scBetween : FnScope ["state", "other", "places", "gone", "path"] ["state", "other"] (defScope sBetween) := ⟨rfl, rfl, rfl, by decide +kernel, rfl, by decide +kernel, by decide +kernel⟩
theorem ok_between {f CS : Addr} {fd : FuncData} (F : L2.Fun K "between" "between" sBetween f fd) (hm : mg "between" = some (.ref f)) (hb : Binds K fd ["state", "other"] []) (D5 : Df P w K mg base "changed" 5 ["state", "other"] (spTwo CS)) :
    Df P w K mg base "between" 6 ["state", "other"] (spTwo CS) := by
  refine df_of F hm hb scBetween (fun vs H Q E h => by obtain ⟨_, _, _, _, rfl, _⟩ := h; rfl) (fun cdv A outer s H vs Q E hr h => ?_)
  obtain ⟨v, u, d, e, rfl, rd, re, k1, k2⟩ := h
  have tk := L2N.takes_of (X := cxOf (L2N.CX P w) P w K mg base ["state", "other", "places", "gone", "path"] "between" (defScope sBetween) f cdv A outer s H E) (E := E) (E₁ := fun e' s'' => L2N.CX P w outer H s E e' s'') rfl rfl rfl rfl
  refine ⟨_, pss_cons (ps_set (i := 2) scBetween.nd rfl (Or.inl rfl) (pe_df D5 hr (by decide) (by rfl) (taken tk fun _ _ _ _ h => h) (pa_cons (pv 0) (pa_cons (pv 1) pa_nil)))) pss_never, ?_⟩
  exact ⟨_, rfl, _, rfl, v, u, d, e, rfl, rd, re, k1, k2⟩
end
end Lk
set_option Elab.async false
set_option linter.all false
set_option maxRecDepth 100000
set_option maxHeartbeats 4000000
namespace Lk
open PySem PySem.Spec PyProof.Rows L2 HotX L2H LamX
open Evl (Ev EvL EvA EvT Ex EvU)
theorem q_asgD {te : TE} {σ : St} {H : Hp} {d : PyData} {D : Ends} {tz : TS} {i : Nat} (h : EvD te σ H d) (k : ∀ v H1, Ex H H1 → R H1 v d → tz D (σ.set i (some v)) H1) : tSeq (tAsg te (gName i)) tz D σ H := h H (Ex.refl H) _ k
section
variable {P : Program} {w : World} {K : PySem.W.Frag} {mg : Str → Option Value} {base : Heap}
abbrev sNoStates : Stmt := topS 34
theorem scNoStates : FnScope ["found"] [] (defScope sNoStates) := ⟨rfl, rfl, rfl, by decide +kernel, rfl, by decide +kernel, by decide +kernel⟩
def noStates_0 : List PyData := [.none, (.list []), (.dict [(.tuple [], (.int 1))]), (.dict [(.tuple [.str "a"], .none)]), (.dict [(.tuple [.str "a"], (.bool true))]), (.dict [(.tuple [.str "a"], (.int 1000000001))])]
def noStates_1 : List PyData := noStates_0 ++ [(.dict [(.tuple [.str "A"], (.int 1))]), (.dict [(.str "a", (.int 1))]), (.dict [(.tuple [.str "a", .str "a", .str "a", .str "a", .str "a"], (.int 1))])]
def noStates_2 : List PyData := noStates_1 ++ [(.dict [(.tuple [.str "a"], (.int 1)), (.tuple [.str "a", .str "b"], (.int 2))]), (.dict [(.tuple [.str "a", .str "b"], (.int 1)), (.tuple [.str "a", .str "b", .str "c", .str "d"], (.int 2))])]
def noStates_3 : List PyData := noStates_2 ++ [(.dict [(.tuple [.str "abcdefg"], (.int 1))]), (.dict [(.tuple [.str "a", .int 1], (.int 2))]), (.int 5)]
theorem ok_NoStates {f : Addr} {fd : FuncData} (F : L2.Fun K "_law_no_states" "_law_no_states" sNoStates f fd) (hm : mg "_law_no_states" = some (.ref f)) (hb : Binds K fd [] []) : Df P w K mg base "_law_no_states" 1 [] (spF 0 fun _ => .list noStates_3) := by
  refine df_of F hm hb scNoStates (spF_len rfl) (fun cdv A outer s H vs Q E hr h => ?_)
  obtain ⟨ds, rs, hl, k⟩ := h
  have e0 : ds = [] := List.length_eq_zero_iff.mp hl
  subst e0
  cases rs
  have hu := hu_of hr
  refine ⟨_, PSs.nox (pss_cons (ps_set (i := 0) scNoStates.nd rfl (Or.inl rfl) (pe_lst (pa_cons pe_non (pa_cons (pe_lst pa_nil) (pa_cons (pe_dispT hu (pps_cons (pe_tup pa_nil) pe_int pps_nil) rfl rfl (fun z => by cases z) (by decide)) (pa_cons (pe_dispT hu (pps_cons (pe_tup (pa_cons pe_str pa_nil)) pe_non pps_nil) rfl rfl (fun z => by cases z) (by decide)) (pa_cons (pe_dispT hu (pps_cons (pe_tup (pa_cons pe_str pa_nil)) pe_bl pps_nil) rfl rfl (fun z => by cases z) (by decide)) (pa_cons (pe_dispT hu (pps_cons (pe_tup (pa_cons pe_str pa_nil)) pe_int pps_nil) rfl rfl (fun z => by cases z) (by decide)) pa_nil))))))))
    (pss_cons (ps_set (i := 0) scNoStates.nd rfl (Or.inl rfl) (pe_op op_cat (pv 0) (pe_lst (pa_cons (pe_dispT hu (pps_cons (pe_tup (pa_cons pe_str pa_nil)) pe_int pps_nil) rfl rfl (fun z => by cases z) (by decide)) (pa_cons (pe_disp (pps_cons pe_str pe_int pps_nil) rfl rfl (fun z => by cases z) (by decide)) (pa_cons (pe_dispT hu (pps_cons (pe_op op_repT (pe_tup (pa_cons pe_str pa_nil)) pe_int) pe_int pps_nil) rfl rfl (fun z => by cases z) (by decide)) pa_nil))))))
    (pss_cons (ps_set (i := 0) scNoStates.nd rfl (Or.inl rfl) (pe_op op_cat (pv 0) (pe_lst (pa_cons (pe_dispT hu (pps_cons (pe_tup (pa_cons pe_str pa_nil)) pe_int (pps_cons (pe_tup (pa_cons pe_str (pa_cons pe_str pa_nil))) pe_int pps_nil)) rfl rfl (fun z => by cases z) (by decide)) (pa_cons (pe_dispT hu (pps_cons (pe_tup (pa_cons pe_str (pa_cons pe_str pa_nil))) pe_int (pps_cons (pe_tup (pa_cons pe_str (pa_cons pe_str (pa_cons pe_str (pa_cons pe_str pa_nil))))) pe_int pps_nil)) rfl rfl (fun z => by cases z) (by decide)) pa_nil)))))
    (pss_one (ps_ret (pe_op op_cat (pv 0) (pe_lst (pa_cons (pe_dispT hu (pps_cons (pe_tup (pa_cons pe_str pa_nil)) pe_int pps_nil) rfl rfl (fun z => by cases z) (by decide)) (pa_cons (pe_dispT hu (pps_cons (pe_tup (pa_cons pe_str (pa_cons pe_int pa_nil))) pe_int pps_nil) rfl rfl (fun z => by cases z) (by decide)) (pa_cons pe_int pa_nil)))))))))), ?_⟩
  refine q_asgD (d := .list noStates_0) (ed_is (ed_lst (eds_cons (ed_c .non) (eds_cons (ed_lst eds_nil (by simp)) (eds_cons (ed_is (ed_dispT (eps_cons (k := []) (v := (.int 1)) (Evl.eu_tup (vs := []) Evl.ea_nil (by decide)) eps_nil) (by decide +kernel) (by decide) (by decide +kernel)) rfl) (eds_cons (ed_is (ed_dispT (eps_cons (k := [Sum.inr "a"]) (v := .non) (Evl.eu_tup (vs := [V.str "a"]) (Evl.ea_cons Evl.ev_c Evl.ea_nil) (by decide)) eps_nil) (by decide +kernel) (by decide) (by decide +kernel)) rfl) (eds_cons (ed_is (ed_dispT (eps_cons (k := [Sum.inr "a"]) (v := (.bl true)) (Evl.eu_tup (vs := [V.str "a"]) (Evl.ea_cons Evl.ev_c Evl.ea_nil) (by decide)) eps_nil) (by decide +kernel) (by decide) (by decide +kernel)) rfl) (eds_cons (ed_is (ed_dispT (eps_cons (k := [Sum.inr "a"]) (v := (.int 1000000001)) (Evl.eu_tup (vs := [V.str "a"]) (Evl.ea_cons Evl.ev_c Evl.ea_nil) (by decide)) eps_nil) (by decide +kernel) (by decide) (by decide +kernel)) rfl) eds_nil)))))) (by simp)) rfl) fun v0 H1 e1 r_found => ?_
  refine q_asgD (d := .list noStates_1) (ed_is (ed_catL (ed_var rfl r_found) (ed_lst (eds_cons (ed_is (ed_dispT (eps_cons (k := [Sum.inr "A"]) (v := (.int 1)) (Evl.eu_tup (vs := [V.str "A"]) (Evl.ea_cons Evl.ev_c Evl.ea_nil) (by decide)) eps_nil) (by decide +kernel) (by decide) (by decide +kernel)) rfl) (eds_cons (ed_dispK (x := "a") (v := (.int 1)) (by decide +kernel) rfl) (eds_cons (ed_is (ed_dispT (eps_cons (k := [Sum.inr "a", Sum.inr "a", Sum.inr "a", Sum.inr "a", Sum.inr "a"]) (v := (.int 1)) (eu_repT (n := 5) (Evl.eu_tup (vs := [V.str "a"]) (Evl.ea_cons Evl.ev_c Evl.ea_nil) (by decide)) (by simp) (by decide) (by decide) (by decide)) eps_nil) (by decide +kernel) (by decide) (by decide +kernel)) rfl) eds_nil))) (by simp)) (by decide +kernel)) rfl) fun v1 H2 e2 r_found => ?_
  refine q_asgD (d := .list noStates_2) (ed_is (ed_catL (ed_var rfl r_found) (ed_lst (eds_cons (ed_is (ed_dispT (eps_cons (k := [Sum.inr "a"]) (v := (.int 1)) (Evl.eu_tup (vs := [V.str "a"]) (Evl.ea_cons Evl.ev_c Evl.ea_nil) (by decide)) (eps_cons (k := [Sum.inr "a", Sum.inr "b"]) (v := (.int 2)) (Evl.eu_tup (vs := [V.str "a", V.str "b"]) (Evl.ea_cons Evl.ev_c (Evl.ea_cons Evl.ev_c Evl.ea_nil)) (by decide)) eps_nil)) (by decide +kernel) (by decide) (by decide +kernel)) rfl) (eds_cons (ed_is (ed_dispT (eps_cons (k := [Sum.inr "a", Sum.inr "b"]) (v := (.int 1)) (Evl.eu_tup (vs := [V.str "a", V.str "b"]) (Evl.ea_cons Evl.ev_c (Evl.ea_cons Evl.ev_c Evl.ea_nil)) (by decide)) (eps_cons (k := [Sum.inr "a", Sum.inr "b", Sum.inr "c", Sum.inr "d"]) (v := (.int 2)) (Evl.eu_tup (vs := [V.str "a", V.str "b", V.str "c", V.str "d"]) (Evl.ea_cons Evl.ev_c (Evl.ea_cons Evl.ev_c (Evl.ea_cons Evl.ev_c (Evl.ea_cons Evl.ev_c Evl.ea_nil)))) (by decide)) eps_nil)) (by decide +kernel) (by decide) (by decide +kernel)) rfl) eds_nil)) (by simp)) (by decide +kernel)) rfl) fun v2 H3 e3 r_found => ?_
  exact s_retD (d := .list noStates_3) (ed_is (ed_catL (ed_var rfl r_found) (ed_lst (eds_cons (ed_is (ed_dispT (eps_cons (k := [Sum.inr "abcdefg"]) (v := (.int 1)) (Evl.eu_tup (vs := [V.str "abcdefg"]) (Evl.ea_cons Evl.ev_c Evl.ea_nil) (by decide)) eps_nil) (by decide +kernel) (by decide) (by decide +kernel)) rfl) (eds_cons (ed_is (ed_dispT (eps_cons (k := [Sum.inr "a", Sum.inl 1]) (v := (.int 2)) (Evl.eu_tup (vs := [V.str "a", V.int 1]) (Evl.ea_cons Evl.ev_c (Evl.ea_cons Evl.ev_c Evl.ea_nil)) (by decide)) eps_nil) (by decide +kernel) (by decide) (by decide +kernel)) rfl) (eds_cons (ed_c (.int 5)) eds_nil))) (by simp)) (by decide +kernel)) rfl) fun v9 H9 e9 r9 => k v9 H9 (((e1.trans e2).trans e3).trans e9) r9
abbrev sNoDeeds : Stmt := topS 35
theorem scNoDeeds : FnScope ["found"] [] (defScope sNoDeeds) := ⟨rfl, rfl, rfl, by decide +kernel, rfl, by decide +kernel, by decide +kernel⟩
def noDeeds_0 : List PyData := [.none, (.tuple []), (.tuple [(.str "set"), (.tuple [(.str "a")])]), (.tuple [(.str "set"), (.tuple []), (.int 1)]), (.tuple [(.str "set"), (.tuple [(.str "a")]), .none])]
def noDeeds_1 : List PyData := noDeeds_0 ++ [(.tuple [(.str "set"), (.tuple [(.str "a")]), (.int 1000000001)]), (.tuple [(.str "put"), (.tuple [(.str "a")]), (.int 1)])]
def noDeeds_2 : List PyData := noDeeds_1 ++ [(.tuple [(.str "add"), (.tuple [(.str "a")]), (.str "1")]), (.tuple [(.str "drop")]), (.tuple [(.str "drop"), (.tuple [])]), (.tuple [(.str "drop"), (.tuple [(.str "a")]), (.int 1)])]
def noDeeds_3 : List PyData := noDeeds_2 ++ [(.tuple [(.str "move"), (.tuple [(.str "a")])]), (.tuple [(.str "move"), (.tuple [(.str "a")]), (.tuple [])])]
def noDeeds_4 : List PyData := noDeeds_3 ++ [(.tuple [(.str "move"), (.tuple [(.str "a")]), (.str "b")]), (.list [(.str "drop"), (.tuple [(.str "a")])]), (.tuple [(.str "drop"), (.list [(.str "a")])]), (.tuple [(.int 5), (.tuple [(.str "a")])])]
def noDeeds_5 : List PyData := noDeeds_4 ++ [(.tuple [(.str "set"), (.tuple [(.str "a")]), (.bool true)]), (.tuple [(.str "add"), (.tuple [(.str "a b")]), (.int 1)])]
theorem ok_NoDeeds {f : Addr} {fd : FuncData} (F : L2.Fun K "_law_no_deeds" "_law_no_deeds" sNoDeeds f fd) (hm : mg "_law_no_deeds" = some (.ref f)) (hb : Binds K fd [] []) : Df P w K mg base "_law_no_deeds" 1 [] (spF 0 fun _ => .list noDeeds_5) := by
  refine df_of F hm hb scNoDeeds (spF_len rfl) (fun cdv A outer s H vs Q E hr h => ?_)
  obtain ⟨ds, rs, hl, k⟩ := h
  have e0 : ds = [] := List.length_eq_zero_iff.mp hl
  subst e0
  cases rs
  have hu := hu_of hr
  refine ⟨_, PSs.nox (pss_cons (ps_set (i := 0) scNoDeeds.nd rfl (Or.inl rfl) (pe_lst (pa_cons pe_non (pa_cons (pe_tup pa_nil) (pa_cons (pe_tup (pa_cons pe_str (pa_cons (pe_tup (pa_cons pe_str pa_nil)) pa_nil))) (pa_cons (pe_tup (pa_cons pe_str (pa_cons (pe_tup pa_nil) (pa_cons pe_int pa_nil)))) (pa_cons (pe_tup (pa_cons pe_str (pa_cons (pe_tup (pa_cons pe_str pa_nil)) (pa_cons pe_non pa_nil)))) pa_nil)))))))
    (pss_cons (ps_set (i := 0) scNoDeeds.nd rfl (Or.inl rfl) (pe_op op_cat (pv 0) (pe_lst (pa_cons (pe_tup (pa_cons pe_str (pa_cons (pe_tup (pa_cons pe_str pa_nil)) (pa_cons pe_int pa_nil)))) (pa_cons (pe_tup (pa_cons pe_str (pa_cons (pe_tup (pa_cons pe_str pa_nil)) (pa_cons pe_int pa_nil)))) pa_nil)))))
    (pss_cons (ps_set (i := 0) scNoDeeds.nd rfl (Or.inl rfl) (pe_op op_cat (pv 0) (pe_lst (pa_cons (pe_tup (pa_cons pe_str (pa_cons (pe_tup (pa_cons pe_str pa_nil)) (pa_cons pe_str pa_nil)))) (pa_cons (pe_tup (pa_cons pe_str pa_nil)) (pa_cons (pe_tup (pa_cons pe_str (pa_cons (pe_tup pa_nil) pa_nil))) (pa_cons (pe_tup (pa_cons pe_str (pa_cons (pe_tup (pa_cons pe_str pa_nil)) (pa_cons pe_int pa_nil)))) pa_nil)))))))
    (pss_cons (ps_set (i := 0) scNoDeeds.nd rfl (Or.inl rfl) (pe_op op_cat (pv 0) (pe_lst (pa_cons (pe_tup (pa_cons pe_str (pa_cons (pe_tup (pa_cons pe_str pa_nil)) pa_nil))) (pa_cons (pe_tup (pa_cons pe_str (pa_cons (pe_tup (pa_cons pe_str pa_nil)) (pa_cons (pe_tup pa_nil) pa_nil)))) pa_nil)))))
    (pss_cons (ps_set (i := 0) scNoDeeds.nd rfl (Or.inl rfl) (pe_op op_cat (pv 0) (pe_lst (pa_cons (pe_tup (pa_cons pe_str (pa_cons (pe_tup (pa_cons pe_str pa_nil)) (pa_cons pe_str pa_nil)))) (pa_cons (pe_lst (pa_cons pe_str (pa_cons (pe_tup (pa_cons pe_str pa_nil)) pa_nil))) (pa_cons (pe_tup (pa_cons pe_str (pa_cons (pe_lst (pa_cons pe_str pa_nil)) pa_nil))) (pa_cons (pe_tup (pa_cons pe_int (pa_cons (pe_tup (pa_cons pe_str pa_nil)) pa_nil))) pa_nil)))))))
    (pss_one (ps_ret (pe_op op_cat (pv 0) (pe_lst (pa_cons (pe_tup (pa_cons pe_str (pa_cons (pe_tup (pa_cons pe_str pa_nil)) (pa_cons pe_bl pa_nil)))) (pa_cons (pe_tup (pa_cons pe_str (pa_cons (pe_tup (pa_cons pe_str pa_nil)) (pa_cons pe_int pa_nil)))) pa_nil))))))))))), ?_⟩
  refine q_asgD (d := .list noDeeds_0) (ed_is (ed_lst (eds_cons (ed_c .non) (eds_cons (ed_tup eds_nil (by simp)) (eds_cons (ed_tup (eds_cons (ed_c (.str _ (by decide +kernel))) (eds_cons (ed_tup (eds_cons (ed_c (.str _ (by decide +kernel))) eds_nil) (by simp)) eds_nil)) (by simp)) (eds_cons (ed_tup (eds_cons (ed_c (.str _ (by decide +kernel))) (eds_cons (ed_tup eds_nil (by simp)) (eds_cons (ed_c (.int 1)) eds_nil))) (by simp)) (eds_cons (ed_tup (eds_cons (ed_c (.str _ (by decide +kernel))) (eds_cons (ed_tup (eds_cons (ed_c (.str _ (by decide +kernel))) eds_nil) (by simp)) (eds_cons (ed_c .non) eds_nil))) (by simp)) eds_nil))))) (by simp)) rfl) fun v0 H1 e1 r_found => ?_
  refine q_asgD (d := .list noDeeds_1) (ed_is (ed_catL (ed_var rfl r_found) (ed_lst (eds_cons (ed_tup (eds_cons (ed_c (.str _ (by decide +kernel))) (eds_cons (ed_tup (eds_cons (ed_c (.str _ (by decide +kernel))) eds_nil) (by simp)) (eds_cons (ed_c (.int 1000000001)) eds_nil))) (by simp)) (eds_cons (ed_tup (eds_cons (ed_c (.str _ (by decide +kernel))) (eds_cons (ed_tup (eds_cons (ed_c (.str _ (by decide +kernel))) eds_nil) (by simp)) (eds_cons (ed_c (.int 1)) eds_nil))) (by simp)) eds_nil)) (by simp)) (by decide +kernel)) rfl) fun v1 H2 e2 r_found => ?_
  refine q_asgD (d := .list noDeeds_2) (ed_is (ed_catL (ed_var rfl r_found) (ed_lst (eds_cons (ed_tup (eds_cons (ed_c (.str _ (by decide +kernel))) (eds_cons (ed_tup (eds_cons (ed_c (.str _ (by decide +kernel))) eds_nil) (by simp)) (eds_cons (ed_c (.str _ (by decide +kernel))) eds_nil))) (by simp)) (eds_cons (ed_tup (eds_cons (ed_c (.str _ (by decide +kernel))) eds_nil) (by simp)) (eds_cons (ed_tup (eds_cons (ed_c (.str _ (by decide +kernel))) (eds_cons (ed_tup eds_nil (by simp)) eds_nil)) (by simp)) (eds_cons (ed_tup (eds_cons (ed_c (.str _ (by decide +kernel))) (eds_cons (ed_tup (eds_cons (ed_c (.str _ (by decide +kernel))) eds_nil) (by simp)) (eds_cons (ed_c (.int 1)) eds_nil))) (by simp)) eds_nil)))) (by simp)) (by decide +kernel)) rfl) fun v2 H3 e3 r_found => ?_
  refine q_asgD (d := .list noDeeds_3) (ed_is (ed_catL (ed_var rfl r_found) (ed_lst (eds_cons (ed_tup (eds_cons (ed_c (.str _ (by decide +kernel))) (eds_cons (ed_tup (eds_cons (ed_c (.str _ (by decide +kernel))) eds_nil) (by simp)) eds_nil)) (by simp)) (eds_cons (ed_tup (eds_cons (ed_c (.str _ (by decide +kernel))) (eds_cons (ed_tup (eds_cons (ed_c (.str _ (by decide +kernel))) eds_nil) (by simp)) (eds_cons (ed_tup eds_nil (by simp)) eds_nil))) (by simp)) eds_nil)) (by simp)) (by decide +kernel)) rfl) fun v3 H4 e4 r_found => ?_
  refine q_asgD (d := .list noDeeds_4) (ed_is (ed_catL (ed_var rfl r_found) (ed_lst (eds_cons (ed_tup (eds_cons (ed_c (.str _ (by decide +kernel))) (eds_cons (ed_tup (eds_cons (ed_c (.str _ (by decide +kernel))) eds_nil) (by simp)) (eds_cons (ed_c (.str _ (by decide +kernel))) eds_nil))) (by simp)) (eds_cons (ed_lst (eds_cons (ed_c (.str _ (by decide +kernel))) (eds_cons (ed_tup (eds_cons (ed_c (.str _ (by decide +kernel))) eds_nil) (by simp)) eds_nil)) (by simp)) (eds_cons (ed_tup (eds_cons (ed_c (.str _ (by decide +kernel))) (eds_cons (ed_lst (eds_cons (ed_c (.str _ (by decide +kernel))) eds_nil) (by simp)) eds_nil)) (by simp)) (eds_cons (ed_tup (eds_cons (ed_c (.int 5)) (eds_cons (ed_tup (eds_cons (ed_c (.str _ (by decide +kernel))) eds_nil) (by simp)) eds_nil)) (by simp)) eds_nil)))) (by simp)) (by decide +kernel)) rfl) fun v4 H5 e5 r_found => ?_
  exact s_retD (d := .list noDeeds_5) (ed_is (ed_catL (ed_var rfl r_found) (ed_lst (eds_cons (ed_tup (eds_cons (ed_c (.str _ (by decide +kernel))) (eds_cons (ed_tup (eds_cons (ed_c (.str _ (by decide +kernel))) eds_nil) (by simp)) (eds_cons (ed_c (.bl true)) eds_nil))) (by simp)) (eds_cons (ed_tup (eds_cons (ed_c (.str _ (by decide +kernel))) (eds_cons (ed_tup (eds_cons (ed_c (.str _ (by decide +kernel))) eds_nil) (by simp)) (eds_cons (ed_c (.int 1)) eds_nil))) (by simp)) eds_nil)) (by simp)) (by decide +kernel)) rfl) fun v9 H9 e9 r9 => k v9 H9 (((((e1.trans e2).trans e3).trans e4).trans e5).trans e9) r9
end
end Lk
set_option Elab.async false
set_option linter.all false
set_option maxRecDepth 100000
set_option maxHeartbeats 4000000
namespace Lk
open PySem PySem.Spec PyProof.Rows L2 HotX L2H LamX
open Evl (Ev EvL EvA EvT Ex EvU)
abbrev sCell : Stmt := topS 30
abbrev sDrawn : Stmt := topS 31
/-- draws: some number that is not negative -/
def bigP : Int := 340282366920938463463374607431768211507
def spDrawn : Sp := fun vs H Q _ => ∃ c k : Int, vs = [.int c, .int k] ∧ 0 ≤ k ∧ k ≤ 100000 ∧ ∀ n H', 0 ≤ n → n < bigP → Same H H' → Q (.int n) H'
def spCell (K : PySem.W.Frag) : Sp := fun vs H Q _ => ∃ (a : Addr) (ns : List Int) (k : Int), vs = [.ref a, .int k] ∧ SqL K H a (ns.map V.int) ∧ ns.length ≤ 1000 ∧ 0 ≤ k ∧ k ≤ 100000 ∧ ∀ c H', Same H H' → Q (.int c) H'
theorem ev_I {K : PySem.W.Frag} {σ : St} {H : Hp} {ta tb : TE} {C : Int → Int → Prop} {g : Int → Int → V} {i j : Int} (h1 : Ev ta σ H (.int i)) (h2 : Ev tb σ H (.int j)) (hc : C i j) : Ev (tOp (rI C g) ta tb) σ H (g i j) := Evl.ev_op h1 h2 (Evl.rv_I hc)
theorem ev_I0 {σ : St} {H : Hp} {ta tb : TE} {g : Int → Int → V} {i j : Int} (h1 : Ev ta σ H (.int i)) (h2 : Ev tb σ H (.int j)) : Ev (tOp (rI0 g) ta tb) σ H (g i j) := Evl.ev_op h1 h2 Evl.rv_I0
theorem wide_bd {a b : Int} (ha : 0 ≤ a) (hb : 0 ≤ b) (h1 : a < 2 ^ 200) (h2 : b < 2 ^ 200) : CMulW a b :=
  wide_mul (a := 200) (b := 200) (by omega) (by omega) (by decide) (by decide) (by decide)
section
variable {P : Program} {w : World} {K : PySem.W.Frag} {mg : Str → Option Value} {base : Heap}
theorem scDrawn : FnScope ["cell", "k", "more"] ["cell", "k"] (defScope sDrawn) := ⟨rfl, rfl, rfl, by decide +kernel, rfl, by decide +kernel, by decide +kernel⟩
theorem ok_drawn {f : Addr} {fd : FuncData} (F : L2.Fun K "_law_drawn" "_law_drawn" sDrawn f fd) (hm : mg "_law_drawn" = some (.ref f)) (hb : Binds K fd ["cell", "k"] []) : Df P w K mg base "_law_drawn" 1 ["cell", "k"] spDrawn := by
  refine df_of F hm hb scDrawn (fun vs H Q E h => by obtain ⟨_, _, rfl, _⟩ := h; rfl) (fun cdv A outer s H vs Q E hr h => ?_)
  obtain ⟨c, k, rfl, h0, h1, kk⟩ := h
  refine ⟨_, PSs.nox (pss_cons (ps_set (i := 2) scDrawn.nd rfl (Or.inl rfl) (pe_op op_mod (pe_op op_add (pe_op op_mul (pv 0) pe_int) (pe_op op_mul (pe_op op_add (pv 1) pe_int) pe_int)) pe_int))
    (pss_cons (ps_set (i := 2) scDrawn.nd rfl (Or.inl rfl) (pe_op op_mod (pe_op op_mulW (pv 2) (pv 2)) pe_int))
    (pss_cons (ps_set (i := 2) scDrawn.nd rfl (Or.inl rfl) (pe_op op_mulW (pe_op op_mulW (pe_op op_add (pe_op op_mod (pv 2) pe_int) pe_int) (pe_op op_add (pe_op op_fdivW (pv 2) pe_int) pe_int)) (pv 2)))
    (pss_one (ps_ret (pe_op op_mod (pv 2) pe_int)))))), ?_⟩
  refine Evl.q_asg (ev_I (K := K) (ev_I0 (ev_I (K := K) (Evl.ev_var rfl) Evl.ev_c (.inr (by decide))) (ev_I (K := K) (ev_I0 (Evl.ev_var rfl) Evl.ev_c) Evl.ev_c (.inr (by decide)))) Evl.ev_c (by decide)) fun H1 e1 => ?_
  generalize hm1 : (c * 6364136223846793005 + (k + 1) * 1442695040888963407) % 340282366920938463463374607431768211507 = m1
  have a1 : 0 ≤ m1 := by rw [← hm1]; exact Int.emod_nonneg _ (by decide)
  have b1 : m1 < 340282366920938463463374607431768211507 := by rw [← hm1]; exact Int.emod_lt_of_pos _ (by decide)
  refine Evl.q_asg (ev_I (K := K) (ev_I (K := K) (Evl.ev_var rfl) (Evl.ev_var rfl) (wide_bd a1 a1 (by omega) (by omega))) Evl.ev_c (by decide)) fun H2 e2 => ?_
  generalize hm2 : m1 * m1 % 340282366920938463463374607431768211297 = m2
  have a2 : 0 ≤ m2 := by rw [← hm2]; exact Int.emod_nonneg _ (by decide)
  have b2 : m2 < 340282366920938463463374607431768211297 := by rw [← hm2]; exact Int.emod_lt_of_pos _ (by decide)
  have a3 : 0 ≤ m2 % 18446744073709551557 := Int.emod_nonneg _ (by decide)
  have b3 : m2 % 18446744073709551557 < 18446744073709551557 := Int.emod_lt_of_pos _ (by decide)
  have a4 : 0 ≤ m2 / 18446744073709551557 := Int.ediv_nonneg a2 (by decide)
  have b4 : m2 / 18446744073709551557 < 2 ^ 66 := by
    refine Int.ediv_lt_of_lt_mul (by decide) ?_
    omega
  have a5 : 0 ≤ (m2 % 18446744073709551557 + 1) * (m2 / 18446744073709551557 + 1) := Int.mul_nonneg (by omega) (by omega)
  have b5 : (m2 % 18446744073709551557 + 1) * (m2 / 18446744073709551557 + 1) < 2 ^ 200 := by
    have h := wide_lt (i := m2 % 18446744073709551557 + 1) (j := m2 / 18446744073709551557 + 1) (a := 70) (b := 70) (by omega) (by omega)
    have h' : (2 : Nat) ^ (70 + 70) ≤ 2 ^ 200 := Nat.pow_le_pow_right (by decide) (by decide)
    omega
  refine Evl.q_asg (ev_I (K := K) (ev_I (K := K) (ev_I0 (ev_I (K := K) (Evl.ev_var rfl) Evl.ev_c (by decide)) Evl.ev_c) (ev_I0 (ev_I (K := K) (Evl.ev_var rfl) Evl.ev_c (wide_div (b := 65) (by decide) (by decide) (by decide) (by decide))) Evl.ev_c) (wide_bd (by omega) (by omega) (by omega) (by omega))) (Evl.ev_var rfl) (wide_bd a5 a2 b5 (by omega))) fun H3 e3 => ?_
  refine Evl.s_ret (ev_I (K := K) (Evl.ev_var rfl) Evl.ev_c (by decide)) fun H4 e4 => kk _ H4 (Int.emod_nonneg _ (by decide)) (Int.emod_lt_of_pos _ (by decide)) (((e1.trans e2).trans e3).trans e4)
theorem scCell : FnScope ["script", "k"] ["script", "k"] (defScope sCell) := ⟨rfl, rfl, rfl, by decide +kernel, rfl, by decide +kernel, by decide +kernel⟩
theorem shaped_ints : ∀ ns : List Int, PyData.canLayAll0 (ns.map PyData.int) = true ∧ PyData.depthAll (ns.map PyData.int) = 0
  | [] => ⟨rfl, rfl⟩
  | n :: ns => by
    obtain ⟨h1, h2⟩ := shaped_ints ns
    exact ⟨by simp only [List.map_cons, PyData.canLayAll0, PyData.canLay0, h1, Bool.and_self], by simp only [List.map_cons, PyData.depthAll, PyData.depth, h2]; rfl⟩
theorem dp_ints {H : Hp} : ∀ ns : List Int, DpAll K H (ns.map V.int) (ns.map PyData.int)
  | [] => .nil
  | n :: ns => .cons (.int n) (dp_ints ns)
theorem ok_cell {f : Addr} {fd : FuncData} (F : L2.Fun K "_law_cell" "_law_cell" sCell f fd) (hm : mg "_law_cell" = some (.ref f)) (hb : Binds K fd ["script", "k"] []) (T : Tx K mg) : Df P w K mg base "_law_cell" 1 ["script", "k"] (spCell K) := by
  refine df_of F hm hb scCell (fun vs H Q E h => by obtain ⟨_, _, _, rfl, _⟩ := h; rfl) (fun cdv A outer s H vs Q E hr h => ?_)
  obtain ⟨a, ns, k, rfl, hS, hl, h0, h1, kk⟩ := h
  refine ⟨_, PSs.nox (pss_cons (ps_if (pt_cmpR (op_eqD hr.units) (pv 0) (pe_lst pa_nil) (nomark _)) (pss_one (ps_ret (pe_op op_mul (pv 1) pe_int))) pss_nil)
    (pss_one (ps_ret (pe_op op_add (pe_ix ix_list (pv 0) (pe_op op_mod (pv 1) (pe_callB call_len_seq (by rfl) T.len PySem.boot_len (pa_cons (pv 0) pa_nil))) (fun _ _ => rfl)) (pe_op op_mul (pe_op op_fdiv (pv 1) (pe_callB call_len_seq (by rfl) T.len PySem.boot_len (pa_cons (pv 0) pa_nil))) pe_int))))), ?_⟩
  refine Evl.q_when (b := ns.isEmpty) (Evl.et_test fun H1 e1 Q1 q1 => ?_) (fun hb H1 e1 => ?_) (fun hb H1 e1 => ?_)
  · refine ⟨_, rfl, by decide, fun p hp => ⟨.list (ns.map PyData.int), .list [], .lst (Evl.ex_l (e1.trans (Ex.new hp)) hS) (dp_ints ns), .lst (.inl (.inl upd_same)) .nil, ?_, by decide +kernel, ?_⟩⟩
    · obtain ⟨z1, z2⟩ := shaped_ints ns
      simp [SeqAt.shaped, PyData.canLay0, PyData.depth, z1, z2]
    · have e2 : PyData.eqv (.list (ns.map PyData.int)) (.list []) = ns.isEmpty := by cases ns <;> simp [PyData.eqv, PyData.eqvAll]
      rw [e2]
      exact q1 _ (Ex.new hp)
  · exact Evl.s_ret (ev_I (K := K) (Evl.ev_var rfl) Evl.ev_c (.inr (by decide))) fun H2 e2 => kk _ H2 (e1.trans e2)
  · have hn : 0 < ns.length := by
      cases ns with
      | nil => cases hb
      | cons _ _ => simp
    have hS1 : SqL K H1 a (ns.map V.int) := Evl.ex_l e1 hS
    have lenE : ∀ {H2 : Hp}, SqL K H2 a (ns.map V.int) → Ev (tCB (Evl.rLenS K) (tCons (tVar 0) tNil)) [some (V.ref a), some (V.int k)] H2 (.int (ns.length : Int)) := fun {H2} h2 => Evl.ev_is (Evl.ev_len (Evl.ev_var rfl) h2) (by rw [List.length_map])
    obtain ⟨j, hj⟩ : ∃ j : Nat, k % (ns.length : Int) = (j : Int) := ⟨(k % (ns.length : Int)).toNat, by have := Int.emod_nonneg k (b := (ns.length : Int)) (by omega); omega⟩
    have hjl : j < ns.length := by have := Int.emod_lt_of_pos k (b := (ns.length : Int)) (by omega); omega
    refine Evl.s_ret (v := .int (ns[j] + k / (ns.length : Int) * 104729)) (ev_I0 (i := ns[j]) (Evl.ev_op (Evl.ev_var rfl) (Evl.ev_is (ev_I (K := K) (Evl.ev_var rfl) (lenE hS1) (by omega)) (by rw [hj])) (Evl.rv_ixL hS1 (atI_nat (by simp [hjl])))) (ev_I (K := K) (ev_I (K := K) (Evl.ev_var rfl) (lenE hS1) ⟨by omega, by omega⟩) Evl.ev_c (.inr (by decide)))) fun H2 e2 => kk _ H2 (e1.trans e2)
end
end Lk
set_option Elab.async false
set_option linter.all false
set_option maxRecDepth 100000
set_option maxHeartbeats 4000000
namespace Lk
open PySem PySem.Spec PyProof.Rows L2 HotX L2H LamX
open Evl (Ev EvL EvA EvT Ex EvU)
abbrev sWord : Stmt := topS 32
abbrev sTold : Stmt := topS 33
/-- the names by which refusals are told -/
def wordsL : List Str := ["BadDeed", "BadLook", "BadNumber", "BadPath", "BadState", "Storm"]
/-- the class at D is the i-th of the classes cs, and no other; all stand under ValueError and under the class at CL -/
structure Own (K : PySem.W.Frag) (cs : List Addr) (CL D : Addr) (i : Nat) : Prop where
  exc : ExcC K D
  kit : ∀ (j : Nat) (c : Addr), cs[j]? = some c → PySem.W.kitOne K (.ref D) (.ref c) = some (decide (j = i))
  val : PySem.W.kitOne K (.ref D) (.type "ValueError") = some true
  exm : PySem.W.exmOne K (.ref D) (.ref CL) = some true
/-- what the module's names of classes hold -/
structure Cn (mg : Str → Option Value) (c0 c1 c2 c3 c4 c5 : Addr) : Prop where
  g0 : mg "BadDeed" = some (.ref c0)
  g1 : mg "BadLook" = some (.ref c1)
  g2 : mg "BadNumber" = some (.ref c2)
  g3 : mg "BadPath" = some (.ref c3)
  g4 : mg "BadState" = some (.ref c4)
  g5 : mg "Storm" = some (.ref c5)
  vE : mg "ValueError" = none
  sum : mg "sum" = none
def refused (nm : Str) : PyData := .tuple [.str "refused", .str nm]
def spWord (K : PySem.W.Frag) (cs : List Addr) (CL : Addr) : Addr × Obj → Sp := fun p vs H Q _ => ∃ (D : Addr) (i : Nat) (nm : Str), vs = [.ref p.1] ∧ Zc (.ref D) none p.2 ∧ (∃ fs, p.2.data = .fields fs) ∧ Own K cs CL D i ∧ wordsL[i]? = some nm ∧ ∀ v H', Same H H' → R H' v (refused nm) → Q v H'
def flagsL (i : Nat) : List Bool := [decide (0 = i), decide (1 = i), decide (2 = i), decide (3 = i), decide (4 = i), decide (5 = i)]
theorem ev_isE {K : PySem.W.Frag} {σ : St} {H : Hp} {D a c : Addr} {b : Bool} (h : σ[0]? = some (some (.ref a))) (hk : PySem.W.kitOne K (.ref D) (.ref c) = some b) : EvD (tCB (rIsE K D a) (tCons (tVar 0) (tCons (tC (.ref c)) tNil))) σ H (.bool b) :=
  fun H1 e Q q => ⟨_, h, .ref c, .ref c, b, rfl, fun u r => r, hk, q _ H1 (Ex.refl _) (.bl b)⟩
theorem ev_isV {K : PySem.W.Frag} {σ : St} {H : Hp} {D a : Addr} {T : String} {b : Bool} (h : σ[0]? = some (some (.ref a))) (hk : PySem.W.kitOne K (.ref D) (.type T) = some b) : EvD (tCB (rIsE K D a) (tCons (tVar 0) (tCons (tC (.ty T)) tNil))) σ H (.bool b) :=
  fun H1 e Q q => ⟨_, h, .ty T, .type T, b, rfl, fun u r => r, hk, q _ H1 (Ex.refl _) (.bl b)⟩
theorem ev_sum {K : PySem.W.Frag} {σ : St} {H : Hp} {ta : TE} {ns : List Int} (h : EvL ta σ H (ns.map V.int)) : Ev (tCB (rSum K) (tCons ta tNil)) σ H (.int ns.sum) := fun H1 e Q q =>
  h H1 e _ fun p H2 _ e2 hp => ⟨p, ns, rfl, .inl (.inl hp), q H2 e2⟩
section
variable {P : Program} {w : World} {K : PySem.W.Frag} {mg : Str → Option Value} {base : Heap}
theorem scWord : FnScope ["e", "flags", "flag"] ["e"] (defScope sWord) := ⟨rfl, rfl, rfl, by decide +kernel, rfl, by decide +kernel, by decide +kernel⟩
theorem ok_word {f c0 c1 c2 c3 c4 c5 CL : Addr} {fd : FuncData} (F : L2.Fun K "_law_word" "_law_word" sWord f fd) (T : Tx K mg) (N : Cn mg c0 c1 c2 c3 c4 c5) : FnP P w K mg base 1 f fd ["e"] (spWord K [c0, c1, c2, c3, c4, c5] CL) := by
  refine okP F scWord (fun p vs H Q E h => by obtain ⟨_, _, _, rfl, _⟩ := h; rfl) (fun cdv A outer s H vs Q p hot hr h => ?_)
  obtain ⟨D, i, nm, rfl, hz, hf, O, hnm, k⟩ := h
  have hc : HotC (cxH L2.CX0 P w K mg base ["e", "flags", "flag"] "_law_word" (defScope sWord) f cdv A outer s H L2.E0 p).nox := ⟨p, hot, List.mem_singleton.mpr rfl⟩
  have hpn : p ∈ (cxH L2.CX0 P w K mg base ["e", "flags", "flag"] "_law_word" (defScope sWord) f cdv A outer s H L2.E0 p).nox.pn := List.mem_singleton.mpr rfl
  have isi := @call_isP (cxH L2.CX0 P w K mg base ["e", "flags", "flag"] "_law_word" (defScope sWord) f cdv A outer s H L2.E0 p).nox p D O.exc hpn hz hf
  refine ⟨_, pss_cons (ps_set (i := 1) scWord.nd rfl (Or.inl rfl) (pe_lst (pa_cons (pe_callB isi (by rfl) T.isi boot_isinstance (pa_cons (pv 0) (pa_cons (C8.pe_gc (v := .ref c0) (by rfl) ⟨_, N.g0, rfl⟩) pa_nil)))
      (pa_cons (pe_callB isi (by rfl) T.isi boot_isinstance (pa_cons (pv 0) (pa_cons (C8.pe_gc (v := .ref c1) (by rfl) ⟨_, N.g1, rfl⟩) pa_nil)))
      (pa_cons (pe_callB isi (by rfl) T.isi boot_isinstance (pa_cons (pv 0) (pa_cons (C8.pe_gc (v := .ref c2) (by rfl) ⟨_, N.g2, rfl⟩) pa_nil))) pa_nil)))))
    (pss_cons (ps_set (i := 1) scWord.nd rfl (Or.inl rfl) (pe_op op_cat (pv 1) (pe_lst (pa_cons (pe_callB isi (by rfl) T.isi boot_isinstance (pa_cons (pv 0) (pa_cons (C8.pe_gc (v := .ref c3) (by rfl) ⟨_, N.g3, rfl⟩) pa_nil))) pa_nil))))
    (pss_cons (ps_set (i := 1) scWord.nd rfl (Or.inl rfl) (pe_op op_cat (pv 1) (pe_lst (pa_cons (pe_callB isi (by rfl) T.isi boot_isinstance (pa_cons (pv 0) (pa_cons (C8.pe_gc (v := .ref c4) (by rfl) ⟨_, N.g4, rfl⟩) pa_nil)))
      (pa_cons (pe_callB isi (by rfl) T.isi boot_isinstance (pa_cons (pv 0) (pa_cons (C8.pe_gc (v := .ref c5) (by rfl) ⟨_, N.g5, rfl⟩) pa_nil))) pa_nil)))))
    (pss_cons (ps_if (PW.pt (pw_or (pt_cmpR op_ne (pe_callB (cr_sumH hc) (by rfl) N.sum (by decide +kernel) (pa_cons (pe_lcH (own := [("flag", 2)]) (g := gName 2) (tt := tYes) hc scWord.nd (pv 1) (blkOk_by (own := [("flag", 2)]) (N := ["e", "flags", "flag"]) (sc := defScope sWord) (by decide +kernel))
        (fun _ _ _ _ _ => pg_name (i := 2) scWord.nd rfl (Or.inl rfl)) (fun _ _ _ _ _ => pts_nil) (fun _ _ _ _ _ => pe_callTy call_int1 (by rfl) T.int boot_int (pa_cons (pv 2) pa_nil))) pa_nil)) pe_int (nomark _))
        (pw_or1 (pt_not (pt_val (pe_callB isi (by rfl) T.isi boot_isinstance (pa_cons (pv 0) (pa_cons (pe_bltn (v := .ty "ValueError") (by rfl) N.vE (by decide +kernel) rfl) pa_nil)))))))) (pss_one (ps_ret (pe_tup (pa_cons pe_str (pa_cons pe_str pa_nil))))) pss_nil)
    (pss_one (ps_ret (pe_tup (pa_cons pe_str (pa_cons (pe_ix ix_list (pe_lst (pa_cons pe_str (pa_cons pe_str (pa_cons pe_str (pa_cons pe_str (pa_cons pe_str (pa_cons pe_str pa_nil))))))) (pe_bm PySem.F.plainAttrs_list PySem.F.slot_list_index PySem.F.type_list_index mt_index (pv 1) (pa_cons pe_bl pa_nil)) (fun _ _ => rfl)) pa_nil)))))))), ?_⟩
  have hi : i < 6 := by
    have := (List.getElem?_eq_some_iff.mp hnm).1
    exact this
  refine q_asgD (d := .list [.bool (decide (0 = i)), .bool (decide (1 = i)), .bool (decide (2 = i))]) (ed_lst (eds_cons (ev_isE rfl (O.kit 0 c0 rfl)) (eds_cons (ev_isE rfl (O.kit 1 c1 rfl)) (eds_cons (ev_isE rfl (O.kit 2 c2 rfl)) eds_nil))) (by simp)) fun v1 H1 e1 r1 => ?_
  refine q_asgD (d := .list ([.bool (decide (0 = i)), .bool (decide (1 = i)), .bool (decide (2 = i))] ++ [.bool (decide (3 = i))])) (ed_catL (es := [.bool (decide (3 = i))]) (ed_var rfl r1) (ed_lst (eds_cons (ev_isE rfl (O.kit 3 c3 rfl)) eds_nil) (by simp)) (by simp)) fun v2 H2 e2 r2 => ?_
  refine q_asgD (d := .list (([.bool (decide (0 = i)), .bool (decide (1 = i)), .bool (decide (2 = i))] ++ [.bool (decide (3 = i))]) ++ [.bool (decide (4 = i)), .bool (decide (5 = i))])) (ed_catL (es := [.bool (decide (4 = i)), .bool (decide (5 = i))]) (ed_var rfl r2) (ed_lst (eds_cons (ev_isE rfl (O.kit 4 c4 rfl)) (eds_cons (ev_isE rfl (O.kit 5 c5 rfl)) eds_nil)) (by simp)) (by simp)) fun v3 H3 e3 r3 => ?_
  have e03 : Ex H H3 := (e1.trans e2).trans e3
  have r3' : R H3 v3 (.list ((flagsL i).map PyData.bool)) := r3
  cases r3' with
  | @lst fa xs _ hx rx =>
    have hxs : xs = (flagsL i).map V.bl := by
      have : ∀ (bs : List Bool) (ys : List V), Rs H3 ys (bs.map PyData.bool) → ys = bs.map V.bl := by
        intro bs
        induction bs with
        | nil => intro ys h; cases h; rfl
        | cons b bs ih => intro ys h; cases h with
          | cons h t => cases h; rw [ih _ t]; rfl
      exact this _ _ rx
    subst hxs
    have nums : ((flagsL i).map fun b => if b then (1 : Int) else 0).sum = 1 := by
      have key : ∀ i < 6, ((flagsL i).map fun b => if b then (1 : Int) else 0).sum = 1 := by decide
      exact key i hi
    refine Evl.q_when (b := false) (Evl.et_is (Evl.et_or (a := false) (b := false) (Evl.et_test ?g1) fun _ => Evl.et_is (Evl.et_not (et_b (ev_isV rfl O.val))) rfl) rfl) (fun z => by cases z) (fun _ H4 e4 => ?_)
    case g1 =>
      refine Evl.ev_is (Evl.ev_op (x := .int 1) (y := .int 1) ?g2 Evl.ev_c (Evl.rv_ne rfl)) (by simp)
      refine Evl.ev_is (ev_sum (ns := (flagsL i).map fun b => if b then 1 else 0) (fun H0 e Q q => ⟨_, rfl, fa, rfl, ⟨_, .inl (.inl (e _ _ hx))⟩, fun Dl hD => ?_⟩)) (by rw [nums])
      refine lc_w (walk_list (K := K) (a := fa) (xs := (flagsL i).map V.bl)) (fun H' e2 => .inl (.inl ((e.trans e2) _ _ hx))) (((flagsL i).map fun b => if b then (1 : Int) else 0).map V.int) (by simp) (by simp [flagsL]) (fun x => rfl) (fun j x hj hx' => ?_) hD fun H2 e2 h2 => q Dl H2 hD e2 h2
      intro H7 e7 Q7 q7
      rw [List.getElem?_map] at hx'
      cases eb : (flagsL i)[j]? with
      | none => rw [eb] at hx'; cases hx'
      | some b =>
        rw [eb] at hx'
        cases hx'
        refine ⟨_, rfl, .inr ⟨b, rfl, ?_⟩⟩
        have := q7 H7 (Ex.refl _)
        simpa [eb] using this
    · have hx4 : H4 fa = some (.lst ((flagsL i).map V.bl)) := e4 _ _ hx
      refine s_retD (d := refused nm) (ed_tup (eds_cons (ed_c (.str _ (by decide +kernel))) (eds_cons (ed_ixL (k := i) (ds := wordsL.map PyData.str) ?g3 ?g4 (by rw [List.getElem?_map, hnm]; rfl)) eds_nil)) (by simp)) fun v9 H9 e9 r9 => k v9 H9 ((e03.trans e4).trans e9) r9
      case g3 => exact ed_lst (eds_cons (ed_c (.str _ (by decide +kernel))) (eds_cons (ed_c (.str _ (by decide +kernel))) (eds_cons (ed_c (.str _ (by decide +kernel))) (eds_cons (ed_c (.str _ (by decide +kernel))) (eds_cons (ed_c (.str _ (by decide +kernel))) (eds_cons (ed_c (.str _ (by decide +kernel))) eds_nil)))))) (by decide +kernel)
      case g4 =>
        intro H5 e5 Q5 q5
        have h5 : H5 fa = some (.lst ((flagsL i).map V.bl)) := e5 _ _ hx4
        have key : ∀ i < 6, (flagsL i)[i]? = some true ∧ ∀ m < i, (flagsL i)[m]? = some false := by decide
        obtain ⟨t1, t2⟩ := key i hi
        refine ⟨_, rfl, .inl ⟨rfl, _, .inl (.inl h5)⟩, fa, _, .bl true, i, .bl true, rfl, rfl, .inl (.inl h5), rfl, by simp [flagsL, flatV], by rw [List.getElem?_map, t1]; rfl, rfl, fun m z' hm' hz' => ?_, q5 _ H5 (Ex.refl _) (.int _)⟩
        rw [List.getElem?_map, t2 m hm'] at hz'
        cases hz'
        rfl
end
end Lk
set_option Elab.async false
set_option linter.all false
set_option maxRecDepth 100000
set_option maxHeartbeats 4000000
namespace Lk
open PySem PySem.Spec PyProof.Rows L2 HotX L2H LamX
open Evl (Ev EvL EvA EvT Ex EvU)
theorem takes0N {X : Cx} : L2N.Takes X (fun _ _ _ _ => False) := fun _ _ x => by
  obtain ⟨_, _, _, _, _, _, _, _, _, _, _, _, _, _, _, _, z⟩ := x
  exact z.elim
/-- what _law_told makes of a lambda: what it hands back, or the word of its refusal -/
def wishT (K : PySem.W.Frag) (cs : List Addr) (CL : Addr) (Q : VK) : XK := fun cls d H' => ∃ (D : Addr) (i : Nat) (nm : Str), cls = .ref D ∧ d = none ∧ Own K cs CL D i ∧ wordsL[i]? = some nm ∧ ∀ v H'', Same H' H'' → R H'' v (refused nm) → Q v H''
def TTold (K : PySem.W.Frag) (cs : List Addr) (CL : Addr) : (XK → Hp → VK → Prop) → Hp → VK → Prop := fun tl H Q => tl (wishT K cs CL Q) H Q
theorem scTold : FnScope ["deed", "e"] ["deed"] (defScope sTold) := ⟨rfl, rfl, rfl, by decide +kernel, rfl, by decide +kernel, by decide +kernel⟩
theorem told_gives {X : Cx} {g fw CL : Addr} {cdg : Value} {q : Str} {cs : List Addr} {fdw : FuncData} {k : Nat} (FW : FnP X.prog X.w X.K X.mg X.base 1 fw fdw ["e"] (spWord X.K cs CL)) (gw : X.mg "_law_word" = some (.ref fw)) (kw : PySem.W.keepIn X.K (.ref fw) = true) (bw : Binds X.K fdw ["e"] [])
    (gL : X.mg "LookError" = some (.ref CL)) : GivesN X ["deed", "e"] "_law_told" (defScope sTold) g cdg (defBody sTold) "deed" q (k + 1) (TTold X.K cs CL) := by
  intro f c' s H Q tl hr act hc h
  refine ⟨_, pss_one (L2N.ps_try_as (X := (cxOf C8.CX0 X.prog X.w X.K X.mg X.base ["deed", "e"] "_law_told" (defScope sTold) g cdg X.A X.stack s H C8.E0).nox) (c := .ref CL) (i := 1)
      (tb := fun W D σ H => ∃ Ech : XK, (∀ cls d (σ' : L2.St) H', σ'.length = 2 → Ech cls d H' → W cls d σ' H') ∧ σ[0]? = some (some (.ref f)) ∧ H c' = some (CodeO c' q) ∧ tl Ech H D.rt)
      (ts := fun a cls d D σ H => ∃ (D0 : Addr) (i : Nat) (nm : Str), cls = .ref D0 ∧ d = none ∧ Own X.K cs CL D0 i ∧ wordsL[i]? = some nm ∧ σ[1]? = some (some (.ref a)) ∧ ∀ v H', Same H H' → R H' v (refused nm) → D.rt v H')
      rfl rfl scTold.nd rfl rfl ⟨rfl, by decide, .inl gL⟩ takes0N (fun W pn xe tk _ => ?_) (fun a oe cls d pn hz hf => ?_)), ?_⟩
  · refine ⟨fun pins s' σ H' D I h' => ?_⟩
    obtain ⟨Ech, hW, h1, h2, h3⟩ := h'
    exact (pss_one (ps_ret (act W pn xe Ech _ _ tk hW))).run pins s' σ H' D I ⟨h1, h2, h3⟩
  · refine ⟨fun pins s' σ H' D I h' => ?_⟩
    obtain ⟨D0, i, nm, rfl, rfl, O, hnm, h1, h2⟩ := h'
    obtain ⟨fs, hfs⟩ := hf
    have hot : Hot1 ((cxOf C8.CX0 X.prog X.w X.K X.mg X.base ["deed", "e"] "_law_told" (defScope sTold) g cdg X.A X.stack s H C8.E0).nox.suite a ((a, oe) :: pn)).A (a, oe) := ⟨rfl, fs, hfs, hz.2.2 fs hfs⟩
    have rm : RoomH 1 ((cxOf C8.CX0 X.prog X.w X.K X.mg X.base ["deed", "e"] "_law_told" (defScope sTold) g cdg X.A X.stack s H C8.E0).nox.suite a ((a, oe) :: pn)).A := by
      have h0 := roomH_of (hr.mono (show 1 ≤ k + 1 by omega))
      exact ⟨h0.dp, h0.un⟩
    exact (pss_one (ps_ret (pe_callP (X := (cxOf C8.CX0 X.prog X.w X.K X.mg X.base ["deed", "e"] "_law_told" (defScope sTold) g cdg X.A X.stack s H C8.E0).nox.suite a ((a, oe) :: pn)) (p := (a, oe)) FW rm hot List.mem_cons_self (x := "_law_word") rfl gw kw bw (pa_cons (pv 1) pa_nil)))).run pins s' σ H' D I
      ⟨.ref a, h1, D0, i, nm, rfl, hz.zc, ⟨fs, hfs⟩, O, hnm, h2⟩
  · refine ⟨wishT X.K cs CL Q, fun cls d σ' H' hl ⟨D0, i, nm, e1, e2, O, hnm, hk⟩ => ?_, rfl, hc, h⟩
    subst e1 e2
    refine ⟨true, O.exm, fun _ a ha => ⟨D0, i, nm, rfl, rfl, O, hnm, ?_, hk⟩, fun z => by cases z⟩
    match σ', hl with
    | [_, _], _ => rfl
end Lk
set_option Elab.async false
set_option linter.all false
set_option maxRecDepth 100000
set_option maxHeartbeats 8000000
/-! What a law's frame does: lambdas told, lists of what was told. -/
namespace Lk
open PySem PySem.Spec PyProof.Rows L2 HotX L2H LamX
open Evl (Ev EvL EvA EvT Ex EvU)
theorem tabs_upd {T : List (Addr × Str)} {H : Hp} {l : Addr} {xs ys : List V} (t : Tabs T H) (h : H l = some (.lst xs)) : Tabs T (upd H l (.lst ys)) := fun p hp => by
  obtain ⟨ps, h1, h2, h3⟩ := t p hp
  refine ⟨ps, by rw [upd_ne (ne_of h1 h (fun z => nomatch z))]; exact h1, h2, fun pos cv hc => ?_⟩
  obtain ⟨c, e1, e2⟩ := h3 pos cv hc
  exact ⟨c, e1, by rw [upd_ne (ne_of e2 h (fun z => by unfold CodeO at z; cases z))]; exact e2⟩
theorem r_ref_upd {H : Hp} {l : Addr} {xs ys : List V} {v : V} {nm : Str} (r : R H v (refused nm)) (h : H l = some (.lst xs)) : R (upd H l (.lst ys)) v (refused nm) := by
  unfold refused at r ⊢
  cases r with
  | tup hq rs =>
    refine .tup (by rw [upd_ne (ne_of hq h (fun z => nomatch z))]; exact hq) ?_
    cases rs with
    | cons r1 t1 => cases t1 with
      | cons r2 t2 => cases t2; cases r1; cases r2; exact .cons (.str _ (by assumption)) (.cons (.str _ (by assumption)) .nil)
theorem rs_ref_upd {H : Hp} {l : Addr} {xs ys : List V} (h : H l = some (.lst xs)) : ∀ {vs : List V} {nms : List Str}, Rs H vs (nms.map refused) → Rs (upd H l (.lst ys)) vs (nms.map refused)
  | [], [], _ => .nil
  | _ :: _, _ :: _, .cons r t => .cons (r_ref_upd r h) (rs_ref_upd h t)
section
variable {K : PySem.W.Frag} {T0 : List (Addr × Str)} {cs : List Addr} {CL : Addr} {σ : St} {H Hb : Hp} {t : XK → TE} {D : Addr} {i : Nat} {nm : Str} {Q : VK} {Dn : Ends} {tz tu : TS}
/-- a lambda that is refused -/
theorem told_ev (hT : Tabs T0 H) (O : Own K cs CL D i) (hnm : wordsL[i]? = some nm) (ht : ∀ H1, ExtN H H1 → ∀ (E : XK) (Q : VK), (∀ H2, Same H1 H2 → E (.ref D) none H2) → t E σ H1 Q)
    (q : ∀ v H2, ExtN H H2 → Tabs T0 H2 → R H2 v (refused nm) → Q v H2) : tLam T0 (TTold K cs CL) t σ H Q :=
  ⟨hT, fun H1 e1 t1 => ht H1 e1 _ _ fun H2 s2 => ⟨D, i, nm, rfl, rfl, O, hnm, fun v H3 s3 r => q v H3 (e1.trans (ExtN.of (s2.trans s3))) (t1.ext (s2.trans s3)) r⟩⟩
/-- the list of what was told so far stands at l, apart from what stood in Hb -/
structure Sm (T0 : List (Addr × Str)) (Hb H : Hp) (l : Addr) (nms : List Str) : Prop where
  ex : ∃ xs, H l = some (.lst xs) ∧ Rs H xs (nms.map refused)
  ext : ExtN Hb H
  tabs : Tabs T0 H
  apart : ∀ b o, Hb b = some o → (∀ ps, o ≠ .tbl ps) → b ≠ l
theorem Sm.ofEx {l : Addr} {nms : List Str} {H' : Hp} (s : Sm T0 Hb H l nms) (e : Ex H H') : Sm T0 Hb H' l nms := by
  obtain ⟨xs, h1, h2⟩ := s.ex
  exact ⟨⟨xs, e _ _ h1, h2.ext (exN e)⟩, s.ext.trans (exN e), s.tabs.ext e, s.apart⟩
/-- some = [told] -/
theorem q_some {j : Nat} (hT : Tabs T0 H) (he : ExtN Hb H) (O : Own K cs CL D i) (hnm : wordsL[i]? = some nm) (ht : ∀ H1, ExtN H H1 → ∀ (E : XK) (Q : VK), (∀ H2, Same H1 H2 → E (.ref D) none H2) → t E σ H1 Q)
    (k : ∀ l H2, Sm T0 Hb H2 l [nm] → tz Dn (σ.set j (some (.ref l))) H2) : tSeq (tAsg (tLst (tCons (tLam T0 (TTold K cs CL) t) tNil)) (gName j)) tz Dn σ H :=
  told_ev hT O hnm ht fun v H2 e2 t2 r => ⟨Evl.sz_of (by simp), fun p hp => k p _ ⟨⟨[v], upd_same, .cons (r.ext (exN (Ex.new hp))) .nil⟩, (he.trans e2).trans (exN (Ex.new hp)), t2.ext (Ex.new hp), fun b o hb ho z => by
    have := (he.trans e2) b o hb ho
    rw [z, hp] at this
    cases this⟩⟩
/-- some.append(told) -/
theorem q_app {j : Nat} {l : Addr} {nms : List Str} (hs : σ[j]? = some (some (.ref l))) (S : Sm T0 Hb H l nms) (hz : nms.length < 1000) (O : Own K cs CL D i) (hnm : wordsL[i]? = some nm) (ht : ∀ H1, ExtN H H1 → ∀ (E : XK) (Q : VK), (∀ H2, Same H1 H2 → E (.ref D) none H2) → t E σ H1 Q)
    (k : ∀ H2, Sm T0 Hb H2 l (nms ++ [nm]) → tz Dn σ H2) : tSeq (tDrop (tBM K "list" rAppend (tVar j) (tCons (tLam T0 (TTold K cs CL) t) tNil))) tz Dn σ H := by
  obtain ⟨xs, h1, h2⟩ := S.ex
  refine ⟨_, hs, .inl ⟨rfl, xs, .inl (.inl h1)⟩, ?_⟩
  refine told_ev S.tabs O hnm ht fun v H2 e2 t2 r => ?_
  have hl2 : H2 l = some (.lst xs) := e2 _ _ h1 (fun _ z => nomatch z)
  have hx : xs.length = nms.length := by have := h2.length; rw [List.length_map] at this; exact this
  refine ⟨l, xs, v, rfl, rfl, hl2, Evl.sz_lt (by omega), k _ ⟨⟨xs ++ [v], upd_same, ?_⟩, ?_, tabs_upd t2 hl2, S.apart⟩⟩
  · rw [List.map_append]
    exact (rs_ref_upd hl2 (h2.ext e2)).append (.cons (r_ref_upd r hl2) .nil)
  · intro b o hb ho
    rw [upd_ne (S.apart b o hb ho)]
    exact (S.ext.trans e2) b o hb ho
/-- for x in [..], what is written there -/
theorem q_forD {tl : TE} {ds : List PyData} {j : Nat} (h : EvD tl σ H (.list ds)) (In : Nat → St → Hp → Prop) (h0 : ∀ H1, Ex H H1 → In 0 σ H1)
    (hs : ∀ H1 (n : Nat) x d σ' H', Ex H H1 → ds[n]? = some d → R H1 x d → ExtN H1 H' → In n σ' H' → tu { Dn with nx := fun σ2 H2 => In (n + 1) σ2 H2 ∧ ExtN H1 H2, ct := fun σ2 H2 => In (n + 1) σ2 H2 ∧ ExtN H1 H2, bk := tz Dn } (σ'.set j (some x)) H')
    (hd : ∀ σ' H', In ds.length σ' H' → tz Dn σ' H') : tSeq (tFor (iList K tl) (gName j) tu) tz Dn σ H :=
  h H (Ex.refl H) _ fun v H1 e1 r => by
    cases r with
    | @lst p xs _ hp rs =>
      refine ⟨p, rfl, ⟨xs, .inl (.inl hp)⟩, for_list (K := K) (a := p) (xs := xs) (fun n σ' H' => In n σ' H' ∧ ExtN H1 H') ⟨h0 H1 e1, ExtN.refl _⟩ (fun n σ' H' _ hh => .inl (.inl (hh.2 _ _ hp (fun _ z => nomatch z)))) (fun n x σ' H' hx hh => ?_) (fun σ' H' hh => hd σ' H' (by rw [← rs.length]; exact hh.1))⟩
      obtain ⟨d, hd', rx⟩ := rs.get' hx
      exact hs H1 n x d σ' H' e1 hd' rx hh.2 hh.1
end
theorem shaped_ref (nms : List Str) (h : nms.all PyData.strOk = true) : SeqAt.shaped (.list (nms.map refused)) = true := by
  have c : ∀ l : List Str, l.all PyData.strOk = true → PyData.canLayAll0 (l.map refused) = true ∧ PyData.depthAll (l.map refused) ≤ 1 := by
    intro l
    induction l with
    | nil => intro _; exact ⟨rfl, by decide⟩
    | cons x r ih =>
      intro hl
      rw [List.all_cons, Bool.and_eq_true] at hl
      obtain ⟨c1, c2⟩ := ih hl.2
      have hr : PyData.strOk "refused" = true := by decide +kernel
      refine ⟨by simp only [List.map_cons, refused, PyData.canLayAll0, PyData.canLay0, hl.1, hr, Bool.and_self]; simpa [refused] using c1, ?_⟩
      simp only [List.map_cons, refused, PyData.depthAll, PyData.depth]
      omega
  obtain ⟨c1, c2⟩ := c nms h
  simp only [SeqAt.shaped, PyData.canLay0, c1, Bool.true_and, PyData.depth]
  exact decide_eq_true (by omega)
def headB2 : PyData → Bool
  | .tuple (.str z :: _) => decide (z ∈ deedWords)
  | _ => true
theorem headOk_of {d : PyData} (h : headB2 d = true) : headOk d := fun z r e => by
  subst e
  exact of_decide_eq_true h
end Lk
set_option Elab.async false
set_option linter.all false
set_option maxRecDepth 100000
set_option maxHeartbeats 8000000
namespace Lk
open PySem PySem.Spec PyProof.Rows L2 HotX L2H LamX
open Evl (Ev EvL EvA EvT Ex EvU)
abbrev sLaw : Stmt := topS 36
theorem scLaw : FnScope ["script", "k", "more", "j", "here", "some", "bad", "deed", "good", "state"] ["script"] (defScope sLaw) := ⟨rfl, rfl, rfl, by decide +kernel, rfl, by decide +kernel, by decide +kernel⟩
def spLaw (K : PySem.W.Frag) (Pt : Addr) : Sp := fun vs H Q _ => ∃ (a : Addr) (ns : List Int), vs = [.ref a] ∧ SqL K H a (ns.map V.int) ∧ ns.length ≤ 63 ∧ H Pt = some (.tbl #[]) ∧ ∀ H', Q (.bl true) H'
def badPaths : List PyData := [.none, (.str "a"), (.list [(.str "a")]), (.tuple [(.str "A")]), (.tuple [(.str "")]), (.tuple [(.str "abcdefg")]), (.tuple [.str "a", .str "a", .str "a", .str "a", .str "a"]), (.tuple [(.int 1)]), (.tuple [(.str "a"), .none])]
theorem noStates_bad : ∀ d ∈ noStates_3, isState d = false := by decide +kernel
theorem noDeeds_bad : ∀ d ∈ noDeeds_5, needDeed d = false ∧ headB2 d = true := by decide +kernel
theorem badPaths_bad : ∀ d ∈ badPaths, isPath d = false := by decide +kernel
def goodD : PyData := .dict [(.tuple [.str "a"], .int 1)]
theorem good_ok : isState goodD = true := by decide +kernel
/-- the frame of the law, its script ahead -/
def Fr10 (a : Addr) (σ : St) : Prop := ∃ o1 o2 o3 o4 o5 o6 o7 o8 o9, σ = [some (.ref a), o1, o2, o3, o4, o5, o6, o7, o8, o9]
/-- a refusing def that lets its thing through: `need(x) is not None` is false -/
theorem et_refN {C : Addr} {f : PyData → Bool} {ta : TA} {σ : St} {H : Hp} {d : PyData} (h : EvDs ta σ H [d]) (hf : f d = true) : EvT (tB (tNotN (tCall (spRef C f) [] E0 ta))) σ H false := fun H1 e Q q =>
  h H1 e _ fun vs H2 e2 rs => by
    obtain ⟨v, d', rfl, hd, rd⟩ := rs.one rfl
    cases hd
    exact ⟨v, d, rfl, rd, (fun _ H3 s3 => ⟨false, rfl, q H3 (e2.trans s3)⟩), (fun z => absurd z (by rw [hf]; exact fun z => nomatch z))⟩
theorem ed_dnewT {σ : St} {H : Hp} : EvD tDNewT σ H (.dict []) := fun H1 e Q q p hp => q (.ref p) _ (Ex.new hp) (.dT (kvs := []) upd_same ⟨(fun _ z => nomatch z), .nil⟩ rfl .nil)
theorem ok_path0 : isPath (.tuple []) = true := by decide +kernel
theorem ok_path4 : isPath (.tuple [.str "a", .str "a", .str "a", .str "a"]) = true := by decide +kernel
theorem ok_state0 : isState (.dict []) = true := by decide +kernel
section
variable {P : Program} {w : World} {K : PySem.W.Frag} {mg : Str → Option Value} {base : Heap}
theorem ok_law {f gt fw CL c0 c1 c2 c3 c4 c5 c Pt : Addr} {fd fdt fdw : FuncData} {oc kV doc pm ct : Value} {od an : Option Addr} {osl : Array (Option Value)}
    (lk : K.lookup f = some ⟨oc, od, .func (PySem.W.fnOf "law" "law" (defArgs sLaw) (defBody sLaw) (defScope sLaw) .none kV doc pm an (.ref c) ct), osl⟩) (hcd : PySem.W.codeIn K (.ref c) "law" = true)
    (T : Tx K mg) (max : mg "max" = none) (min : mg "min" = none) (FT : L2.Fun K "_law_told" "_law_told" sTold gt fdt) (gt' : mg "_law_told" = some (.ref gt)) (bt : Binds K fdt ["deed"] [])
    (FW : FnP P w K mg base 1 fw fdw ["e"] (spWord K [c0, c1, c2, c3, c4, c5] CL)) (gw : mg "_law_word" = some (.ref fw)) (kw : PySem.W.keepIn K (.ref fw) = true) (bw : Binds K fdw ["e"] []) (gL : mg "LookError" = some (.ref CL))
    (O0 : Own K [c0, c1, c2, c3, c4, c5] CL c0 0) (O3 : Own K [c0, c1, c2, c3, c4, c5] CL c3 3) (O4 : Own K [c0, c1, c2, c3, c4, c5] CL c4 4)
    (Dc : Df P w K mg base "_law_cell" 1 ["script", "k"] (spCell K)) (Dd : Df P w K mg base "_law_drawn" 1 ["cell", "k"] spDrawn) (Ds : Df P w K mg base "_law_no_states" 1 [] (spF 0 fun _ => .list noStates_3)) (De : Df P w K mg base "_law_no_deeds" 1 [] (spF 0 fun _ => .list noDeeds_5))
    (Dns : Df P w K mg base "need_state" 4 ["state"] (spRef c4 isState)) (Dnd : Df P w K mg base "need_deed" 3 ["deed"] (spDeed c0)) (Dnp : Df P w K mg base "need_path" 3 ["path"] (spRef c3 isPath))
    (Ddo : Df P w K mg base "done" 5 ["state", "deed"] (spDone c4 c0)) (Dch : Df P w K mg base "changed" 5 ["state", "other"] (spTwo c4)) (Dbe : Df P w K mg base "between" 6 ["state", "other"] (spTwo c4))
    (TB : TabB base mg c Pt) :
    FnOk P w K mg base L2.CX0 9 f (PySem.W.fnOf "law" "law" (defArgs sLaw) (defBody sLaw) (defScope sLaw) .none kV doc pm an (.ref c) ct) ["script"] (spLaw K Pt) := by
  refine fn_of lk hcd scLaw (fun vs H Q E h => by obtain ⟨_, _, rfl, _⟩ := h; rfl) (fun A outer s H vs Q E hr h => ?_)
  obtain ⟨a, ns, rfl, hS, hlen, hP, kk⟩ := h
  obtain ⟨ocT, odT, kVT, docT, pmT, anT, cdT, ctT, oslT, rfl, lkT, hcT⟩ := FT.ex
  have hu := hu_of hr
  let X : Cx := (cxOf L2.CX0 P w K mg base ["script", "k", "more", "j", "here", "some", "bad", "deed", "good", "state"] "law" (defScope sLaw) f (.ref c) A outer s H E).nox
  let T0 : List (Addr × Str) := [(Pt, X.env.qual ++ "<lambda>")]
  have lamX : ∀ {params : Arguments} {body : Expr} {scope : Scope} {t : XK → TE} {p lpos pos : Pos} (L : LamS (defScope sLaw) scope) (hdef : defaultsOf params X.env = ([], []))
      (hbind : ∀ (q : Str) (cl : List (Str × Addr)) (pm cv ctv : Value), bindArgs (PySem.W.kla_fn "<lambda>" q params body scope cl pm cv ctv) ⟨[], []⟩ = pure [])
      (hbody : ∀ (A : Around) (outer : List Env) (s : Shared) (H : Hp) (E : XK) (f c' : Addr), Room 6 (A.deeper (lamEnv X scope s.heap.objs.size f c')) → PE (lamCxN X A outer s H E scope f c') body (t E)),
      PE X (.Call (.Name "_law_told" p) [.Lambda params body scope lpos] [] pos) (tLam T0 (TTold K [c0, c1, c2, c3, c4, c5] CL) t) := fun {params body scope t p lpos pos} L hdef hbind hbody =>
    pe_lamN (X := X) (T := T0) (x := "_law_told") (a := "deed") (g := gt) (c := c) (P := Pt) (k := 6) (by rfl) gt' FT.kp lkT hcT bt scTold rfl (Or.inl rfl) (told_gives (X := X) FW gw kw bw gL) TB rfl List.mem_cons_self
      (fun p hp _ => by have e : p = (Pt, X.env.qual ++ "<lambda>") := by simpa [T0] using hp
                        rw [e]) hr L hdef hbind hbody
  refine ⟨_, PSs.nox (pss_cons (ps_for PassesOwn.never rfl (pi_range1 (by rfl) T.rng (pa_cons (pe_callB (call_max2 rfl) (by rfl) max (by decide +kernel) (pa_cons pe_int (pa_cons (pe_callB (call_min2 rfl) (by rfl) min (by decide +kernel) (pa_cons pe_int (pa_cons (pe_callB call_len_seq (by rfl) T.len PySem.boot_len (pa_cons (pv 0) pa_nil)) pa_nil))) pa_nil))) pa_nil)) (pg_name (i := 1) scLaw.nd rfl (Or.inl rfl)) (pss_cons (ps_set (i := 2) scLaw.nd rfl (Or.inl rfl) (pe_df Dd hr (by decide) (by rfl) passN (pa_cons (pe_df Dc hr (by decide) (by rfl) passN (pa_cons (pv 0) (pa_cons (pv 1) pa_nil))) (pa_cons (pv 1) pa_nil))))
      (pss_cons (ps_for PassesOwn.never rfl (pi_range1 (by rfl) T.rng (pa_cons pe_int pa_nil)) (pg_name (i := 3) scLaw.nd rfl (Or.inl rfl)) (pss_cons (ps_set (i := 4) scLaw.nd rfl (Or.inl rfl) (pe_df Dd hr (by decide) (by rfl) passN (pa_cons (pv 2) (pa_cons (pv 3) pa_nil))))
      (pss_cons (ps_set (i := 9) scLaw.nd rfl (Or.inr rfl) (pe_ix ix_list (pe_df0 Ds hr (by decide) (by rfl) passN) (pe_op op_mod (pv 4) (pe_callB call_len_seq (by rfl) T.len PySem.boot_len (pa_cons (pe_df0 Ds hr (by decide) (by rfl) passN) pa_nil))) (fun _ _ => rfl)))
      (pss_cons (ps_set (i := 7) scLaw.nd rfl (Or.inr rfl) (pe_ix ix_list (pe_df0 De hr (by decide) (by rfl) passN) (pe_op op_mod (pe_op op_fdiv (pv 4) pe_int) (pe_callB call_len_seq (by rfl) T.len PySem.boot_len (pa_cons (pe_df0 De hr (by decide) (by rfl) passN) pa_nil))) (fun _ _ => rfl)))
      (pss_cons (ps_set (i := 8) scLaw.nd rfl (Or.inr rfl) (pe_dispT hu (pps_cons (pe_tup (pa_cons pe_str pa_nil)) pe_int pps_nil) rfl rfl (fun z => by cases z) (by decide)))
      (pss_cons (ps_set (i := 5) scLaw.nd rfl (Or.inl rfl) (pe_lst (pa_cons (lamX (t := fun E => tCall (spRef c4 isState) [] E (tCons (tVar 9) tNil)) (lamS_by (by decide +kernel)) rfl (fun _ _ _ _ _ => rfl) (fun A outer s H E f c' hr' => pe_df Dns hr' (by decide) (by rfl) (taken (L2N.takes_of rfl rfl rfl rfl) fun _ _ _ _ h => h) (pa_cons (pv 9) pa_nil))) pa_nil)))
      (pss_cons (ps_expr (pe_bm PySem.F.plainAttrs_list PySem.F.slot_list_append PySem.F.type_list_append mt_append (pv 5) (pa_cons (lamX (t := fun E => tCall (spDone c4 c0) [] E (tCons (tVar 9) (tCons (tVar 7) tNil))) (lamS_by (by decide +kernel)) rfl (fun _ _ _ _ _ => rfl) (fun A outer s H E f c' hr' => pe_df Ddo hr' (by decide) (by rfl) (taken (L2N.takes_of rfl rfl rfl rfl) fun _ _ _ _ h => h) (pa_cons (pv 9) (pa_cons (pv 7) pa_nil)))) pa_nil)))
      (pss_cons (ps_expr (pe_bm PySem.F.plainAttrs_list PySem.F.slot_list_append PySem.F.type_list_append mt_append (pv 5) (pa_cons (lamX (t := fun E => tCall (spTwo c4) [] E (tCons (tVar 8) (tCons (tVar 9) tNil))) (lamS_by (by decide +kernel)) rfl (fun _ _ _ _ _ => rfl) (fun A outer s H E f c' hr' => pe_df Dch hr' (by decide) (by rfl) (taken (L2N.takes_of rfl rfl rfl rfl) fun _ _ _ _ h => h) (pa_cons (pv 8) (pa_cons (pv 9) pa_nil)))) pa_nil)))
      (pss_cons (ps_expr (pe_bm PySem.F.plainAttrs_list PySem.F.slot_list_append PySem.F.type_list_append mt_append (pv 5) (pa_cons (lamX (t := fun E => tCall (spTwo c4) [] E (tCons (tVar 9) (tCons (tVar 8) tNil))) (lamS_by (by decide +kernel)) rfl (fun _ _ _ _ _ => rfl) (fun A outer s H E f c' hr' => pe_df Dbe hr' (by decide) (by rfl) (taken (L2N.takes_of rfl rfl rfl rfl) fun _ _ _ _ h => h) (pa_cons (pv 9) (pa_cons (pv 8) pa_nil)))) pa_nil)))
      (pss_cons (ps_if (pt_cmpR (op_neD hr.units) (pv 5) (pe_op op_rep (pe_lst (pa_cons (pe_tup (pa_cons pe_str (pa_cons pe_str pa_nil))) pa_nil)) pe_int) (nomark _)) (pss_one (ps_ret pe_bl)) pss_nil)
      (pss_cons (ps_set (i := 5) scLaw.nd rfl (Or.inl rfl) (pe_lst (pa_cons (lamX (t := fun E => tCall (spDeed c0) [] E (tCons (tVar 7) tNil)) (lamS_by (by decide +kernel)) rfl (fun _ _ _ _ _ => rfl) (fun A outer s H E f c' hr' => pe_df Dnd hr' (by decide) (by rfl) (taken (L2N.takes_of rfl rfl rfl rfl) fun _ _ _ _ h => h) (pa_cons (pv 7) pa_nil))) pa_nil)))
      (pss_cons (ps_expr (pe_bm PySem.F.plainAttrs_list PySem.F.slot_list_append PySem.F.type_list_append mt_append (pv 5) (pa_cons (lamX (t := fun E => tCall (spDone c4 c0) [] E (tCons (tVar 8) (tCons (tVar 7) tNil))) (lamS_by (by decide +kernel)) rfl (fun _ _ _ _ _ => rfl) (fun A outer s H E f c' hr' => pe_df Ddo hr' (by decide) (by rfl) (taken (L2N.takes_of rfl rfl rfl rfl) fun _ _ _ _ h => h) (pa_cons (pv 8) (pa_cons (pv 7) pa_nil)))) pa_nil)))
      (pss_one (ps_if (pt_cmpR (op_neD hr.units) (pv 5) (pe_op op_rep (pe_lst (pa_cons (pe_tup (pa_cons pe_str (pa_cons pe_str pa_nil))) pa_nil)) pe_int) (nomark _)) (pss_one (ps_ret pe_bl)) pss_nil))))))))))))))
      (pss_cons (ps_for PassesOwn.never rfl (pi_list (pe_lst (pa_cons pe_non (pa_cons pe_str (pa_cons (pe_lst (pa_cons pe_str pa_nil)) (pa_cons (pe_tup (pa_cons pe_str pa_nil)) (pa_cons (pe_tup (pa_cons pe_str pa_nil)) (pa_cons (pe_tup (pa_cons pe_str pa_nil)) (pa_cons (pe_op op_repT (pe_tup (pa_cons pe_str pa_nil)) pe_int) (pa_cons (pe_tup (pa_cons pe_int pa_nil)) (pa_cons (pe_tup (pa_cons pe_str (pa_cons pe_non pa_nil))) pa_nil))))))))))) (pg_name (i := 6) scLaw.nd rfl (Or.inr rfl)) (pss_one (ps_if (pt_cmpR (op_neD hr.units) (lamX (t := fun E => tCall (spRef c3 isPath) [] E (tCons (tVar 6) tNil)) (lamS_by (by decide +kernel)) rfl (fun _ _ _ _ _ => rfl) (fun A outer s H E f c' hr' => pe_df Dnp hr' (by decide) (by rfl) (taken (L2N.takes_of rfl rfl rfl rfl) fun _ _ _ _ h => h) (pa_cons (pv 6) pa_nil))) (pe_tup (pa_cons pe_str (pa_cons pe_str pa_nil))) (nomark _)) (pss_one (ps_ret pe_bl)) pss_nil)))
      (pss_one (ps_if (PW.pt (pw_or (pt_cmp (pc_notN (pe_df Dnp hr (by decide) (by rfl) passN (pa_cons (pe_tup pa_nil) pa_nil)))) (pw_or (pt_cmp (pc_notN (pe_df Dnp hr (by decide) (by rfl) passN (pa_cons (pe_op op_repT (pe_tup (pa_cons pe_str pa_nil)) pe_int) pa_nil)))) (pw_or1 (pt_cmp (pc_notN (pe_df Dns hr (by decide) (by rfl) passN (pa_cons pe_dnewT pa_nil)))))))) (pss_one (ps_ret pe_bl)) pss_nil))))))
    (pss_one (ps_ret pe_bl))), ?_⟩
  have hT0 : Tabs T0 H := fun p hp => by
    have e : p = (Pt, X.env.qual ++ "<lambda>") := by simpa [T0] using hp
    rw [e]
    exact TabS.nil hP
  have sq : ∀ {H1 : Hp}, ExtN H H1 → SqL K H1 a (ns.map V.int) := fun {H1} e => by
    rcases hS with (h | ⟨o, h⟩) | h
    · exact .inl (.inl (e _ _ h (fun _ z => nomatch z)))
    · exact .inl (.inr ⟨o, e _ _ h (fun _ z => nomatch z)⟩)
    · exact .inr h
  refine Evl.q_forR1 (n := if (if (ns.length : Int) < 3 then (ns.length : Int) else 3) > 1 then (if (ns.length : Int) < 3 then (ns.length : Int) else 3) else 1) ?gr (by split <;> split <;> omega)
    (fun i σ' H' => Fr10 a σ' ∧ ExtN H H' ∧ Tabs T0 H') (fun H1 e1 => ⟨⟨_, _, _, _, _, _, _, _, _, rfl⟩, exN e1, hT0.ext e1⟩) (fun i σ' H1 hi ⟨⟨o1, o2, o3, o4, o5, o6, o7, o8, o9, e⟩, x1, t1⟩ => ?_) (fun σ' H1 ⟨_, _, _⟩ => kk H1)
  case gr =>
    refine Evl.ea_cons (Evl.ev_max2 Evl.ev_c ?_) Evl.ea_nil
    intro H1 e1 Q1 q1
    refine ⟨_, rfl, a, ns.map V.int, rfl, .inl (sq (exN e1)), 3, _, rfl, ?_⟩
    rw [List.length_map]
    exact q1 H1 (Ex.refl _)
  subst e
  have hi3 : (i : Int) < 3 := by
    revert hi
    split <;> split <;> omega
  show tSeq _ _ _ [some (.ref a), some (.int (i : Int)), o2, o3, o4, o5, o6, o7, o8, o9] H1
  -- more
  refine ⟨_, rfl, _, rfl, a, ns, (i : Int), rfl, sq x1, by omega, by omega, by omega, fun c1 H2 s2 => ⟨_, rfl, c1, (i : Int), rfl, by omega, by omega, fun more H3 m0 m1 s3 => ?_⟩⟩
  have e13 : Ex H1 H3 := s2.trans s3
  show tSeq _ _ _ [some (.ref a), some (.int (i : Int)), some (.int more), o3, o4, o5, o6, o7, o8, o9] H3
  -- six turns
  refine Evl.q_forR1 (n := 6) (Evl.ea_cons Evl.ev_c Evl.ea_nil) (by decide) (fun j σ' H' => (∃ o3 o4 o5 o6 o7 o8 o9, σ' = [some (.ref a), some (.int (i : Int)), some (.int more), o3, o4, o5, o6, o7, o8, o9]) ∧ ExtN H H' ∧ Tabs T0 H')
    (fun H4 e4 => ⟨⟨_, _, _, _, _, _, _, rfl⟩, (x1.trans (exN e13)).trans (exN e4), (t1.ext e13).ext e4⟩) (fun j σ' H4 hj ⟨⟨p3, p4, p5, p6, p7, p8, p9, e⟩, x4, t4⟩ => ?_) (fun σ' H4 ⟨⟨p3, p4, p5, p6, p7, p8, p9, e⟩, x4, t4⟩ => ?_)
  · subst e
    have hj6 : (j : Int) < 6 := hj
    show tSeq _ _ _ [some (.ref a), some (.int (i : Int)), some (.int more), some (.int (j : Int)), p4, p5, p6, p7, p8, p9] H4
    refine ⟨_, rfl, _, rfl, more, (j : Int), rfl, by omega, by omega, fun here H5 h0 h1 s5 => ?_⟩
    show tSeq _ _ _ [some (.ref a), some (.int (i : Int)), some (.int more), some (.int (j : Int)), some (.int here), p5, p6, p7, p8, p9] H5
    -- state
    obtain ⟨n1, hn1⟩ : ∃ n : Nat, here % (noStates_3.length : Int) = (n : Int) := ⟨(here % (noStates_3.length : Int)).toNat, by have := Int.emod_nonneg here (b := (noStates_3.length : Int)) (by decide); omega⟩
    have hl1 : n1 < noStates_3.length := by have := Int.emod_lt_of_pos here (b := (noStates_3.length : Int)) (by decide); omega
    refine q_asgD (d := noStates_3[n1]) (ed_ixL (ds := noStates_3) (k := n1) (ed_call (E := E0) (n := 0) (d := .list noStates_3) eds_nil rfl rfl) (ed_is (d := .int (here % (noStates_3.length : Int))) (ed_I (i := here) (j := (noStates_3.length : Int)) (ed_var rfl (.int _)) (ed_lenQ (ed_call (E := E0) (n := 0) (d := .list noStates_3) eds_nil rfl rfl) (.inr rfl)) (by decide) (.int _)) (by rw [hn1])) (List.getElem?_eq_getElem hl1)) fun vS H6 e6 rS => ?_
    generalize hdS : noStates_3[n1] = dS at rS
    have bS : isState dS = false := noStates_bad dS (by rw [← hdS]; exact List.getElem_mem _)
    show tSeq _ _ _ [some (.ref a), some (.int (i : Int)), some (.int more), some (.int (j : Int)), some (.int here), p5, p6, p7, p8, some vS] H6
    -- deed
    obtain ⟨n2, hn2⟩ : ∃ n : Nat, here / 64 % (noDeeds_5.length : Int) = (n : Int) := ⟨(here / 64 % (noDeeds_5.length : Int)).toNat, by have := Int.emod_nonneg (here / 64) (b := (noDeeds_5.length : Int)) (by decide); omega⟩
    have hl2 : n2 < noDeeds_5.length := by have := Int.emod_lt_of_pos (here / 64) (b := (noDeeds_5.length : Int)) (by decide); omega
    refine q_asgD (d := noDeeds_5[n2]) (ed_ixL (ds := noDeeds_5) (k := n2) (ed_call (E := E0) (n := 0) (d := .list noDeeds_5) eds_nil rfl rfl) (ed_is (d := .int (here / 64 % (noDeeds_5.length : Int))) (ed_I (i := here / 64) (j := (noDeeds_5.length : Int)) (ed_I (i := here) (j := 64) (ed_var rfl (.int _)) (ed_c (.int 64)) ⟨by decide, by decide⟩ (.int _)) (ed_lenQ (ed_call (E := E0) (n := 0) (d := .list noDeeds_5) eds_nil rfl rfl) (.inr rfl)) (by decide) (.int _)) (by rw [hn2])) (List.getElem?_eq_getElem hl2)) fun vE H7 e7 rE => ?_
    generalize hdE : noDeeds_5[n2] = dE at rE
    obtain ⟨bE, hE⟩ : needDeed dE = false ∧ headOk dE := by
      obtain ⟨z1, z2⟩ := noDeeds_bad dE (by rw [← hdE]; exact List.getElem_mem _)
      exact ⟨z1, headOk_of z2⟩
    show tSeq _ _ _ [some (.ref a), some (.int (i : Int)), some (.int more), some (.int (j : Int)), some (.int here), p5, p6, some vE, p8, some vS] H7
    -- good
    refine q_asgD (d := goodD) (ed_is (ed_dispT (eps_cons (k := [Sum.inr "a"]) (v := .int 1) (Evl.eu_tup (vs := [V.str "a"]) (Evl.ea_cons Evl.ev_c Evl.ea_nil) (by decide)) eps_nil) (by decide +kernel) (by decide) (by decide +kernel)) rfl) fun vG H8 e8 rG => ?_
    show tSeq _ _ _ [some (.ref a), some (.int (i : Int)), some (.int more), some (.int (j : Int)), some (.int here), p5, p6, some vE, some vG, some vS] H8
    have e48 : Ex H4 H8 := ((Evl.Ex.trans s5 e6).trans e7).trans e8
    have xb : ExtN H H8 := x4.trans (exN e48)
    have tb : Tabs T0 H8 := t4.ext e48
    have rS8 : R H8 vS dS := (rS.ext (exN e7)).ext (exN e8)
    have rE8 : R H8 vE dE := rE.ext (exN e8)
    -- need_state(state)
    refine q_some (Hb := H8) (nm := "BadState") tb (ExtN.refl _) O4 (by decide +kernel) (fun Hx ex E' Q' hq => ⟨_, rfl, vS, dS, rfl, rS8.ext ex, (fun z => absurd z (by rw [bS]; exact Bool.false_ne_true)), fun _ => hq⟩) fun l1 H9 S9 => ?_
    show tSeq _ _ _ [some (.ref a), some (.int (i : Int)), some (.int more), some (.int (j : Int)), some (.int here), some (.ref l1), p6, some vE, some vG, some vS] H9
    refine q_app (nm := "BadState") rfl S9 (by decide) O4 (by decide +kernel) (fun Hx ex E' Q' hq => ⟨_, rfl, _, rfl, vS, vE, dS, dE, rfl, rS8.ext (S9.ext.trans ex), rE8.ext (S9.ext.trans ex), hE, (fun _ => hq), fun z => absurd z (by rw [bS]; exact Bool.false_ne_true)⟩) fun H10 S10 => ?_
    refine q_app (nm := "BadState") rfl S10 (by decide) O4 (by decide +kernel) (fun Hx ex E' Q' hq => ⟨_, rfl, _, rfl, vG, vS, goodD, dS, rfl, rG.ext (S10.ext.trans ex), rS8.ext (S10.ext.trans ex), (fun _ => bS), hq⟩) fun H11 S11 => ?_
    refine q_app (nm := "BadState") rfl S11 (by decide) O4 (by decide +kernel) (fun Hx ex E' Q' hq => ⟨_, rfl, _, rfl, vS, vG, dS, goodD, rfl, rS8.ext (S11.ext.trans ex), rG.ext (S11.ext.trans ex), (fun z => absurd z (by rw [bS]; exact Bool.false_ne_true)), hq⟩) fun H12 S12 => ?_
    obtain ⟨xs12, hl12, rs12⟩ := S12.ex
    refine Evl.q_when (b := false) (Evl.et_is (Evl.et_test (ed_ne (d := .list (([("BadState" : Str), "BadState", "BadState", "BadState"] : List Str).map refused)) (e := .list (([("BadState" : Str), "BadState", "BadState", "BadState"] : List Str).map refused)) (ed_var rfl (.lst hl12 rs12)) (ed_is (ed_repL (n := 4) (ed_lst (eds_cons (ed_tup (eds_cons (ed_c (.str _ (by decide +kernel))) (eds_cons (ed_c (.str _ (by decide +kernel))) eds_nil)) (by simp)) eds_nil) (by simp)) (by simp) (by decide)) rfl) (shaped_ref _ (by decide +kernel)) (shaped_ref _ (by decide +kernel))).vb) (by decide +kernel)) (fun z => by cases z) (fun _ H13 e13' => ?_)
    have S13 := S12.ofEx e13'
    -- need_deed(deed)
    refine q_some (Hb := H8) (nm := "BadDeed") S13.tabs S13.ext O0 (by decide +kernel) (fun Hx ex E' Q' hq => ⟨_, rfl, vE, dE, rfl, rE8.ext (S13.ext.trans ex), hE, (fun z => absurd z (by rw [bE]; exact Bool.false_ne_true)), fun _ => hq⟩) fun l2 H14 S14 => ?_
    show tSeq _ _ _ [some (.ref a), some (.int (i : Int)), some (.int more), some (.int (j : Int)), some (.int here), some (.ref l2), p6, some vE, some vG, some vS] H14
    refine q_app (nm := "BadDeed") rfl S14 (by decide) O0 (by decide +kernel) (fun Hx ex E' Q' hq => ⟨_, rfl, _, rfl, vG, vE, goodD, dE, rfl, rG.ext (S14.ext.trans ex), rE8.ext (S14.ext.trans ex), hE, (fun z => absurd z (by rw [good_ok]; exact fun z => nomatch z)), fun _ => ⟨bE, hq⟩⟩) fun H15 S15 => ?_
    obtain ⟨xs15, hl15, rs15⟩ := S15.ex
    refine Evl.s_when (b := false) (Evl.et_is (Evl.et_test (ed_ne (d := .list (([("BadDeed" : Str), "BadDeed"] : List Str).map refused)) (e := .list (([("BadDeed" : Str), "BadDeed"] : List Str).map refused)) (ed_var rfl (.lst hl15 rs15)) (ed_is (ed_repL (n := 2) (ed_lst (eds_cons (ed_tup (eds_cons (ed_c (.str _ (by decide +kernel))) (eds_cons (ed_c (.str _ (by decide +kernel))) eds_nil)) (by simp)) eds_nil) (by simp)) (by simp) (by decide)) rfl) (shaped_ref _ (by decide +kernel)) (shaped_ref _ (by decide +kernel))).vb) (by decide +kernel)) (fun z => by cases z) (fun _ H16 e16 => ?_)
    exact ⟨⟨_, _, _, _, _, _, _, rfl⟩, (xb.trans S15.ext).trans (exN e16), S15.tabs.ext e16⟩
  · subst e
    -- bad paths
    refine q_forD (ds := badPaths) (ed_is (ed_lst (eds_cons (ed_c .non) (eds_cons (ed_c (.str _ (by decide +kernel))) (eds_cons (ed_lst (eds_cons (ed_c (.str _ (by decide +kernel))) eds_nil) (by simp)) (eds_cons (ed_tup (eds_cons (ed_c (.str _ (by decide +kernel))) eds_nil) (by simp)) (eds_cons (ed_tup (eds_cons (ed_c (.str _ (by decide +kernel))) eds_nil) (by simp)) (eds_cons (ed_tup (eds_cons (ed_c (.str _ (by decide +kernel))) eds_nil) (by simp)) (eds_cons (EvD.ofU (eu_repT (n := 5) (Evl.eu_tup (vs := [V.str "a"]) (Evl.ea_cons Evl.ev_c Evl.ea_nil) (by decide)) (by simp) (by decide) (by decide) (by decide)) (.cons (.str _ (by decide +kernel)) (.cons (.str _ (by decide +kernel)) (.cons (.str _ (by decide +kernel)) (.cons (.str _ (by decide +kernel)) (.cons (.str _ (by decide +kernel)) .nil)))))) (eds_cons (ed_tup (eds_cons (ed_c (.int 1)) eds_nil) (by simp)) (eds_cons (ed_tup (eds_cons (ed_c (.str _ (by decide +kernel))) (eds_cons (ed_c .non) eds_nil)) (by simp)) eds_nil))))))))) (by simp)) rfl) (fun n σ' H' => Fr10 a σ' ∧ ExtN H H' ∧ Tabs T0 H') (fun H5 e5 => ⟨⟨_, _, _, _, _, _, _, _, _, rfl⟩, x4.trans (exN e5), t4.ext e5⟩) (fun H5 n x d σ' H6 e5 hd rx x6 ⟨⟨q1, q2, q3, q4, q5, q6, q7, q8, q9, e⟩, x7, t7⟩ => ?_) (fun σ' H5 ⟨⟨q1, q2, q3, q4, q5, q6, q7, q8, q9, e⟩, x7, t7⟩ => ?_)
    · subst e
      have bP : isPath d = false := badPaths_bad d (List.mem_of_getElem? hd)
      show tIfS _ _ _ _ [some (.ref a), q1, q2, q3, q4, q5, some x, q7, q8, q9] H6
      refine told_ev (nm := "BadPath") t7 O3 (by decide +kernel) (fun Hx ex E' Q' hq => ⟨_, rfl, x, d, rfl, (rx.ext x6).ext ex, (fun z => absurd z (by rw [bP]; exact Bool.false_ne_true)), fun _ => hq⟩) fun v H7 x8 t8 r8 => ?_
      refine ⟨by decide, fun p9 hp9 => ⟨refused "BadPath", refused "BadPath", (r8.ext (exN (Ex.new hp9))).dp (by decide +kernel), ?_, by decide +kernel, by decide +kernel, ?_⟩⟩
      · exact (R.tup (ds := [.str "refused", .str "BadPath"]) upd_same (.cons (.str _ (by decide +kernel)) (.cons (.str _ (by decide +kernel)) .nil))).dp (by decide +kernel)
      · refine ⟨false, by decide +kernel, ?_⟩
        show _ ∧ _
        exact ⟨⟨⟨_, _, _, _, _, _, _, _, _, rfl⟩, (x7.trans x8).trans (exN (Ex.new hp9)), t8.ext (Ex.new hp9)⟩, (x6.trans x8).trans (exN (Ex.new hp9))⟩
    · subst e
      refine Evl.s_when (b := false) (Evl.et_is (Evl.et_or (et_refN (eds_cons (ed_tup eds_nil (by simp)) eds_nil) ok_path0) (fun _ => Evl.et_or (et_refN (eds_cons (EvD.ofU (eu_repT (n := 4) (Evl.eu_tup (vs := [V.str "a"]) (Evl.ea_cons Evl.ev_c Evl.ea_nil) (by decide)) (by simp) (by decide) (by decide) (by decide)) (.cons (.str _ (by decide +kernel)) (.cons (.str _ (by decide +kernel)) (.cons (.str _ (by decide +kernel)) (.cons (.str _ (by decide +kernel)) .nil))))) eds_nil) ok_path4) (fun _ => et_refN (eds_cons ed_dnewT eds_nil) ok_state0))) rfl) (fun z => by cases z) (fun _ H6 e6 => ?_)
      exact ⟨⟨_, _, _, _, _, _, _, _, _, rfl⟩, x7.trans (exN e6), t7.ext e6⟩
end
end Lk
set_option Elab.async false
set_option linter.all false
set_option maxRecDepth 100000
set_option maxHeartbeats 8000000
namespace Lk
open PySem PySem.Spec PyProof.Rows L2 HotX L2H LamX
theorem all_mk {w : World} {K : PySem.W.Frag} {h : Heap} {mg : Str → Option Value} {fa Pt c17z f0 f1 f2 f3 f4 f5 f6 f7 f8 f9 f10 f11 f12 f13 f14 f15 f16 f17 e_BadDeed e_BadLook e_BadNumber e_BadPath e_BadState e_Storm e_LookError aL : Addr} {od0 an0 od1 an1 od2 an2 od3 an3 od4 an4 od5 an5 od6 an6 od7 an7 od8 an8 od9 an9 od10 an10 od11 an11 od12 an12 od13 an13 od14 an14 od15 an15 od16 an16 od17 an17 : Option Addr} {sl0 sl1 sl2 sl3 sl4 sl5 sl6 sl7 sl8 sl9 sl10 sl11 sl12 sl13 sl14 sl15 sl16 sl17 : Array (Option Value)} {oc0 kV0 dc0 pm0 ct0 cd0 oc1 kV1 dc1 pm1 ct1 cd1 oc2 kV2 dc2 pm2 ct2 cd2 oc3 kV3 dc3 pm3 ct3 cd3 oc4 kV4 dc4 pm4 ct4 cd4 oc5 kV5 dc5 pm5 ct5 cd5 oc6 kV6 dc6 pm6 ct6 cd6 oc7 kV7 dc7 pm7 ct7 cd7 oc8 kV8 dc8 pm8 ct8 cd8 oc9 kV9 dc9 pm9 ct9 cd9 oc10 kV10 dc10 pm10 ct10 cd10 oc11 kV11 dc11 pm11 ct11 cd11 oc12 kV12 dc12 pm12 ct12 cd12 oc13 kV13 dc13 pm13 ct13 cd13 oc14 kV14 dc14 pm14 ct14 cd14 oc15 kV15 dc15 pm15 ct15 cd15 oc16 kV16 dc16 pm16 ct16 cd16 oc17 kV17 dc17 pm17 ct17 u_SMALL u_MOST_WORD u_MOST_DEEP u_MOST_WORTH u_set u_add u_drop u_move : Value} {esL : Array DictEntry} {nL : Nat}
    (X : K.In h) (G : h.Ns mainGlobals mg) (hfa : mg "law" = some (.ref fa)) (hP : h.get? Pt = some (PySem.W.tabObj #[]))
    (a0 : PySem.W.nsIn K mainGlobals "need" = some (some (.ref f0)))
    (l0 : K.lookup f0 = some ⟨oc0, od0, .func (PySem.W.fnOf "need" "need" (defArgs sNeed) (defBody sNeed) (defScope sNeed) .none kV0 dc0 pm0 an0 cd0 ct0), sl0⟩)
    (c0 : PySem.W.codeIn K cd0 "need" = true)
    (k0 : PySem.W.keepIn K (.ref f0) = true)
    (a1 : PySem.W.nsIn K mainGlobals "is_word" = some (some (.ref f1)))
    (l1 : K.lookup f1 = some ⟨oc1, od1, .func (PySem.W.fnOf "is_word" "is_word" (defArgs sIsWord) (defBody sIsWord) (defScope sIsWord) .none kV1 dc1 pm1 an1 cd1 ct1), sl1⟩)
    (c1 : PySem.W.codeIn K cd1 "is_word" = true)
    (k1 : PySem.W.keepIn K (.ref f1) = true)
    (a2 : PySem.W.nsIn K mainGlobals "is_path" = some (some (.ref f2)))
    (l2 : K.lookup f2 = some ⟨oc2, od2, .func (PySem.W.fnOf "is_path" "is_path" (defArgs sIsPath) (defBody sIsPath) (defScope sIsPath) .none kV2 dc2 pm2 an2 cd2 ct2), sl2⟩)
    (c2 : PySem.W.codeIn K cd2 "is_path" = true)
    (k2 : PySem.W.keepIn K (.ref f2) = true)
    (a3 : PySem.W.nsIn K mainGlobals "need_path" = some (some (.ref f3)))
    (l3 : K.lookup f3 = some ⟨oc3, od3, .func (PySem.W.fnOf "need_path" "need_path" (defArgs sNeedPath) (defBody sNeedPath) (defScope sNeedPath) .none kV3 dc3 pm3 an3 cd3 ct3), sl3⟩)
    (c3 : PySem.W.codeIn K cd3 "need_path" = true)
    (k3 : PySem.W.keepIn K (.ref f3) = true)
    (a4 : PySem.W.nsIn K mainGlobals "is_number" = some (some (.ref f4)))
    (l4 : K.lookup f4 = some ⟨oc4, od4, .func (PySem.W.fnOf "is_number" "is_number" (defArgs sIsNumber) (defBody sIsNumber) (defScope sIsNumber) .none kV4 dc4 pm4 an4 cd4 ct4), sl4⟩)
    (c4 : PySem.W.codeIn K cd4 "is_number" = true)
    (k4 : PySem.W.keepIn K (.ref f4) = true)
    (a5 : PySem.W.nsIn K mainGlobals "is_state" = some (some (.ref f5)))
    (l5 : K.lookup f5 = some ⟨oc5, od5, .func (PySem.W.fnOf "is_state" "is_state" (defArgs sIsState) (defBody sIsState) (defScope sIsState) .none kV5 dc5 pm5 an5 cd5 ct5), sl5⟩)
    (c5 : PySem.W.codeIn K cd5 "is_state" = true)
    (k5 : PySem.W.keepIn K (.ref f5) = true)
    (a6 : PySem.W.nsIn K mainGlobals "need_state" = some (some (.ref f6)))
    (l6 : K.lookup f6 = some ⟨oc6, od6, .func (PySem.W.fnOf "need_state" "need_state" (defArgs sNeedState) (defBody sNeedState) (defScope sNeedState) .none kV6 dc6 pm6 an6 cd6 ct6), sl6⟩)
    (c6 : PySem.W.codeIn K cd6 "need_state" = true)
    (k6 : PySem.W.keepIn K (.ref f6) = true)
    (a7 : PySem.W.nsIn K mainGlobals "need_deed" = some (some (.ref f7)))
    (l7 : K.lookup f7 = some ⟨oc7, od7, .func (PySem.W.fnOf "need_deed" "need_deed" (defArgs sNeedDeed) (defBody sNeedDeed) (defScope sNeedDeed) .none kV7 dc7 pm7 an7 cd7 ct7), sl7⟩)
    (c7 : PySem.W.codeIn K cd7 "need_deed" = true)
    (k7 : PySem.W.keepIn K (.ref f7) = true)
    (a8 : PySem.W.nsIn K mainGlobals "done" = some (some (.ref f8)))
    (l8 : K.lookup f8 = some ⟨oc8, od8, .func (PySem.W.fnOf "done" "done" (defArgs sDone) (defBody sDone) (defScope sDone) .none kV8 dc8 pm8 an8 cd8 ct8), sl8⟩)
    (c8 : PySem.W.codeIn K cd8 "done" = true)
    (k8 : PySem.W.keepIn K (.ref f8) = true)
    (a9 : PySem.W.nsIn K mainGlobals "changed" = some (some (.ref f9)))
    (l9 : K.lookup f9 = some ⟨oc9, od9, .func (PySem.W.fnOf "changed" "changed" (defArgs sChanged) (defBody sChanged) (defScope sChanged) .none kV9 dc9 pm9 an9 cd9 ct9), sl9⟩)
    (c9 : PySem.W.codeIn K cd9 "changed" = true)
    (k9 : PySem.W.keepIn K (.ref f9) = true)
    (a10 : PySem.W.nsIn K mainGlobals "between" = some (some (.ref f10)))
    (l10 : K.lookup f10 = some ⟨oc10, od10, .func (PySem.W.fnOf "between" "between" (defArgs sBetween) (defBody sBetween) (defScope sBetween) .none kV10 dc10 pm10 an10 cd10 ct10), sl10⟩)
    (c10 : PySem.W.codeIn K cd10 "between" = true)
    (k10 : PySem.W.keepIn K (.ref f10) = true)
    (a11 : PySem.W.nsIn K mainGlobals "_law_cell" = some (some (.ref f11)))
    (l11 : K.lookup f11 = some ⟨oc11, od11, .func (PySem.W.fnOf "_law_cell" "_law_cell" (defArgs sCell) (defBody sCell) (defScope sCell) .none kV11 dc11 pm11 an11 cd11 ct11), sl11⟩)
    (c11 : PySem.W.codeIn K cd11 "_law_cell" = true)
    (k11 : PySem.W.keepIn K (.ref f11) = true)
    (a12 : PySem.W.nsIn K mainGlobals "_law_drawn" = some (some (.ref f12)))
    (l12 : K.lookup f12 = some ⟨oc12, od12, .func (PySem.W.fnOf "_law_drawn" "_law_drawn" (defArgs sDrawn) (defBody sDrawn) (defScope sDrawn) .none kV12 dc12 pm12 an12 cd12 ct12), sl12⟩)
    (c12 : PySem.W.codeIn K cd12 "_law_drawn" = true)
    (k12 : PySem.W.keepIn K (.ref f12) = true)
    (a13 : PySem.W.nsIn K mainGlobals "_law_word" = some (some (.ref f13)))
    (l13 : K.lookup f13 = some ⟨oc13, od13, .func (PySem.W.fnOf "_law_word" "_law_word" (defArgs sWord) (defBody sWord) (defScope sWord) .none kV13 dc13 pm13 an13 cd13 ct13), sl13⟩)
    (c13 : PySem.W.codeIn K cd13 "_law_word" = true)
    (k13 : PySem.W.keepIn K (.ref f13) = true)
    (a14 : PySem.W.nsIn K mainGlobals "_law_told" = some (some (.ref f14)))
    (l14 : K.lookup f14 = some ⟨oc14, od14, .func (PySem.W.fnOf "_law_told" "_law_told" (defArgs sTold) (defBody sTold) (defScope sTold) .none kV14 dc14 pm14 an14 cd14 ct14), sl14⟩)
    (c14 : PySem.W.codeIn K cd14 "_law_told" = true)
    (k14 : PySem.W.keepIn K (.ref f14) = true)
    (a15 : PySem.W.nsIn K mainGlobals "_law_no_states" = some (some (.ref f15)))
    (l15 : K.lookup f15 = some ⟨oc15, od15, .func (PySem.W.fnOf "_law_no_states" "_law_no_states" (defArgs sNoStates) (defBody sNoStates) (defScope sNoStates) .none kV15 dc15 pm15 an15 cd15 ct15), sl15⟩)
    (c15 : PySem.W.codeIn K cd15 "_law_no_states" = true)
    (k15 : PySem.W.keepIn K (.ref f15) = true)
    (a16 : PySem.W.nsIn K mainGlobals "_law_no_deeds" = some (some (.ref f16)))
    (l16 : K.lookup f16 = some ⟨oc16, od16, .func (PySem.W.fnOf "_law_no_deeds" "_law_no_deeds" (defArgs sNoDeeds) (defBody sNoDeeds) (defScope sNoDeeds) .none kV16 dc16 pm16 an16 cd16 ct16), sl16⟩)
    (c16 : PySem.W.codeIn K cd16 "_law_no_deeds" = true)
    (k16 : PySem.W.keepIn K (.ref f16) = true)
    (a17 : PySem.W.nsIn K mainGlobals "law" = some (some (.ref f17)))
    (l17 : K.lookup f17 = some ⟨oc17, od17, .func (PySem.W.fnOf "law" "law" (defArgs sLaw) (defBody sLaw) (defScope sLaw) .none kV17 dc17 pm17 an17 (.ref c17z) ct17), sl17⟩)
    (c17 : PySem.W.codeIn K (.ref c17z) "law" = true)
    (k17 : PySem.W.keepIn K (.ref f17) = true)
    (n_isinstance : PySem.W.nsIn K mainGlobals "isinstance" = some none)
    (n_len : PySem.W.nsIn K mainGlobals "len" = some none)
    (n_all : PySem.W.nsIn K mainGlobals "all" = some none)
    (n_any : PySem.W.nsIn K mainGlobals "any" = some none)
    (n_abs : PySem.W.nsIn K mainGlobals "abs" = some none)
    (n_range : PySem.W.nsIn K mainGlobals "range" = some none)
    (n_str : PySem.W.nsIn K mainGlobals "str" = some none)
    (n_tuple : PySem.W.nsIn K mainGlobals "tuple" = some none)
    (n_int : PySem.W.nsIn K mainGlobals "int" = some none)
    (n_bool : PySem.W.nsIn K mainGlobals "bool" = some none)
    (n_dict : PySem.W.nsIn K mainGlobals "dict" = some none)
    (n_max : PySem.W.nsIn K mainGlobals "max" = some none)
    (n_min : PySem.W.nsIn K mainGlobals "min" = some none)
    (n_sum : PySem.W.nsIn K mainGlobals "sum" = some none)
    (n_ValueError : PySem.W.nsIn K mainGlobals "ValueError" = some none)
    (v_SMALL : PySem.W.nsIn K mainGlobals "SMALL" = some (some u_SMALL))
    (r_SMALL : RelV (.str smallS) u_SMALL)
    (v_MOST_WORD : PySem.W.nsIn K mainGlobals "MOST_WORD" = some (some u_MOST_WORD))
    (r_MOST_WORD : RelV (.int 6) u_MOST_WORD)
    (v_MOST_DEEP : PySem.W.nsIn K mainGlobals "MOST_DEEP" = some (some u_MOST_DEEP))
    (r_MOST_DEEP : RelV (.int 4) u_MOST_DEEP)
    (v_MOST_WORTH : PySem.W.nsIn K mainGlobals "MOST_WORTH" = some (some u_MOST_WORTH))
    (r_MOST_WORTH : RelV (.int 1000000000) u_MOST_WORTH)
    (g_BadDeed : PySem.W.nsIn K mainGlobals "BadDeed" = some (some (.ref e_BadDeed)))
    (g_BadLook : PySem.W.nsIn K mainGlobals "BadLook" = some (some (.ref e_BadLook)))
    (g_BadNumber : PySem.W.nsIn K mainGlobals "BadNumber" = some (some (.ref e_BadNumber)))
    (g_BadPath : PySem.W.nsIn K mainGlobals "BadPath" = some (some (.ref e_BadPath)))
    (g_BadState : PySem.W.nsIn K mainGlobals "BadState" = some (some (.ref e_BadState)))
    (g_Storm : PySem.W.nsIn K mainGlobals "Storm" = some (some (.ref e_Storm)))
    (g_LookError : PySem.W.nsIn K mainGlobals "LookError" = some (some (.ref e_LookError)))
    (x_BadDeed : PySem.W.excIn K e_BadDeed [.type "ValueError", .type "Exception", .type "BaseException", .type "object"] "ValueError.__new__" = true)
    (kp_BadDeed : PySem.W.keepIn K (.ref e_BadDeed) = true)
    (sb_BadDeed : PySem.W.subIn K (.ref e_BadDeed) (.type "BaseException") = some true)
    (ty_BadDeed : PySem.W.typeIn K (.ref e_BadDeed) = some (.type "type"))
    (hg_BadDeed : PySem.W.findIn K (.ref e_BadDeed) "__getattribute__" = some (some (.builtin "BaseException.__getattribute__")))
    (hk_BadDeed : PySem.W.findIn K (.ref e_BadDeed) "__getattr__" = some none)
    (hd_BadDeed : PySem.W.hasDictIn K e_BadDeed = true)
    (ha_BadDeed : PySem.W.findIn K (.ref e_BadDeed) "__class__" = some (some (.builtin "object.__class__")))
    (hm_BadDeed : PySem.W.mroIn K e_BadDeed (.type "object") = some true)
    (ki_BadDeed_BadDeed : PySem.W.kitOne K (.ref e_BadDeed) (.ref e_BadDeed) = some true)
    (ki_BadDeed_BadLook : PySem.W.kitOne K (.ref e_BadDeed) (.ref e_BadLook) = some false)
    (ki_BadDeed_BadNumber : PySem.W.kitOne K (.ref e_BadDeed) (.ref e_BadNumber) = some false)
    (ki_BadDeed_BadPath : PySem.W.kitOne K (.ref e_BadDeed) (.ref e_BadPath) = some false)
    (ki_BadDeed_BadState : PySem.W.kitOne K (.ref e_BadDeed) (.ref e_BadState) = some false)
    (ki_BadDeed_Storm : PySem.W.kitOne K (.ref e_BadDeed) (.ref e_Storm) = some false)
    (kv_BadDeed : PySem.W.kitOne K (.ref e_BadDeed) (.type "ValueError") = some true)
    (ex_BadDeed : PySem.W.exmOne K (.ref e_BadDeed) (.ref e_LookError) = some true)
    (x_BadPath : PySem.W.excIn K e_BadPath [.type "ValueError", .type "Exception", .type "BaseException", .type "object"] "ValueError.__new__" = true)
    (kp_BadPath : PySem.W.keepIn K (.ref e_BadPath) = true)
    (sb_BadPath : PySem.W.subIn K (.ref e_BadPath) (.type "BaseException") = some true)
    (ty_BadPath : PySem.W.typeIn K (.ref e_BadPath) = some (.type "type"))
    (hg_BadPath : PySem.W.findIn K (.ref e_BadPath) "__getattribute__" = some (some (.builtin "BaseException.__getattribute__")))
    (hk_BadPath : PySem.W.findIn K (.ref e_BadPath) "__getattr__" = some none)
    (hd_BadPath : PySem.W.hasDictIn K e_BadPath = true)
    (ha_BadPath : PySem.W.findIn K (.ref e_BadPath) "__class__" = some (some (.builtin "object.__class__")))
    (hm_BadPath : PySem.W.mroIn K e_BadPath (.type "object") = some true)
    (ki_BadPath_BadDeed : PySem.W.kitOne K (.ref e_BadPath) (.ref e_BadDeed) = some false)
    (ki_BadPath_BadLook : PySem.W.kitOne K (.ref e_BadPath) (.ref e_BadLook) = some false)
    (ki_BadPath_BadNumber : PySem.W.kitOne K (.ref e_BadPath) (.ref e_BadNumber) = some false)
    (ki_BadPath_BadPath : PySem.W.kitOne K (.ref e_BadPath) (.ref e_BadPath) = some true)
    (ki_BadPath_BadState : PySem.W.kitOne K (.ref e_BadPath) (.ref e_BadState) = some false)
    (ki_BadPath_Storm : PySem.W.kitOne K (.ref e_BadPath) (.ref e_Storm) = some false)
    (kv_BadPath : PySem.W.kitOne K (.ref e_BadPath) (.type "ValueError") = some true)
    (ex_BadPath : PySem.W.exmOne K (.ref e_BadPath) (.ref e_LookError) = some true)
    (x_BadState : PySem.W.excIn K e_BadState [.type "ValueError", .type "Exception", .type "BaseException", .type "object"] "ValueError.__new__" = true)
    (kp_BadState : PySem.W.keepIn K (.ref e_BadState) = true)
    (sb_BadState : PySem.W.subIn K (.ref e_BadState) (.type "BaseException") = some true)
    (ty_BadState : PySem.W.typeIn K (.ref e_BadState) = some (.type "type"))
    (hg_BadState : PySem.W.findIn K (.ref e_BadState) "__getattribute__" = some (some (.builtin "BaseException.__getattribute__")))
    (hk_BadState : PySem.W.findIn K (.ref e_BadState) "__getattr__" = some none)
    (hd_BadState : PySem.W.hasDictIn K e_BadState = true)
    (ha_BadState : PySem.W.findIn K (.ref e_BadState) "__class__" = some (some (.builtin "object.__class__")))
    (hm_BadState : PySem.W.mroIn K e_BadState (.type "object") = some true)
    (ki_BadState_BadDeed : PySem.W.kitOne K (.ref e_BadState) (.ref e_BadDeed) = some false)
    (ki_BadState_BadLook : PySem.W.kitOne K (.ref e_BadState) (.ref e_BadLook) = some false)
    (ki_BadState_BadNumber : PySem.W.kitOne K (.ref e_BadState) (.ref e_BadNumber) = some false)
    (ki_BadState_BadPath : PySem.W.kitOne K (.ref e_BadState) (.ref e_BadPath) = some false)
    (ki_BadState_BadState : PySem.W.kitOne K (.ref e_BadState) (.ref e_BadState) = some true)
    (ki_BadState_Storm : PySem.W.kitOne K (.ref e_BadState) (.ref e_Storm) = some false)
    (kv_BadState : PySem.W.kitOne K (.ref e_BadState) (.type "ValueError") = some true)
    (ex_BadState : PySem.W.exmOne K (.ref e_BadState) (.ref e_LookError) = some true)
    (hn : PySem.W.specialIn K (.builtin "object.__class__") "__get__" = some (some (.builtin "getset_descriptor.__get__")))
    (ht : PySem.W.takesIn K (.builtin "object.__class__") = some true)
    (g_L : PySem.W.nsIn K mainGlobals "LENGTHS" = some (some (.ref aL)))
    (l_L : K.lookup aL = some ⟨.type "dict", none, .dict esL nL, #[]⟩)
    (t_L : PySem.W.KeysLit w.params esL.toList)
    (s_L : (aL == sysModules) = false)
    (L_set : PySem.W.nsIn K aL "set" = some (some u_set))
    (LR_set : RelV (.int 3) u_set)
    (L_add : PySem.W.nsIn K aL "add" = some (some u_add))
    (LR_add : RelV (.int 3) u_add)
    (L_drop : PySem.W.nsIn K aL "drop" = some (some u_drop))
    (LR_drop : RelV (.int 2) u_drop)
    (L_move : PySem.W.nsIn K aL "move" = some (some u_move))
    (LR_move : RelV (.int 3) u_move)
    (L_put : PySem.W.nsIn K aL "put" = some none)
    (tb : PySem.W.codeHdIn K c17z Pt = true)
    (tn : K.lookup Pt = none)
    : LawAtS PySem.Challenge.rw_lookhouse_k11_states_refused w K L2.CX0 9 63 "script" mg fa h := by
  have e := hfa.symm.trans (PySem.W.mg_of X G a17)
  cases e
  have F0 := fun_mk (st := sNeed) l0 c0 k0
  have b0 := F0.binds (ps := ["good"]) fun _ _ _ _ _ _ us hl => match us, hl with | [_], _ => rfl
  have m0 := PySem.W.mg_of X G a0
  have F1 := fun_mk (st := sIsWord) l1 c1 k1
  have b1 := F1.binds (ps := ["thing"]) fun _ _ _ _ _ _ us hl => match us, hl with | [_], _ => rfl
  have m1 := PySem.W.mg_of X G a1
  have F2 := fun_mk (st := sIsPath) l2 c2 k2
  have b2 := F2.binds (ps := ["thing"]) fun _ _ _ _ _ _ us hl => match us, hl with | [_], _ => rfl
  have m2 := PySem.W.mg_of X G a2
  have F3 := fun_mk (st := sNeedPath) l3 c3 k3
  have b3 := F3.binds (ps := ["path"]) fun _ _ _ _ _ _ us hl => match us, hl with | [_], _ => rfl
  have m3 := PySem.W.mg_of X G a3
  have F4 := fun_mk (st := sIsNumber) l4 c4 k4
  have b4 := F4.binds (ps := ["thing", "most"]) fun _ _ _ _ _ _ us hl => match us, hl with | [_, _], _ => rfl
  have m4 := PySem.W.mg_of X G a4
  have F5 := fun_mk (st := sIsState) l5 c5 k5
  have b5 := F5.binds (ps := ["state"]) fun _ _ _ _ _ _ us hl => match us, hl with | [_], _ => rfl
  have m5 := PySem.W.mg_of X G a5
  have F6 := fun_mk (st := sNeedState) l6 c6 k6
  have b6 := F6.binds (ps := ["state"]) fun _ _ _ _ _ _ us hl => match us, hl with | [_], _ => rfl
  have m6 := PySem.W.mg_of X G a6
  have F7 := fun_mk (st := sNeedDeed) l7 c7 k7
  have b7 := F7.binds (ps := ["deed"]) fun _ _ _ _ _ _ us hl => match us, hl with | [_], _ => rfl
  have m7 := PySem.W.mg_of X G a7
  have F8 := fun_mk (st := sDone) l8 c8 k8
  have b8 := F8.binds (ps := ["state", "deed"]) fun _ _ _ _ _ _ us hl => match us, hl with | [_, _], _ => rfl
  have m8 := PySem.W.mg_of X G a8
  have F9 := fun_mk (st := sChanged) l9 c9 k9
  have b9 := F9.binds (ps := ["state", "other"]) fun _ _ _ _ _ _ us hl => match us, hl with | [_, _], _ => rfl
  have m9 := PySem.W.mg_of X G a9
  have F10 := fun_mk (st := sBetween) l10 c10 k10
  have b10 := F10.binds (ps := ["state", "other"]) fun _ _ _ _ _ _ us hl => match us, hl with | [_, _], _ => rfl
  have m10 := PySem.W.mg_of X G a10
  have F11 := fun_mk (st := sCell) l11 c11 k11
  have b11 := F11.binds (ps := ["script", "k"]) fun _ _ _ _ _ _ us hl => match us, hl with | [_, _], _ => rfl
  have m11 := PySem.W.mg_of X G a11
  have F12 := fun_mk (st := sDrawn) l12 c12 k12
  have b12 := F12.binds (ps := ["cell", "k"]) fun _ _ _ _ _ _ us hl => match us, hl with | [_, _], _ => rfl
  have m12 := PySem.W.mg_of X G a12
  have F13 := fun_mk (st := sWord) l13 c13 k13
  have b13 := F13.binds (ps := ["e"]) fun _ _ _ _ _ _ us hl => match us, hl with | [_], _ => rfl
  have m13 := PySem.W.mg_of X G a13
  have F14 := fun_mk (st := sTold) l14 c14 k14
  have b14 := F14.binds (ps := ["deed"]) fun _ _ _ _ _ _ us hl => match us, hl with | [_], _ => rfl
  have m14 := PySem.W.mg_of X G a14
  have F15 := fun_mk (st := sNoStates) l15 c15 k15
  have b15 := F15.binds (ps := []) fun _ _ _ _ _ _ us hl => match us, hl with | [], _ => rfl
  have m15 := PySem.W.mg_of X G a15
  have F16 := fun_mk (st := sNoDeeds) l16 c16 k16
  have b16 := F16.binds (ps := []) fun _ _ _ _ _ _ us hl => match us, hl with | [], _ => rfl
  have m16 := PySem.W.mg_of X G a16
  have F17 := fun_mk (st := sLaw) l17 c17 k17
  have m17 := PySem.W.mg_of X G a17
  have gn : ∀ {x : Str}, PySem.W.nsIn K mainGlobals x = some none → mg x = none := fun e => PySem.W.mg_none_of X G e
  have gm : ∀ {x : Str} {u : Value}, PySem.W.nsIn K mainGlobals x = some (some u) → mg x = some u := fun e => PySem.W.mg_of X G e
  have T : Tx K mg := ⟨gn n_isinstance, gn n_len, gn n_all, gn n_any, gn n_abs, gn n_range, gn n_str, gn n_tuple, gn n_int, gn n_bool, gn n_dict, ⟨_, gm v_SMALL, r_SMALL⟩, ⟨_, gm v_MOST_WORD, r_MOST_WORD⟩, ⟨_, gm v_MOST_DEEP, r_MOST_DEEP⟩, ⟨_, gm v_MOST_WORTH, r_MOST_WORTH⟩⟩
  have Lx : Lens K w mg aL := ⟨gm g_L, ⟨_, _, l_L, t_L, s_L⟩, fun z hz => by
    simp only [deedWords, List.mem_cons, List.not_mem_nil, or_false] at hz
    rcases hz with rfl | rfl | rfl | rfl | rfl
    · exact ⟨_, L_set, rfl, fun n hn => ⟨_, rfl, by cases hn; exact LR_set⟩⟩
    · exact ⟨_, L_add, rfl, fun n hn => ⟨_, rfl, by cases hn; exact LR_add⟩⟩
    · exact ⟨_, L_drop, rfl, fun n hn => ⟨_, rfl, by cases hn; exact LR_drop⟩⟩
    · exact ⟨_, L_move, rfl, fun n hn => ⟨_, rfl, by cases hn; exact LR_move⟩⟩
    · exact ⟨_, L_put, rfl, fun n hn => by cases hn⟩⟩
  have N : Cn mg e_BadDeed e_BadLook e_BadNumber e_BadPath e_BadState e_Storm := ⟨gm g_BadDeed, gm g_BadLook, gm g_BadNumber, gm g_BadPath, gm g_BadState, gm g_Storm, gn n_ValueError, gn n_sum⟩
  have XBadDeed : Xc K mg "BadDeed" e_BadDeed := ⟨gm g_BadDeed, x_BadDeed, kp_BadDeed, sb_BadDeed, ty_BadDeed⟩
  have XBadPath : Xc K mg "BadPath" e_BadPath := ⟨gm g_BadPath, x_BadPath, kp_BadPath, sb_BadPath, ty_BadPath⟩
  have XBadState : Xc K mg "BadState" e_BadState := ⟨gm g_BadState, x_BadState, kp_BadState, sb_BadState, ty_BadState⟩
  have OBadDeed : Own K [e_BadDeed, e_BadLook, e_BadNumber, e_BadPath, e_BadState, e_Storm] e_LookError e_BadDeed 0 := ⟨⟨hg_BadDeed, hk_BadDeed, sb_BadDeed, hd_BadDeed, ha_BadDeed, hn, ht, hm_BadDeed⟩, fun j c hj => match j, hj with
    | 0, hj => by cases hj; exact ki_BadDeed_BadDeed
    | 1, hj => by cases hj; exact ki_BadDeed_BadLook
    | 2, hj => by cases hj; exact ki_BadDeed_BadNumber
    | 3, hj => by cases hj; exact ki_BadDeed_BadPath
    | 4, hj => by cases hj; exact ki_BadDeed_BadState
    | 5, hj => by cases hj; exact ki_BadDeed_Storm
    | _ + 6, hj => (by cases hj), kv_BadDeed, ex_BadDeed⟩
  have OBadPath : Own K [e_BadDeed, e_BadLook, e_BadNumber, e_BadPath, e_BadState, e_Storm] e_LookError e_BadPath 3 := ⟨⟨hg_BadPath, hk_BadPath, sb_BadPath, hd_BadPath, ha_BadPath, hn, ht, hm_BadPath⟩, fun j c hj => match j, hj with
    | 0, hj => by cases hj; exact ki_BadPath_BadDeed
    | 1, hj => by cases hj; exact ki_BadPath_BadLook
    | 2, hj => by cases hj; exact ki_BadPath_BadNumber
    | 3, hj => by cases hj; exact ki_BadPath_BadPath
    | 4, hj => by cases hj; exact ki_BadPath_BadState
    | 5, hj => by cases hj; exact ki_BadPath_Storm
    | _ + 6, hj => (by cases hj), kv_BadPath, ex_BadPath⟩
  have OBadState : Own K [e_BadDeed, e_BadLook, e_BadNumber, e_BadPath, e_BadState, e_Storm] e_LookError e_BadState 4 := ⟨⟨hg_BadState, hk_BadState, sb_BadState, hd_BadState, ha_BadState, hn, ht, hm_BadState⟩, fun j c hj => match j, hj with
    | 0, hj => by cases hj; exact ki_BadState_BadDeed
    | 1, hj => by cases hj; exact ki_BadState_BadLook
    | 2, hj => by cases hj; exact ki_BadState_BadNumber
    | 3, hj => by cases hj; exact ki_BadState_BadPath
    | 4, hj => by cases hj; exact ki_BadState_BadState
    | 5, hj => by cases hj; exact ki_BadState_Storm
    | _ + 6, hj => (by cases hj), kv_BadState, ex_BadState⟩
  refine ⟨PySem.W.fnOf "law" "law" (defArgs sLaw) (defBody sLaw) (defScope sLaw) .none kV17 dc17 pm17 an17 (.ref c17z) ct17, [(c17z, Pt)], spLaw K Pt, fun p hp => by rw [List.mem_singleton.mp hp]; exact hP, fun p hp => by rw [List.mem_singleton.mp hp]; exact tn, fun p hp => by rw [List.mem_singleton.mp hp]; exact PySem.W.codeHd_of_K X tb, fun s u => .of_eq rfl, fun H a ns hl _ hT hS => ⟨a, ns, rfl, hS, hl, hT _ List.mem_cons_self, fun _ => rfl⟩, fun base KB GB TB => ?_⟩
  have Dw := ok_isWord (P := PySem.Challenge.rw_lookhouse_k11_states_refused.prog) (w := w) (base := base) F1 m1 b1 T
  have Dp := ok_isPath (P := PySem.Challenge.rw_lookhouse_k11_states_refused.prog) (w := w) (base := base) F2 m2 b2 T Dw
  have Dn := ok_isNumber (P := PySem.Challenge.rw_lookhouse_k11_states_refused.prog) (w := w) (base := base) F4 m4 b4 T
  have Dne := ok_need (P := PySem.Challenge.rw_lookhouse_k11_states_refused.prog) (w := w) (base := base) F0 m0 b0 XBadDeed
  have Dnp := ok_needPath F3 m3 b3 XBadPath Dp
  have Dst := ok_isState F5 m5 b5 T Dp Dn
  have Dns := ok_needState F6 m6 b6 XBadState Dst
  have Dnd := ok_needDeed F7 m7 b7 T Lx Dne Dp Dn
  have Ddo := ok_done F8 m8 b8 Dns Dnd
  have Dch := ok_changed F9 m9 b9 Dns
  have Dbe := ok_between F10 m10 b10 Dch
  have Dc := ok_cell (P := PySem.Challenge.rw_lookhouse_k11_states_refused.prog) (w := w) (base := base) F11 m11 b11 T
  have Dd := ok_drawn (P := PySem.Challenge.rw_lookhouse_k11_states_refused.prog) (w := w) (base := base) F12 m12 b12
  have Ds := ok_NoStates (P := PySem.Challenge.rw_lookhouse_k11_states_refused.prog) (w := w) (base := base) F15 m15 b15
  have De := ok_NoDeeds (P := PySem.Challenge.rw_lookhouse_k11_states_refused.prog) (w := w) (base := base) F16 m16 b16
  exact ok_law (fd := default) l17 c17 T (gn n_max) (gn n_min) F14 m14 b14 (ok_word F13 T N) m13 k13 b13 (gm g_LookError) OBadDeed OBadPath OBadState Dc Dd Ds De Dns Dnd Dnp Ddo Dch Dbe (TB _ List.mem_cons_self)
end Lk
open PySem PySem.W PyProof.Rows
set_option maxRecDepth 100000 in
set_option maxHeartbeats 0 in
theorem PySem.Challenge.cw_lookhouse_k11_states_refused_holds : PySem.Challenge.rw_lookhouse_k11_states_refused.Holds := by
  w_on; o_law; k_head; (case hw => w_witness2)
  k_fill
  refine LamX.walk_ofTs (l := PySem.Challenge.rw_lookhouse_k11_states_refused) (n := 63) (k := 9) (x := "script") (CX := fun _ => L2.CX0) (by decide +kernel) (by decide) rfl ⟨rfl, by decide, by decide⟩ (fun w h Y => PySem.W.km_in_of Y) ?F (fun _ _ _ _ _ z => z)
  case F =>
    intro w mg fa h Y KX G hmg
    refine' Lk.all_mk KX G hmg (PySem.W.km_tabs_of Y _ List.mem_cons_self) ?a0 ?l0 ?c0 ?k0 ?a1 ?l1 ?c1 ?k1 ?a2 ?l2 ?c2 ?k2 ?a3 ?l3 ?c3 ?k3 ?a4 ?l4 ?c4 ?k4 ?a5 ?l5 ?c5 ?k5 ?a6 ?l6 ?c6 ?k6 ?a7 ?l7 ?c7 ?k7 ?a8 ?l8 ?c8 ?k8 ?a9 ?l9 ?c9 ?k9 ?a10 ?l10 ?c10 ?k10 ?a11 ?l11 ?c11 ?k11 ?a12 ?l12 ?c12 ?k12 ?a13 ?l13 ?c13 ?k13 ?a14 ?l14 ?c14 ?k14 ?a15 ?l15 ?c15 ?k15 ?a16 ?l16 ?c16 ?k16 ?a17 ?l17 ?c17 ?k17 ?n_isinstance ?n_len ?n_all ?n_any ?n_abs ?n_range ?n_str ?n_tuple ?n_int ?n_bool ?n_dict ?n_max ?n_min ?n_sum ?n_ValueError ?v_SMALL ?r_SMALL ?v_MOST_WORD ?r_MOST_WORD ?v_MOST_DEEP ?r_MOST_DEEP ?v_MOST_WORTH ?r_MOST_WORTH ?g_BadDeed ?g_BadLook ?g_BadNumber ?g_BadPath ?g_BadState ?g_Storm ?g_LookError ?x_BadDeed ?kp_BadDeed ?sb_BadDeed ?ty_BadDeed ?hg_BadDeed ?hk_BadDeed ?hd_BadDeed ?ha_BadDeed ?hm_BadDeed ?ki_BadDeed_BadDeed ?ki_BadDeed_BadLook ?ki_BadDeed_BadNumber ?ki_BadDeed_BadPath ?ki_BadDeed_BadState ?ki_BadDeed_Storm ?kv_BadDeed ?ex_BadDeed ?x_BadPath ?kp_BadPath ?sb_BadPath ?ty_BadPath ?hg_BadPath ?hk_BadPath ?hd_BadPath ?ha_BadPath ?hm_BadPath ?ki_BadPath_BadDeed ?ki_BadPath_BadLook ?ki_BadPath_BadNumber ?ki_BadPath_BadPath ?ki_BadPath_BadState ?ki_BadPath_Storm ?kv_BadPath ?ex_BadPath ?x_BadState ?kp_BadState ?sb_BadState ?ty_BadState ?hg_BadState ?hk_BadState ?hd_BadState ?ha_BadState ?hm_BadState ?ki_BadState_BadDeed ?ki_BadState_BadLook ?ki_BadState_BadNumber ?ki_BadState_BadPath ?ki_BadState_BadState ?ki_BadState_Storm ?kv_BadState ?ex_BadState ?hn ?ht ?g_L ?l_L ?t_L ?s_L ?L_set ?LR_set ?L_add ?LR_add ?L_drop ?LR_drop ?L_move ?LR_move ?L_put ?tb ?tn
    (case a0 => k_is)
    (case l0 => k_is)
    (case c0 => k_is)
    (case k0 => k_is)
    (case a1 => k_is)
    (case l1 => k_is)
    (case c1 => k_is)
    (case k1 => k_is)
    (case a2 => k_is)
    (case l2 => k_is)
    (case c2 => k_is)
    (case k2 => k_is)
    (case a3 => k_is)
    (case l3 => k_is)
    (case c3 => k_is)
    (case k3 => k_is)
    (case a4 => k_is)
    (case l4 => k_is)
    (case c4 => k_is)
    (case k4 => k_is)
    (case a5 => k_is)
    (case l5 => k_is)
    (case c5 => k_is)
    (case k5 => k_is)
    (case a6 => k_is)
    (case l6 => k_is)
    (case c6 => k_is)
    (case k6 => k_is)
    (case a7 => k_is)
    (case l7 => k_is)
    (case c7 => k_is)
    (case k7 => k_is)
    (case a8 => k_is)
    (case l8 => k_is)
    (case c8 => k_is)
    (case k8 => k_is)
    (case a9 => k_is)
    (case l9 => k_is)
    (case c9 => k_is)
    (case k9 => k_is)
    (case a10 => k_is)
    (case l10 => k_is)
    (case c10 => k_is)
    (case k10 => k_is)
    (case a11 => k_is)
    (case l11 => k_is)
    (case c11 => k_is)
    (case k11 => k_is)
    (case a12 => k_is)
    (case l12 => k_is)
    (case c12 => k_is)
    (case k12 => k_is)
    (case a13 => k_is)
    (case l13 => k_is)
    (case c13 => k_is)
    (case k13 => k_is)
    (case a14 => k_is)
    (case l14 => k_is)
    (case c14 => k_is)
    (case k14 => k_is)
    (case a15 => k_is)
    (case l15 => k_is)
    (case c15 => k_is)
    (case k15 => k_is)
    (case a16 => k_is)
    (case l16 => k_is)
    (case c16 => k_is)
    (case k16 => k_is)
    (case a17 => k_is)
    (case l17 => k_is)
    (case c17 => k_is)
    (case k17 => k_is)
    (case n_isinstance => k_is)
    (case n_len => k_is)
    (case n_all => k_is)
    (case n_any => k_is)
    (case n_abs => k_is)
    (case n_range => k_is)
    (case n_str => k_is)
    (case n_tuple => k_is)
    (case n_int => k_is)
    (case n_bool => k_is)
    (case n_dict => k_is)
    (case n_max => k_is)
    (case n_min => k_is)
    (case n_sum => k_is)
    (case n_ValueError => k_is)
    (case v_SMALL => k_is)
    (case r_SMALL => exact ⟨_, rfl⟩)
    (case v_MOST_WORD => k_is)
    (case r_MOST_WORD => exact ⟨_, rfl⟩)
    (case v_MOST_DEEP => k_is)
    (case r_MOST_DEEP => exact ⟨_, rfl⟩)
    (case v_MOST_WORTH => k_is)
    (case r_MOST_WORTH => exact ⟨_, rfl⟩)
    (case g_BadDeed => k_is)
    (case g_BadLook => k_is)
    (case g_BadNumber => k_is)
    (case g_BadPath => k_is)
    (case g_BadState => k_is)
    (case g_Storm => k_is)
    (case g_LookError => k_is)
    (case x_BadDeed => k_exc)
    (case kp_BadDeed => k_is)
    (case sb_BadDeed => k_is)
    (case ty_BadDeed => k_is)
    (case hg_BadDeed => k_is)
    (case hk_BadDeed => k_is)
    (case hd_BadDeed => k_is)
    (case ha_BadDeed => k_is)
    (case hm_BadDeed => k_is)
    (case ki_BadDeed_BadDeed => kernel_rfl)
    (case ki_BadDeed_BadLook => kernel_rfl)
    (case ki_BadDeed_BadNumber => kernel_rfl)
    (case ki_BadDeed_BadPath => kernel_rfl)
    (case ki_BadDeed_BadState => kernel_rfl)
    (case ki_BadDeed_Storm => kernel_rfl)
    (case kv_BadDeed => kernel_rfl)
    (case ex_BadDeed => kernel_rfl)
    (case x_BadPath => k_exc)
    (case kp_BadPath => k_is)
    (case sb_BadPath => k_is)
    (case ty_BadPath => k_is)
    (case hg_BadPath => k_is)
    (case hk_BadPath => k_is)
    (case hd_BadPath => k_is)
    (case ha_BadPath => k_is)
    (case hm_BadPath => k_is)
    (case ki_BadPath_BadDeed => kernel_rfl)
    (case ki_BadPath_BadLook => kernel_rfl)
    (case ki_BadPath_BadNumber => kernel_rfl)
    (case ki_BadPath_BadPath => kernel_rfl)
    (case ki_BadPath_BadState => kernel_rfl)
    (case ki_BadPath_Storm => kernel_rfl)
    (case kv_BadPath => kernel_rfl)
    (case ex_BadPath => kernel_rfl)
    (case x_BadState => k_exc)
    (case kp_BadState => k_is)
    (case sb_BadState => k_is)
    (case ty_BadState => k_is)
    (case hg_BadState => k_is)
    (case hk_BadState => k_is)
    (case hd_BadState => k_is)
    (case ha_BadState => k_is)
    (case hm_BadState => k_is)
    (case ki_BadState_BadDeed => kernel_rfl)
    (case ki_BadState_BadLook => kernel_rfl)
    (case ki_BadState_BadNumber => kernel_rfl)
    (case ki_BadState_BadPath => kernel_rfl)
    (case ki_BadState_BadState => kernel_rfl)
    (case ki_BadState_Storm => kernel_rfl)
    (case kv_BadState => kernel_rfl)
    (case ex_BadState => kernel_rfl)
    (case hn => k_is)
    (case ht => k_is)
    (case g_L => k_is)
    (case l_L => k_is)
    (case t_L => exact ⟨⟨_, _, rfl, rfl⟩, ⟨_, _, rfl, rfl⟩, ⟨_, _, rfl, rfl⟩, ⟨_, _, rfl, rfl⟩, trivial⟩)
    (case s_L => rfl)
    (case L_set => k_is)
    (case LR_set => exact ⟨_, rfl⟩)
    (case L_add => k_is)
    (case LR_add => exact ⟨_, rfl⟩)
    (case L_drop => k_is)
    (case LR_drop => exact ⟨_, rfl⟩)
    (case L_move => k_is)
    (case LR_move => exact ⟨_, rfl⟩)
    (case L_put => k_is)
    (case tb => kernel_rfl)
    (case tn => kernel_rfl)
