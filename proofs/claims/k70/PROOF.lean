import PyProof.Rows.All
import Wide.All
import OpenK.AllK
import Wide.FinOn
import HandS.ForMost
import HandS.HotCalls
import HandS.Lambda
import HandS.ExcCtx
import HandS.ExcIs
import HandS.WordsExc
import HandS.EndTab
import KE.KDictDisplayH
import HandS.Walk
import HandS.IsInst
import HandS.Wide
import HandS.TupMul
import HandS.TupAny
import HandS.Evl
import HandS.More
import KE.IntTextLaws
import PyProof.Rows.StrDigitsNeg
import HandS.ReplaceLit
import HandS.ReplaceList
import HandS.ReplaceDef
import HandS.Conv
import HandS.Nested
import HandS.SuiteRaise
import HandS.TryElse
import KE.SortData
import KE.KEqDict
import KE.KDictKeyed
import PySem.Challenge.RW_lookhouse_k70_whole_written
set_option Elab.async false
set_option linter.all false
set_option maxRecDepth 100000
set_option maxHeartbeats 4000000
/-! While an exception is handled: a list's iterator at its end, sum of a list, a list comprehension over a list. -/
namespace Lk
open PySem PySem.Spec PyProof.Rows L2 HotX L2H
section
variable {prog : Program} {w : World} {A : Around} {E : Value → Shared → Prop} {s : Shared}
theorem hot_end {it l x1 : Addr} {i : Nat} {items : Array Value} {Q : Option Value → Shared → Prop} (hot : HotAt A x1 s.heap) (hne : x1 ≠ it)
    (hit : s.heap.IsListIter it l i) (hl : s.heap.IsList l items) (hx : items[i]? = none)
    (hQ : ∀ h', Heap.ExtBut it s.heap h' → Q none { s with heap := h' }) : wpAny (model prog w) A (pyNext (.ref it)) Q E s := by
  obtain ⟨oi, hoi, hci, hdi⟩ := id hit
  obtain ⟨oL, hoL, _, nL, hdL⟩ := hl
  obtain ⟨hh, o1, vs1, h1, d1, c1⟩ := hot
  unfold pyNext
  refine wpAny_bind (wpAny_attempt (wpAny_callSpecial?_slot (name := Str.ofString "__next__") hit.typeIs slot_listiter_next
    (wpAny_call_entry slot_listiter_next hit.typeIs entry_listiter_next ?g (args_listiter_next _))))
  case g =>
    show wpAny _ _ (field (.ref it) 0 >>= _) _ _ s
    refine wpAny_bind (wpAny_field hoi hdi (x := .ref l) rfl ?_)
    show wpAny _ _ (if (Value.ref l == Value.none) = true then _ else _) _ _ s
    rw [if_neg (show ¬ ((Value.ref l == Value.none) = true) from Bool.false_ne_true)]
    show wpAny _ _ (field (.ref it) 1 >>= _) _ _ s
    refine wpAny_bind (wpAny_field hoi hdi (x := .int i 0) rfl ?_)
    show wpAny _ _ (seqItems? (.ref l) >>= _) _ _ s
    refine wpAny_bind (wpAny_seqItems hoL hdL ?_)
    simp only [Int.toNat_natCast, hx]
    refine wpAny_bind (wpAny_rule (wpAny_bind (wpAny_setField hoi hdi (by simp) ?_)))
    generalize hg : s.heap.update it (Obj.mapFields (·.setIfInBounds 0 Value.none)) = g
    have g1 : g.get? x1 = some o1 := by rw [← hg, Heap.get?_update_other _ _ (Ne.symm hne)]; exact h1
    show wpAny _ _ (newExc (.type "StopIteration") [] >>= _) _ _ _
    refine wpAny_bind ?_
    simp only [newExc, newTuple]
    refine wpAny_bind (wpAny_newObj_type ?_ (by size_fits))
    refine wpAny_bind (m := firstArgMember _ _) (wpAny_of_eq (a := Value.none) (by first | rfl | (simp only [firstArgMember]; rfl)) ?_)
    refine wpAny_newObj_type ?_ (by size_fits)
    have p1 := Heap.get?_push_of_some ({ cls := .type "tuple", data := .seq #[] } : Obj) g1
    have nx := Nat.ne_of_lt (Heap.lt_size p1)
    refine raiseNew_hot (x1 := x1) ⟨hh, o1, vs1, Heap.get?_push_of_some _ p1, d1, c1⟩ nx (Heap.get?_push_size _ rfl) rfl (by first | (simp; done) | (simp only [Array.size_append]; simp; omega)) ?_
    refine wpAny_bind (wpAny_isInstance (T := "StopIteration") (b := true) ⟨_, Heap.get?_update_self _ (Heap.get?_push_size _ rfl) rfl, rfl⟩ isSubtype_stop ?_)
    refine wpAny_pure (hQ _ fun b o hb e => ?_)
    have e1 : g.get? b = some o := by rw [← hg, Heap.get?_update_other _ _ (Ne.symm hb)]; exact e
    have e2 := Heap.get?_push_of_some ({ cls := .type "tuple", data := .seq #[] } : Obj) e1
    rw [Heap.get?_update_other _ _ (Nat.ne_of_gt (Heap.lt_size e2))]
    exact Heap.get?_push_of_some _ e2

/-- a list's walk while the exception at x1 is handled -/
theorem hot_walk {x1 : Addr} (hh : A.handled = some (.ref x1)) (it ax : Addr) (hne : ax ≠ it) (hx1 : x1 ≠ it) (items : Array Value) :
    Walks prog w A it [it, ax, x1] [it] items.size (fun i v => items[i]? = some v) (fun i h => (h.IsListIter it ax i ∧ h.IsList ax items) ∧ HotAt A x1 h) where
  sub := fun b hb => by
    have e : b = it := by simpa using hb
    rw [e]; simp
  frame := fun _ _ _ st hk => by
    obtain ⟨⟨s1, s2⟩, hz, o, vs, g1, g2, g3⟩ := st
    exact ⟨⟨s1.at fun o e => hk it (by simp) o e, s2.at fun o e => hk ax (by simp) o e⟩, hz, o, vs, hk x1 (by simp) o g1, g2, g3⟩
  item := fun i s Q E hi st hQ => by
    obtain ⟨⟨s1, s2⟩, hz, o, vs, g1, g2, g3⟩ := st
    refine wpAny_pyNext_list_item s1 s2 (x := items[i]) (by simp [hi]) fun h' hit' hs' => ?_
    refine hQ _ h' s.toks (by simp [hi]) ⟨⟨hit', s2.extBut hs'.extBut hne⟩, hz, o, vs, hs'.extBut x1 o hx1 g1, g2, g3⟩ fun b o hb e => hs'.extBut b o (fun z => hb (by simp [z])) e
  done := fun s Q E st hQ => hot_end st.2 hx1 st.1.1 st.1.2 (by simp) fun h' he' => hQ h' s.toks fun b o hb e => he' b o (fun z => hb (by simp [z])) e
  self := fun _ _ _ _ st hQ => wpAny_pyIter_listiter st.1.1 hQ
theorem hot_sum {x1 l : Addr} {its : List Value} {ns : List Int} {Q : Value → Shared → Prop} (hot : HotAt A x1 s.heap) (hl : s.heap.IsList l its.toArray) (hi : IntsAre its ns)
    (h : ∀ h' tk t', (∀ b o, s.heap.get? b = some o → h'.get? b = some o) → Q (.int ns.sum t') { s with heap := h', toks := tk }) : wpAny (model prog w) A (call (.builtin "sum") [.ref l]) Q E s := by
  obtain ⟨xs, e⟩ := hi.allInts.items
  have hn : numsOf (intItems xs).toList = ns := by rw [← e]; exact hi.numsOf
  rw [nums_intItems] at hn
  rw [e] at hl
  obtain ⟨hh, o1, vs1, g1, g2, g3⟩ := hot
  refine call_sum_walkG (iter_intList hl fun s₂ e₂ st hfp hlI => ?_)
  subst e₂
  have k1 := Heap.get?_push_of_some ({ cls := .type "list_iterator", data := .fields #[.ref l, .int 0 0] } : Obj) g1
  refine ⟨_, _, _, _, _, _, numAt xs, rfl, hot_walk (A := A.in1) (x1 := x1) hh s.heap.objs.size l hlI (Nat.ne_of_lt (Heap.lt_size g1)) (intItems xs), ⟨st, hh, o1, vs1, k1, g2, g3⟩, fun b hb => ?_, (fun _ _ => intItems_at), fun h' tk t' hk => ?_⟩
  · rcases List.mem_cons.mp hb with z | hb
    · exact hfp b (by rw [z]; simp)
    · rcases List.mem_cons.mp hb with z | hb
      · exact hfp b (by rw [z]; simp)
      · have z : b = x1 := by simpa using hb
        rw [z]; exact Heap.lt_size k1
  · have q := h h' tk t' (old_kept hk)
    have e3 : preSum (numAt xs) (intItems xs).size = ns.sum := by
      have e4 : (intItems xs).size = xs.size := by simp [intItems]
      rw [e4, preSum_eq, List.take_of_length_le (by simp), hn]
    rw [e3]
    exact q
end
/-- sum(xs), ints, an exception being handled -/
theorem cr_sumH {X : Cx} (hc : HotC X) : CallR X (.builtin "sum") (rSum X.K) := by
  intro pins s σ H xs us Q I r h
  obtain ⟨a, ns, rfl, hS, q⟩ := h
  cases r with
  | cons r1 rr =>
    cases rr
    cases (show _ = Value.ref a from r1)
    obtain ⟨its, rv, hl, _⟩ := I.list hS
    obtain ⟨x1, hot⟩ := hc.at I
    exact hot_sum hot hl.isList rv.ints fun h' tk t' hk => ⟨.int _, H, I.kept hk, ⟨_, rfl⟩, q⟩
end Lk
set_option Elab.async false
set_option linter.all false
set_option maxRecDepth 100000
set_option maxHeartbeats 4000000
namespace Lk
open PySem PySem.Spec PyProof.Rows L2 HotX L2H
section
variable {X : Cx} {pins : List (Addr × Obj)} {σ : L2.St} {H : Hp} {s : Shared}
/-- the list's iterator gives an item -/
theorem it_item {tg : Expr} {a it : Addr} {i : Nat} {E : Value → Shared → Prop} (I : Inv X pins σ H s) (hf : FpOk X pins H it) (st : s.heap.IsListIter it a i) (hg : (Itl X.K a).go i H) :
    wpAny (model X.prog X.w) X.A (pyNext (.ref it)) (fun r s1 => ∃ u, r = some u ∧
      wpAny (model X.prog X.w) X.A (letOwnedTupleGo tg (.ref it) u) (fun _ s2 => ∃ x, Inv X pins σ H s2 ∧ RelV x u ∧ (Itl X.K a).yld i H x H ∧ s2.heap.IsListIter it a (i + 1)) E s1) E s := by
  obtain ⟨xs, x, hq, hx⟩ := hg
  obtain ⟨its, rv, p, hz⟩ := I.list hq
  obtain ⟨u, hu, ru⟩ := rv.get hx
  obtain ⟨f0, f1, f2, f3, f4, f5⟩ := hf
  refine wpAny_pyNext_list_item st p.isList (x := u) (by simpa using hu) fun h' st' sb => ?_
  have J : Inv X pins σ H { s with heap := h' } := I.turned (t' := s.toks) (fun b o hb e => (sb.2 b hb).trans e) f0 f1 f3 f4 f5
  obtain ⟨o, e, c, d⟩ := id st'
  exact ⟨u, rfl, go_of (s := { s with heap := h' }) e c d (by decide) ⟨x, J, ru, ⟨rfl, fun ys hy => by rw [I.list_inj hy hq]; exact hx⟩, st'⟩⟩
/-- .. or stops, the exception of the pin p being handled -/
theorem it_done {a it : Addr} {i : Nat} {E : Value → Shared → Prop} {p : Addr × Obj} (I : Inv X pins σ H s) (hp : p ∈ X.pn ++ pins) (hot : Hot1 X.A p) (hf : FpOk X pins H it) (st : s.heap.IsListIter it a i) (hg : (Itl X.K a).stop i H) :
    wpAny (model X.prog X.w) X.A (pyNext (.ref it)) (fun r s1 => r = none ∧ Inv X pins σ H s1) E s := by
  obtain ⟨xs, hq, hx⟩ := hg
  obtain ⟨its, rv, pl, hz⟩ := I.list hq
  obtain ⟨f0, f1, f2, f3, f4, f5⟩ := hf
  obtain ⟨hh, vs, d1, c1⟩ := hot
  have hl := rv.length
  exact hot_end (x1 := p.1) ⟨hh, p.2, vs, (I.pin p hp).1, d1, c1⟩ (f5 p hp) st pl.isList (by simp; omega) fun h' eb => ⟨rfl, I.turned (t' := s.toks) (fun b o hb e => eb b o hb e) f0 f1 f3 f4 f5⟩
end
section
variable {X : Cx}
/-- [elt for tg in l if ..], l a list, while an exception is handled -/
theorem pe_lcH {elt tg l : Expr} {ifs : List Expr} {scope : Scope} {own : List (Str × Nat)} {pos : Pos} {tl : TE} {g : TG} {tt : TT} {te : TE} (hc : HotC X) (hN : X.N.Nodup) (hl : PE X l tl) (ok : BlkOk X.N X.env.scope scope own)
    (hg : ∀ (s : Shared) (H : Hp) (C : Addr) (cl : List (Str × Addr)) (fp : List Addr), PG (X.blk s H scope (compEnvC scope cl C X.env) fp) tg g)
    (ht : ∀ (s : Shared) (H : Hp) (C : Addr) (cl : List (Str × Addr)) (fp : List Addr), PTs (X.blk s H scope (compEnvC scope cl C X.env) fp) ifs tt)
    (he : ∀ (s : Shared) (H : Hp) (C : Addr) (cl : List (Str × Addr)) (fp : List Addr), PE (X.blk s H scope (compEnvC scope cl C X.env) fp) elt te) (hs : ∀ x, foldedSetIterable l X.env x = pure x := by intro _; rfl) :
    PE X (.ListComp elt [⟨tg, l, ifs, 0⟩] scope pos) (tLc (iList X.K tl) g tt te (own.map (·.2))) := by
  refine ⟨fun pins s σ H Q I h => ?_⟩
  obtain ⟨p, hot, hp⟩ := hc
  rw [eval_ListComp]
  have hfree : ∀ y ∈ scope.names, y.2 = .free → ∃ c, X.env.cells.lookup y.1 = some c := fun y hy e =>
    (ok.free y hy e).elim (fun k => I.ok.has _ (.inl k)) (fun k => I.ok.has _ (.inr k))
  refine wpAny_comprehension_free (use := none) rfl hs (closure_ok hfree) ok.kind (fun y hy e => by rw [ok.uniq y hy, e])
    (thn (hl.run pins s σ H _ I h) fun xv s1 ⟨x1, H1, I1, r1, a, ea, ⟨xs, hq⟩, q⟩ => ?_)
  subst ea
  cases (show xv = Value.ref a from r1)
  obtain ⟨its, rv, pl, hz⟩ := I1.list hq
  refine wpAny_pyIter_list pl.isList ?_
  -- the iterator
  generalize hit : s1.heap.objs.size = it
  generalize hs2 : ({ s1 with heap := s1.heap.push { cls := .type "list_iterator", data := .fields #[.ref a, .int 0 0] } } : Shared) = s2
  have I2 : Inv X pins σ H1 s2 := by rw [← hs2]; exact I1.kept (t' := s1.toks) fun b o e => Heap.get?_push_of_some _ e
  have st2 : s2.heap.IsListIter it a 0 := by rw [← hs2, ← hit]; exact ⟨_, Heap.get?_push_size _ rfl, rfl, rfl⟩
  have f2 : FpOk X pins H1 it := I1.fpOk (Nat.le_of_eq hit) (I1.hok.fresh (Nat.le_of_eq hit))
  have lt2 : it < s2.heap.objs.size := by obtain ⟨o, e, _⟩ := st2; exact Heap.lt_size e
  refine wpAny_newObj_type (newEnv_comp ?_) (by show 0 ≤ sizeLine; decide)
  -- the new list
  generalize hD : s2.heap.objs.size = D
  have hDn : H1 D = none := I2.hok.fresh (Nat.le_of_eq hD)
  obtain ⟨W, ⟨m0, w0⟩, turn⟩ := q D hDn
  generalize hs3 : ({ s2 with heap := s2.heap.push { cls := .type "list", data := .seq ([] : List Value).toArray } } : Shared) = s3
  have h3 : s3.heap = s2.heap.push { cls := .type "list", data := .seq ([] : List Value).toArray } := by rw [← hs3]
  have I3 : Inv X pins σ (upd H1 D (.lst [])) s3 := by
    rw [← hs3]
    refine I2.laid (t' := s2.toks) (fun b o e => Heap.get?_push_of_some _ e) (Nat.le_of_eq hD) ⟨Nat.zero_le _, [], 0, .nil, ?_⟩
    rw [← hD]
    exact Heap.get?_push_size _ rfl
  generalize hH3 : upd H1 D (.lst []) = H3 at I3 w0
  have n3 : H3 it = none := by
    rw [← hH3, upd_ne (by rw [← hD]; exact Nat.ne_of_lt lt2)]
    exact f2.1
  have f3 : ∀ b ∈ [it], FpOk X pins H3 b ∧ b < s3.heap.objs.size := fun b hb => by
    have e : b = it := by simpa using hb
    rw [e]
    exact ⟨⟨n3, f2.2⟩, by rw [h3, Heap.size_push]; exact Nat.lt_succ_of_lt lt2⟩
  have st3 : s3.heap.IsListIter it a 0 := st2.at fun o e => by rw [h3]; exact Heap.get?_push_of_some _ e
  have I4 := block_start I3 ok hN f3
  have pg := hg s3 H3 s3.heap.objs.size (cellsFrom (s3.heap.objs.size + 1) scope.names (cloFrom X.env.cells scope.names [])) [it]
  have pt := ht s3 H3 s3.heap.objs.size (cellsFrom (s3.heap.objs.size + 1) scope.names (cloFrom X.env.cells scope.names [])) [it]
  have pe := he s3 H3 s3.heap.objs.size (cellsFrom (s3.heap.objs.size + 1) scope.names (cloFrom X.env.cells scope.names [])) [it]
  generalize hce : compEnvC scope (cellsFrom (s3.heap.objs.size + 1) scope.names (cloFrom X.env.cells scope.names [])) s3.heap.objs.size X.env = ce at I4 pg pt pe
  have cL : ce.locals = s3.heap.objs.size := by subst hce; rfl
  generalize hs4 : ({ s3 with heap := pushCells (s3.heap.push { cls := .type "dict", data := .dict #[] }) scope.names } : Shared) = s4 at I4
  have kp4 : ∀ b o, s3.heap.get? b = some o → s4.heap.get? b = some o := fun b o e => by rw [← hs4]; exact pushCells_keeps _ _ _ _ (Heap.get?_push_of_some _ e)
  have st4 : s4.heap.IsListIter it a 0 := st3.at fun o e => kp4 _ _ e
  have P3 := I3.pin p (List.mem_append_left _ hp)
  have I5 : Inv (X.blk s3 H3 scope ce [it]) [p] (wipe σ (own.map (·.2))) H3 s4 := I4.pins_of fun r hr => by
    have e : r = p := by simpa using hr
    rw [e]
    refine ⟨kp4 _ _ P3.1, P3.2.1, ?_, fun z => ?_, P3.2.2.2.2⟩
    · show p.1 ≠ ce.locals
      rw [cL]; exact Nat.ne_of_lt (Heap.lt_size P3.1)
    · exact (List.mem_cons.mp (I3.stkSub p.1 z)).elim P3.2.2.1 P3.2.2.2.1
  have nip : p.1 ≠ it := f2.2.2.2.2.2 p (List.mem_append_left _ hp)
  have stat : ∀ {σ' : L2.St} {H' : Hp} {s' : Shared}, Inv (X.blk s3 H3 scope ce [it]) [p] σ' H' s' → H' it = none → FpOk (X.blk s3 H3 scope ce [it]) [p] H' it := fun {σ' H' s'} J hn =>
    ⟨hn, (J.ok.exf it (by simp)).1, J.ok.exfs it (by simp), .inl (by simp), fun x c e => (J.ok.exf it (by simp)).2 x c e, fun r hr => by
      have e : r = p := by simpa using (show r ∈ ([] : List (Addr × Obj)) ++ [p] from hr)
      rw [e]; exact nip⟩
  show codeAny _ _ (.compStart (.ListComp elt [⟨tg, l, ifs, 0⟩] scope pos) 0 (.ref it) (.ref D) (compEnvC scope (cellsFrom (s3.heap.objs.size + 1) scope.names (cloFrom X.env.cells scope.names [])) s3.heap.objs.size X.env)) _ _
  rw [hce]
  have fin : codeAny (model X.prog X.w) X.A (.compLoop (.ListComp elt [⟨tg, l, ifs, 0⟩] scope pos) 0 (.ref it) (.ref D) ce) (compPost (model X.prog X.w) X.A X.xe none (EP X pins σ Q) (.ref D) s3.heap.objs.size) s4 := by
    refine compLoop_any (fun n s' => ∃ i H', Inv (X.blk s3 H3 scope ce [it]) [p] (wipe σ (own.map (·.2))) H' s' ∧ s'.heap.IsListIter it a i ∧ H' it = none ∧ W i n H') ?_ m0 ⟨0, H3, I5, st4, n3, w0⟩
    rintro n s5 ⟨i, H5, J5, st5, n5, w5⟩
    rcases turn i n H5 w5 with ⟨stop, qq⟩ | ⟨go, Nx, hNx, step⟩
    · refine thnF (it_done (X := X.blk s3 H3 scope ce [it]) J5 (by show p ∈ ([] : List (Addr × Obj)) ++ [p]; simp) hot (stat J5 n5) st5 stop) fun r s6 ⟨hr, J6⟩ => ?_
      subst hr
      have J7 : Inv X pins σ H5 s6 := I3.call' (ch := [it]) J6.os J6.base J6.hok J6.bare fun b hb => by
        obtain ⟨⟨_, z1, _, z2, z3, z4⟩, _⟩ := f3 b hb
        exact ⟨z2, z1, z3, z4⟩
      have nC : H5 s3.heap.objs.size = none := by
        have z : H5 ce.locals = none := J6.free
        rw [cL] at z
        exact z
      obtain ⟨m, hn, _⟩ := J6.loc
      have hn : s6.heap.Ns ce.locals m := hn
      rw [cL] at hn
      obtain ⟨f0, f1, _, f4, f5, f6⟩ := I3.fpOk (H' := H5) (Nat.le_refl _) nC
      exact ⟨m, hn, fun h'' sb => ⟨.ref D, H5, J7.turned (t' := s6.toks) (fun b o hb e => (sb.2 b hb).trans e) f0 f1 f4 f5 f6, rfl, qq⟩⟩
    · refine thnF (it_item (X := X.blk s3 H3 scope ce [it]) (tg := tg) J5 (stat J5 n5) st5 go) fun r s6 ⟨u, hr, h6⟩ => ?_
      subst hr
      refine thnF h6 fun _ s7 ⟨x, J7, r7, y7, st7⟩ => ?_
      have J8 := J7.pinned (fp := [it]) (fun b hb => by
        have e : b = it := by simpa using hb
        rw [e]; exact stat J7 n5) (fun b hb => by
        have e : b = it := by simpa using hb
        rw [e]
        obtain ⟨o, e1, _, e3⟩ := id st7
        exact ⟨o, e1, fun v z => by rw [e3] at z; cases z⟩)
      refine thnF (pg.run _ s7 _ H5 x u _ J8 r7 (step x H5 y7)) fun _ s8 ⟨σ8, H8, J9, hw8, q8⟩ => ?_
      refine thnF (pt.run _ s8 σ8 H8 _ J9 q8) fun b s9 ⟨H9, J10, q9⟩ => ?_
      have over : ∀ {s' : Shared} {H' : Hp}, Inv (X.blk s3 H3 scope ce [it]) ([p] ++ pinsAt [it] s7.heap) σ8 H' s' → Nx H' →
          ∃ m, m < n ∧ ∃ i H', Inv (X.blk s3 H3 scope ce [it]) [p] (wipe σ (own.map (·.2))) H' s' ∧ s'.heap.IsListIter it a i ∧ H' it = none ∧ W i m H' := fun {s' H'} J nx => by
        obtain ⟨m', hm, w'⟩ := hNx H' nx
        obtain ⟨o, e1, _⟩ := id st7
        have z := J.pin (it, o) (List.mem_append_right _ (List.mem_append_right _ (mem_pinsAt (by simp) e1)))
        have hl8 : (wipe σ (own.map (·.2))).length = σ8.length := by rw [← hw8, wipe_length]
        refine ⟨m', hm, i + 1, H', J.unpinned.weak hl8 (fun j v e => ?_), st7.at fun o' e' => ?_, z.2.1, w'⟩
        · rw [← hw8] at e
          exact (wipe_some e).1
        · rw [e1] at e'; cases e'
          exact z.1
      cases b with
      | false =>
        simp only [Bool.false_eq_true, if_false] at q9 ⊢
        exact over J10 q9
      | true =>
        simp only [if_true] at q9 ⊢
        refine thnF (pe.run _ s9 σ8 H9 _ J10 q9) fun z s10 ⟨yv, H10, J11, r10, acc, hD10, hz10, nx⟩ => ?_
        exact app_ok (X := X.blk s3 H3 scope ce [it]) J11 hD10 hz10 r10 fun s11 J12 => over J12 nx
  exact codeAny_compStart_list fin (wpAny_pyIter_listiter st4 fin)
end
end Lk
set_option Elab.async false
set_option linter.all false
set_option maxRecDepth 100000
set_option maxHeartbeats 4000000
/-! A lambda handed to a def that catches what it raises; exceptions whose context is None. -/
namespace Lk
open PySem PySem.Spec PyProof.Rows L2 HotX L2H LamX
/-! ### a def that may raise (its exception has no context) -/
theorem okN {P : Program} {w : World} {K : PySem.W.Frag} {mg : Str → Option Value} {base : Heap} {x qual : Str} {st : Stmt} {f : Addr} {fd : FuncData} {N ps : List Str} {k : Nat} {sp : Sp} (F : L2.Fun K x qual st f fd) (S : FnScope N ps (defScope st)) (len : ∀ vs H Q E, sp vs H Q E → vs.length = ps.length)
    (hbody : ∀ (cdv : Value) (A : Around) (outer : List Env) (s : Shared) (H : Hp) (vs : List V) (Q : VK) (E : XK), Room k (A.deeper (envOfC qual (defScope st) s.heap.objs.size f cdv)) → sp vs H Q E →
      ∃ t, PSs (cxOf (L2N.CX P w) P w K mg base N qual (defScope st) f cdv A outer s H E) (defBody st) t ∧ t { nx := fun _ H' => Q .non H', rt := Q } (start N vs) H) : FnOk P w K mg base (L2N.CX P w) (k + 1) f fd ps sp := by
  obtain ⟨oc, od, kV, doc, pm, an, cdv, ct, osl, rfl, lk, hcd⟩ := F.ex
  exact fn_of lk hcd S len fun A outer s H vs Q E hr hsp => hbody cdv A outer s H vs Q E hr hsp
/-! ### a def called while the exception of the pin p is handled: its promise speaks of p -/
structure FnP (P : Program) (w : World) (K : PySem.W.Frag) (mg : Str → Option Value) (base : Heap) (k : Nat) (f : Addr) (fd : FuncData) (ps : List Str) (sp : Addr × Obj → Sp) : Prop where
  len : ∀ p vs H Q E, sp p vs H Q E → vs.length = ps.length
  run : ∀ (A : Around) (outer : List Env) (s : Shared) (H : Hp) (args : Args) (us : List Value) (vs : List V) (Q : VK) (p : Addr × Obj), RoomH k A → Hot1 A p → PinOk outer H s p → Env0 P w K mg base A outer s H → BindsTo s fd args (ps.zip us) → Vals vs us → sp p vs H Q L2.E0 →
    codeAny (model P w) A (.call (.ref f) args) (CR L2.CX0 outer P w H s Q L2.E0) s
theorem okP {P : Program} {w : World} {K : PySem.W.Frag} {mg : Str → Option Value} {base : Heap} {x qual : Str} {st : Stmt} {f : Addr} {fd : FuncData} {N ps : List Str} {k : Nat} {sp : Addr × Obj → Sp} (F : L2.Fun K x qual st f fd) (S : FnScope N ps (defScope st))
    (len : ∀ p vs H Q E, sp p vs H Q E → vs.length = ps.length)
    (hbody : ∀ (cdv : Value) (A : Around) (outer : List Env) (s : Shared) (H : Hp) (vs : List V) (Q : VK) (p : Addr × Obj), Hot1 A p → RoomH k (A.deeper (envOfC qual (defScope st) s.heap.objs.size f cdv)) → sp p vs H Q L2.E0 →
      ∃ t, PSs (cxH L2.CX0 P w K mg base N qual (defScope st) f cdv A outer s H L2.E0 p).nox (defBody st) t ∧ t { nx := fun _ H' => Q .non H', rt := Q } (L2.start N vs) H) :
    FnP P w K mg base (k + 1) f fd ps sp := by
  obtain ⟨oc, od, kV, doc, pm, an, cdv, ct, osl, rfl, lk, hcd⟩ := F.ex
  refine ⟨len, fun A outer s H args us vs Q p hr hot hpin e0 hb r hsp => ?_⟩
  have hl := len _ _ _ _ _ hsp
  have KX : K.In s.heap := e0.mod.kin.keeps fun b o e => (e0.bs b o e).1
  have lim : s.heap.NoLimit := e0.mod.nolimit.keeps fun b o e => (e0.bs b o e).1
  have hkind : ∀ y ∈ ps.zip us, (defScope st).names.lookup y.1 = some .local ∨ ((defScope st).names.lookup y.1 = some .cell ∧ ((cellsFrom (s.heap.objs.size + 1) (defScope st).names []).lookup y.1).isSome = true) := fun ⟨n, v⟩ hy =>
    (S.par n (List.of_mem_zip hy).1).elim .inl fun q => .inr ⟨q, PySem.W.cellsFrom_some _ _ _ (.inl q)⟩
  refine codeAny_call_function hr.depth (KX _ _ lk) rfl S.co S.gen rfl (PySem.W.codeRec_of KX hcd) (hb _ _ _ _ ?_)
  refine wpAny_newFunctionEnv_cells S.kind hkind fun env he s1 xx => ?_
  subst he
  refine ⟨lim.keeps xx.toInCall.keep, codeAny_func ?_⟩
  obtain ⟨t, ht, hq⟩ := hbody cdv A outer s H vs Q p hot (hr.deeper _) hsp
  have I : Inv (cxH L2.CX0 P w K mg base N qual (defScope st) f cdv A outer s H L2.E0 p) [] (L2.start N vs) H s1 := inv_startH S hpin e0 hl r xx
  refine wpAny_mono (ht.nox.run [] s1 (L2.start N vs) H _ I hq) (fun fl s' hs => ?_) fun e s' hs => hs
  have fin : ∀ {σ' : L2.St} {H' : Hp} {v : V} {u : Value}, Inv (cxH L2.CX0 P w K mg base N qual (defScope st) f cdv A outer s H L2.E0 p) [] σ' H' s' → L2.RelV v u → Q v H' → CE outer P w H s Q u s' :=
    fun {σ' H' v u} J rv q => ⟨v, H', J.os, J.bare, J.base, J.hok, rv, q⟩
  cases fl with
  | ret u =>
    obtain ⟨v, σ', H', J, rv, q⟩ := hs
    exact fin J rv q
  | next =>
    obtain ⟨σ', H', J, q⟩ := hs
    exact fin (v := V.non) (u := Value.none) J rfl q
  | brk => exact hs.elim fun _ z => z.elim fun _ z => False.elim z.2
  | cont => exact hs.elim fun _ z => z.elim fun _ z => False.elim z.2
section
variable {X : Cx} {k : Nat} {f : Addr} {fd : FuncData} {ps : List Str} {sp : Addr × Obj → Sp} {x : Str} {q pos : Pos} {e : Expr} {es : List Expr} {t : TA} {p : Addr × Obj}
theorem pe_callP (F : FnP X.prog X.w X.K X.mg X.base k f fd ps sp) (hr : RoomH k X.A) (hot : Hot1 X.A p) (hp : p ∈ X.pn) (hg : Gl X x) (hm : X.mg x = some (.ref f)) (hk : PySem.W.keepIn X.K (.ref f) = true) (hb : Binds X.K fd ps [])
    (ha : PA X (e :: es) t) (hdb : (x == ("__debug__" : Str)) = false := by decide) (he : starEach (e :: es) X.env = (false, eval e X.env) :: starEach es X.env := by rfl) (hpl : (backTo pos (starEach es X.env)).any (·.1) = false := by rfl) :
    PE X (.Call (.Name x q) (e :: es) [] pos) (fun σ H Q => t σ H fun vs H1 => sp p vs H1 Q L2.E0) := by
  refine ⟨fun pins s σ H Q I h => ?_⟩
  refine wpAny_Call_Name_kw (ld_glob I hg hm ?_ hdb)
  refine PySem.W.callWith_K (h₀ := X.base) I.ok.mod.kin hk (thn (ha.run pos pins s σ H _ I h) fun us s1 ⟨vs, H1, I1, r, hsp⟩ => ⟨I1.kIn, ?_⟩) he hpl
  have hl : us.length = ps.length := by rw [← r.length]; exact F.len _ _ _ _ _ hsp
  have b := hb s1 us I1.kIn (by rw [List.append_nil]; exact hl)
  rw [List.append_nil] at b
  have P1 := I1.pin p (List.mem_append_left _ hp)
  have hpin : PinOk X.stack H1 s1 p := ⟨P1.1, P1.2.1, fun hm => (List.mem_cons.mp (I1.stkSub p.1 hm)).elim P1.2.2.1 P1.2.2.2.1, P1.2.2.2.2⟩
  refine wpAny_call (codeAny_mono (F.run X.A X.stack s1 H1 ⟨us, []⟩ us vs Q p hr hot hpin I1.env0 b r hsp) fun rr s' hq => ?_)
  cases rr with
  | error e => exact (show False from hq).elim
  | ok fl =>
    cases fl with
    | ret u => exact I1.after hq
    | next => exact False.elim hq
    | brk => exact False.elim hq
    | cont => exact False.elim hq
/-- isinstance(e, c), e the exception of the pin p -/
theorem call_isP {D : Addr} (C : ExcC X.K D) (hp : p ∈ X.pn) (hz : Zc (.ref D) none p.2) (hf : ∃ vs, p.2.data = .fields vs) : CallR X (.builtin "isinstance") (rIsE X.K D p.1) := by
  intro pins s σ H xs us Q I r h
  obtain ⟨c, cv, b, rfl, hcv, e, qq⟩ := h
  obtain ⟨u1, u2, rfl, r1, r2⟩ := vals2 r
  cases (show u1 = Value.ref p.1 from r1)
  have ec := hcv _ r2
  subst ec
  have hget := (I.pin p (List.mem_append_left _ hp)).1
  obtain ⟨vs, hv⟩ := hf
  have J : PySem.W.InstAt s.heap p.1 p.2 D none := by
    obtain ⟨pa, oc, od, oda, osl⟩ := p
    obtain ⟨h1, h2⟩ := hz
    dsimp only at h1 h2 hv hget
    subst h1 h2 hv
    exact ⟨hget, rfl, rfl, trivial⟩
  exact PySem.W.kia_one (PySem.W.handS_kitx_exc C.hg C.hk C.hs C.hd C.ha C.hn C.ht C.hm) I.kIn J e (fun z => nomatch z) fun tk => ⟨.bl b, H, I.kept (t' := tk) fun _ _ z => z, rfl, qq⟩
end
end Lk
set_option Elab.async false
set_option linter.all false
set_option maxRecDepth 100000
set_option maxHeartbeats 4000000
namespace Lk
open PySem PySem.Spec PyProof.Rows L2 HotX L2H LamX
/-- what the lambda's frame makes of an exception -/
def lamXe (X : Cx) (A : Around) (outer : List Env) (s : Shared) (H : Hp) (E : XK) (scope : Scope) (f c' : Addr) : Value → Shared → Prop := fun e s' =>
  wpAny (model X.prog X.w) (A.deeper (lamEnv X scope s.heap.objs.size f c')) (leaving (lamEnv X scope s.heap.objs.size f c') e) (fun _ s'' => L2N.CX X.prog X.w outer H s E e s'') (fun e' s'' => L2N.CX X.prog X.w outer H s E e' s'') s'
/-- the context of the lambda's body -/
abbrev lamCxN (X : Cx) (A : Around) (outer : List Env) (s : Shared) (H : Hp) (E : XK) (scope : Scope) (f c' : Addr) : Cx := (lamCx X A outer s H E scope f c').wish (lamXe X A outer s H E scope f c')
section
variable {X : Cx} {pins : List (Addr × Obj)} {σ : L2.St} {H : Hp} {s : Shared}
/-- a() in the def that got the lambda -/
theorem pe_actN {Ng : List Str} {qg : Str} {sg : Scope} {g f c' : Addr} {cdg pm ctv : Value} {params : Arguments} {body : Expr} {scope : Scope} {k i : Nat} {a : Str} {pn : List (Addr × Obj)} {xe : Value → Shared → Prop} {W : WX} {E : XK} {tb : TE} {p1 p2 : Pos}
    (I : Inv X pins σ H s) (L : LamS X.env.scope scope) (hf : s.heap.get? f = some (PySem.W.kla_obj "<lambda>" (X.env.qual ++ "<lambda>") params body scope (cloFrom X.env.cells scope.names []) pm c' ctv)) (hfn : H f = none) (hfr : f ∉ frs X.stack)
    (hbind : bindArgs (PySem.W.kla_fn "<lambda>" (X.env.qual ++ "<lambda>") params body scope (cloFrom X.env.cells scope.names []) pm (.ref c') ctv) ⟨[], []⟩ = pure [])
    (tk : L2N.Takes ((cxOf C8.CX0 X.prog X.w X.K X.mg X.base Ng qg sg g cdg X.A X.stack s H C8.E0).tr pn xe) W) (hW : ∀ cls d (σ' : L2.St) H', σ'.length = Ng.length → E cls d H' → W cls d σ' H') (hr : Room (k + 1) (X.A.deeper (envOfC qg sg s.heap.objs.size g cdg)))
    (hbody : ∀ (A : Around) (outer : List Env) (s : Shared) (H : Hp), Room k (A.deeper (lamEnv X scope s.heap.objs.size f c')) → PE (lamCxN X A outer s H E scope f c') body tb)
    (hN : Ng[i]? = some a) (hv : Vis sg a) (hd : (a == ("__debug__" : Str)) = false := by decide) (hcd : (a == ("__classdict__" : Str)) = false := by decide) :
    PE ((cxOf C8.CX0 X.prog X.w X.K X.mg X.base Ng qg sg g cdg X.A X.stack s H C8.E0).tr pn xe) (.Call (.Name a p1) [] [] p2)
      (fun σZ HZ Q => σZ[i]? = some (some (.ref f)) ∧ HZ c' = some (CodeO c' (X.env.qual ++ "<lambda>")) ∧ tb σ HZ Q) := by
  refine ⟨fun pinsZ sZ σZ HZ Q IZ ⟨hs, hc, ht⟩ => ?_⟩
  refine wpAny_Call_Name_kw (thn ((pe_var (pos := p1) (i := i) hN hv hd hcd).run pinsZ sZ σZ HZ (fun v H1 => v = .ref f ∧ H1 = HZ) IZ ⟨.ref f, hs, rfl, rfl⟩) fun u s1 ⟨v, H1, I1, r1, q1, q2⟩ => ?_)
  subst q1
  rw [q2] at I1
  cases (show u = Value.ref f from r1)
  have of1 : s1.heap.get? f = some (PySem.W.kla_obj "<lambda>" (X.env.qual ++ "<lambda>") params body scope (cloFrom X.env.cells scope.names []) pm c' ctv) := I1.base.keep f _ hf hfn hfr (fun z => nomatch (show f ∈ ([] : List Addr) from z))
  refine PySem.W.callWith_F0 ⟨_, _, _, _, of1⟩ ?_
  have un : Un (frs X.stack) [] H HZ s.heap s1.heap := I1.base
  obtain ⟨⟨oc, vs, t, hoc, hdc, hvc⟩, _, _⟩ := I1.hok c' _ hc
  have rc : codeAny (model X.prog X.w) (X.A.deeper (envOfC qg sg s.heap.objs.size g cdg)) (.call (.ref f) ⟨[], []⟩) (CR (L2N.CX X.prog X.w) (envOfC qg sg s.heap.objs.size g cdg :: X.stack) X.prog X.w HZ s1 Q E) s1 := by
    refine PySem.W.kla_callFunE hr.depth of1 rfl L.co L.gen rfl ⟨c', oc, vs, t, rfl, hoc, hdc, hvc⟩ ?_
    rw [hbind]
    refine wpAny_pure (wpAny_newFunctionEnv (fun y hy => (L.own y hy).2) (fun y hy => absurd hy (by simp)) (fun h₁ hns hsb => ⟨I1.nolimit.fresh _ hsb, ?_⟩) L.kind)
    show codeAny _ _ (.expr body (lamEnv X scope s1.heap.objs.size f c')) _ _
    have kp : ∀ b o, s1.heap.get? b = some o → h₁.get? b = some o := fun b o e => hsb.extBut b o (Nat.ne_of_lt (Heap.lt_size e)) (Heap.get?_push_of_some _ e)
    have J0 : Inv (lamCx X (X.A.deeper (envOfC qg sg s.heap.objs.size g cdg)) (envOfC qg sg s.heap.objs.size g cdg :: X.stack) s1 HZ E scope f c') [] σ HZ { s1 with heap := h₁, toks := s1.toks + ([] : List (Str × Value)).length } :=
      lam_start2 I L I1.env0 hr.hd un hns kp
    have J := J0.wish (lamXe X (X.A.deeper (envOfC qg sg s.heap.objs.size g cdg)) (envOfC qg sg s.heap.objs.size g cdg :: X.stack) s1 HZ E scope f c')
    refine PySem.W.kla_codeExpr (wpAny_mono ((hbody _ _ s1 HZ (hr.deeper _)).run [] _ _ HZ Q J ht) (fun v s' hq => ?_) fun e s' hq => hq)
    obtain ⟨w', H', J', rv, q⟩ := hq
    exact ⟨w', H', J'.os, J'.bare, J'.base, J'.hok, rv, q⟩
  refine wpAny_call (codeAny_mono rc fun r s' hq => ?_)
  cases r with
  | error e => exact tk e s' (L2N.XE.of_call I1 (fun cls d H' h => hW cls d σZ H' I1.len h) hq)
  | ok fl =>
    cases fl with
    | ret u => exact I1.after hq
    | next => exact False.elim hq
    | brk => exact False.elim hq
    | cont => exact False.elim hq
end
/-- the def that calls what it got, in the place a -/
def GivesN (X : Cx) (Ng : List Str) (x : Str) (sg : Scope) (g : Addr) (cdg : Value) (bg : List Stmt) (a : Str) (q : Str) (k : Nat) (TT : (XK → Hp → VK → Prop) → Hp → VK → Prop) : Prop :=
  ∀ (f c' : Addr) (s : Shared) (H : Hp) (Q : VK) (tl : XK → Hp → VK → Prop), Room k (X.A.deeper (envOfC x sg s.heap.objs.size g cdg)) →
    (∀ (W : WX) (pn : List (Addr × Obj)) (xe : Value → Shared → Prop) (E : XK) (p1 p2 : Pos), L2N.Takes ((cxOf C8.CX0 X.prog X.w X.K X.mg X.base Ng x sg g cdg X.A X.stack s H C8.E0).tr pn xe) W → (∀ cls d (σ' : L2.St) H', σ'.length = Ng.length → E cls d H' → W cls d σ' H') →
      PE ((cxOf C8.CX0 X.prog X.w X.K X.mg X.base Ng x sg g cdg X.A X.stack s H C8.E0).tr pn xe) (.Call (.Name a p1) [] [] p2) (fun σZ HZ Q => σZ[0]? = some (some (.ref f)) ∧ HZ c' = some (CodeO c' q) ∧ tl E HZ Q)) →
    H c' = some (CodeO c' q) → TT tl H Q →
    ∃ t, PSs (cxOf C8.CX0 X.prog X.w X.K X.mg X.base Ng x sg g cdg X.A X.stack s H C8.E0).nox bg t ∧ t { nx := fun _ H' => Q .non H', rt := Q } (L2.start Ng [.ref f]) H
section
variable {X : Cx}
/-- x(lambda: body) -/
theorem pe_lamN {T : List (Addr × Str)} {TT : (XK → Hp → VK → Prop) → Hp → VK → Prop} {x a : Str} {g c P : Addr} {k : Nat} {pg : Arguments} {bg : List Stmt} {sg : Scope} {dV kV doc pm cdv ct oc : Value} {an od : Option Addr} {osl : Array (Option Value)} {Ng : List Str}
    {params : Arguments} {body : Expr} {scope : Scope} {t : XK → TE} {p lpos pos : Pos} (hg : Gl X x) (hm : X.mg x = some (.ref g)) (hk : PySem.W.keepIn X.K (.ref g) = true)
    (lk : X.K.lookup g = some ⟨oc, od, .func (PySem.W.fnOf x x pg bg sg dV kV doc pm an cdv ct), osl⟩) (hcg : PySem.W.codeIn X.K cdv x = true) (hb : L2.Binds X.K (PySem.W.fnOf x x pg bg sg dV kV doc pm an cdv ct) [a] []) (Sg : FnScope Ng [a] sg) (hNg : Ng[0]? = some a) (hva : Vis sg a)
    (hG : GivesN X Ng x sg g cdv bg a (X.env.qual ++ "<lambda>") (k + 1) TT)
    (TB : TabB X.base X.mg c P) (hcode : X.env.code = .ref c) (hmT : (P, X.env.qual ++ "<lambda>") ∈ T) (hu : ∀ p ∈ T, p.1 = P → p.2 = X.env.qual ++ "<lambda>") (hr : Room (k + 2) X.A) (L : LamS X.env.scope scope) (hdef : defaultsOf params X.env = ([], []))
    (hbind : ∀ (q : Str) (cl : List (Str × Addr)) (pm cv ctv : Value), bindArgs (PySem.W.kla_fn "<lambda>" q params body scope cl pm cv ctv) ⟨[], []⟩ = pure [])
    (hbody : ∀ (A : Around) (outer : List Env) (s : Shared) (H : Hp) (E : XK) (f c' : Addr), Room k (A.deeper (lamEnv X scope s.heap.objs.size f c')) → PE (lamCxN X A outer s H E scope f c') body (t E))
    (hdb : (x == ("__debug__" : Str)) = false := by decide) (hd : (a == ("__debug__" : Str)) = false := by decide) (hcd : (a == ("__classdict__" : Str)) = false := by decide) :
    PE X (.Call (.Name x p) [.Lambda params body scope lpos] [] pos) (tLam T TT t) := by
  refine ⟨fun pins s σ H Q I ⟨hT, h⟩ => ?_⟩
  refine wpAny_Call_Name_kw (ld_glob I hg hm ?_ hdb)
  refine PySem.W.callWith_K (h₀ := X.base) I.ok.mod.kin hk ?_ (by rfl) (by rfl)
  show wpAny _ _ (spliced ((false, eval (.Lambda params body scope lpos) X.env) :: backTo pos (starEach [] X.env))) _ _ s
  refine Calls.spliced_cons (lam_make2 I TB hcode hmT hu hT hdef (L.has I.ok) fun f c' pm' ctv H1 s' I1 eN T1 hf hfn hfr hco => ?_)
  refine Calls.spliced_nil ⟨I1.kIn, ?_⟩
  have rc : codeAny (model X.prog X.w) X.A (.call (.ref g) ⟨[.ref f], []⟩) (CR C8.CX0 X.stack X.prog X.w H1 s' Q C8.E0) s' := by
    refine run_ofS (N := Ng) (ps := [a]) (us := [.ref f]) (vs := [.ref f]) lk hcg Sg hr I1.env0 (hb s' [.ref f] I1.kIn rfl) (.cons rfl .nil) rfl fun hr' => ?_
    obtain ⟨t', ht', hq'⟩ := hG f c' s' H1 Q (fun E H' Q' => t E σ H' Q') hr' (fun W pn xe E p1 p2 tk hW => pe_actN (i := 0) I1 L hf hfn hfr (hbind _ _ _ _ _) tk hW hr' (fun A outer s H hr2 => hbody A outer s H E f c' hr2) hNg hva hd hcd) hco (h H1 eN T1)
    exact ⟨t', ht'.nox, hq'⟩
  refine wpAny_call (codeAny_mono rc fun r s2 hq => ?_)
  cases r with
  | error e => exact (show False from hq).elim
  | ok fl =>
    cases fl with
    | ret u => exact I1.after hq
    | next => exact False.elim hq
    | brk => exact False.elim hq
    | cont => exact False.elim hq
end
end Lk
set_option Elab.async false
set_option linter.all false
set_option maxRecDepth 100000
set_option maxHeartbeats 4000000
/-! {k: v, ..} with keys that are tuples -/
namespace Lk
open PySem PySem.Spec PyProof.Rows L2 HotX L2H LamX
def mergeT (kvs more : List (List Key × V)) : List (List Key × V) := more.foldl (fun acc kv => putK acc kv.1 kv.2) kvs
/-- the pairs that were made, as keys and values -/
abbrev TupKeys (H : Hp) (ps : List (V × V)) (kvs : List (List Key × V)) : Prop := Paired (fun (x : V × V) (kv : List Key × V) => (∃ a, x.1 = .ref a ∧ H a = some (.tup (kv.1.map kV))) ∧ x.2 = kv.2) ps kvs
def tDispT (trs : List (TE × TE)) : TE := fun σ H Q => ∀ p, H p = none → tPairs trs σ (upd H p (.dT [])) fun ps H2 => H2 p = some (.dT []) ∧ ∃ kvs : List (List Key × V), TupKeys H2 ps kvs ∧ kvs.length ≤ 15 ∧ Q (.ref p) (upd H2 p (.dT (mergeT [] kvs)))
section
variable {P : Program} {w : World}
theorem carriesT {H : Hp} {h : Heap} (ok : HOk P w H h) : ∀ {ps : List (V × V)} {kvs : List (List Key × V)} {ws : List (Value × Value)}, TupKeys H ps kvs → VV ps ws →
    ∃ rs, CarriesH (tupleKind (mixKind P w)) h ws rs ∧ KT H kvs rs
  | _, _, _, .nil, .nil => ⟨[], True.intro, .nil⟩
  | _, _, _, .cons (b := kv) ⟨⟨a, e1, e2⟩, e3⟩ t, .cons (b := ww) ⟨r1, r2⟩ u => by
    obtain ⟨rs, c, q⟩ := carriesT ok t u
    rw [e1] at r1
    obtain ⟨w1, w2⟩ := ww
    cases (show w1 = Value.ref a from r1)
    exact ⟨(kv.1, a, w2) :: rs, ⟨rfl, rfl, key_of ok e2, c⟩, .cons ⟨rfl, e2, by rw [← e3]; exact r2⟩ q⟩
theorem kt_merge {H : Hp} : ∀ {more : List (List Key × V)} {rs : List (List Key × Addr × Value)} {kvs : List (List Key × V)} {xs : List (List Key × Addr × Value)}, KT H more rs → KT H kvs xs → KT H (mergeT kvs more) (storedAllH xs rs)
  | _, _, _, _, .nil, q => q
  | _, _, kvs, xs, .cons (a := kv) (b := r) ⟨e1, e2, e3⟩ t, q => by
    have q2 := q.put kv.1 (b := r.2.1) (y := kv.2) (u := r.2.2) e2 e3
    have z := kt_merge t q2
    obtain ⟨r1, r2, r3⟩ := r
    have e1' : kv.1 = r1 := e1
    subst e1'
    exact z
theorem length_mergeT : ∀ (more kvs : List (List Key × V)), (mergeT kvs more).length ≤ kvs.length + more.length
  | [], kvs => by show kvs.length ≤ kvs.length + 0; omega
  | p :: r, kvs => by
    have h1 := length_mergeT r (putK kvs p.1 p.2)
    have h2 := length_putK kvs p.1 p.2
    show (mergeT (putK kvs p.1 p.2) r).length ≤ _
    rw [List.length_cons]; omega
end
theorem pe_dispT {X : Cx} {pos : Pos} {keys : List (Option Expr)} {values : List Expr} {trs : List (TE × TE)} (hu : X.A.units + 1 < cLine) (h : PPs X pos keys values trs) (hall : keys.all (·.isSome) = true) (hl : keys.length = values.length) (h0 : keys ≠ [])
    (h15 : keys.length ≤ 15) : PE X (.Dict keys values pos) (tDispT trs) := by
  refine ⟨fun pins s σ H Q I q => ?_⟩
  have hn := I.hok.fresh (Nat.le_refl s.heap.objs.size)
  have I1 := I.laid (a := s.heap.objs.size) (o := .dT []) (h' := s.heap.push { cls := .type "dict", data := .dict #[] }) (t' := s.toks) (fun _ _ q => Heap.get?_push_of_some _ q) (Nat.le_refl _) (dt_empty s.heap I.big)
  have hpl := pairTrees_length keys values X.env pos hall hl
  have hp0 : pairTrees keys values X.env pos ≠ [] := fun z => by
    rw [z] at hpl
    exact h0 (List.length_eq_zero_iff.mp hpl.symm)
  rw [arm_eval_Dict, zip_pairTrees keys values X.env pos hall hl, dictDisplay_pairs _ hp0 (by omega)]
  refine wpAny_bind (wpAny_standAt (wpAny_bind (wpAny_subDictH (knd := tupleKind (mixKind X.prog X.w)) (show X.A.units < cLine by omega) (by omega)
    (thn (h.run pins _ σ _ _ I1 (q _ hn)) fun ws s2 ⟨ps, H2, I2, rel, e, kvs, tk, lk, q2⟩ => ?_))))
  obtain ⟨rs, c, rk⟩ := carriesT I2.hok tk rel
  obtain ⟨z, hd, xs0, r0, dd⟩ := dt_of I2.hok e
  cases r0
  refine ⟨rs, c, dd, fun h' tk' dd' hs => wpAny_pure ⟨.ref s.heap.objs.size, _, ?_, rfl, q2⟩⟩
  have hz : (mergeT [] kvs).length ≤ sizeLine := by
    have h1 := length_mergeT kvs []
    rw [List.length_nil] at h1
    rw [sizeLine_eq]; omega
  obtain ⟨oq, es, ep, hq, h2, h3, h4, _, h5⟩ := dd'
  refine d_write I2 (by rw [e]; exact True.intro) hs ⟨oq, hq⟩ ⟨hz, hd, _, (kt_merge rk .nil).keeps fun c ys ec => ?_, oq, es, ep, hq, h2, h3, h4, h5⟩
  rw [upd_ne (ne_of ec e (fun z => nomatch z))]
  exact ec
end Lk
set_option Elab.async false
set_option linter.all false
set_option maxRecDepth 100000
set_option maxHeartbeats 4000000
/-! Data of any depth: what a value stands for. -/
namespace Lk
open PySem PySem.Spec PyProof.Rows L2 HotX L2H LamX
def kD : Key → PyData
  | .inl i => .int i
  | .inr x => .str x
mutual
inductive R (H : Hp) : V → PyData → Prop
  | non : R H .non .none
  | bl (b : Bool) : R H (.bl b) (.bool b)
  | int (i : Int) : R H (.int i) (.int i)
  | str (x : Str) (h : x.length ≤ 100000) : R H (.str x) (.str x)
  | lst {a : Addr} {xs : List V} {ds : List PyData} : H a = some (.lst xs) → Rs H xs ds → R H (.ref a) (.list ds)
  | tup {a : Addr} {xs : List V} {ds : List PyData} : H a = some (.tup xs) → Rs H xs ds → R H (.ref a) (.tuple ds)
  | dT {a : Addr} {kvs : List (List Key × V)} {ds : List (PyData × PyData)} : H a = some (.dT kvs) → ((∀ kv ∈ kvs, ∀ x, Sum.inr x ∈ kv.1 → x.length ≤ 100000) ∧ (kvs.map Prod.fst).Nodup) → ds.map Prod.fst = kvs.map (fun kv => PyData.tuple (kv.1.map kD)) → Rs H (kvs.map Prod.snd) (ds.map Prod.snd) → R H (.ref a) (.dict ds)
  | dK {a : Addr} {kvs : List (Key × V)} {ds : List (PyData × PyData)} : H a = some (.dK kvs) → ((∀ kv ∈ kvs, ∀ x, kv.1 = Sum.inr x → x.length ≤ 100000) ∧ (kvs.map Prod.fst).Nodup) → ds.map Prod.fst = kvs.map (fun kv => kD kv.1) → Rs H (kvs.map Prod.snd) (ds.map Prod.snd) → R H (.ref a) (.dict ds)
inductive Rs (H : Hp) : List V → List PyData → Prop
  | nil : Rs H [] []
  | cons {v : V} {vs : List V} {d : PyData} {ds : List PyData} : R H v d → Rs H vs ds → Rs H (v :: vs) (d :: ds)
end
mutual
theorem R.ext {H H' : Hp} (e : ExtN H H') : ∀ {v : V} {d : PyData}, R H v d → R H' v d
  | _, _, .non => .non
  | _, _, .bl b => .bl b
  | _, _, .int i => .int i
  | _, _, .str x h => .str x h
  | _, _, .lst h r => .lst (e _ _ h (fun _ z => nomatch z)) (Rs.ext e r)
  | _, _, .tup h r => .tup (e _ _ h (fun _ z => nomatch z)) (Rs.ext e r)
  | _, _, .dT h kb k r => .dT (e _ _ h (fun _ z => nomatch z)) kb k (Rs.ext e r)
  | _, _, .dK h kb k r => .dK (e _ _ h (fun _ z => nomatch z)) kb k (Rs.ext e r)
theorem Rs.ext {H H' : Hp} (e : ExtN H H') : ∀ {vs : List V} {ds : List PyData}, Rs H vs ds → Rs H' vs ds
  | _, _, .nil => .nil
  | _, _, .cons r t => .cons (R.ext e r) (Rs.ext e t)
end
theorem pairs_eq {α β : Type} : ∀ {a b : List (α × β)}, a.map Prod.fst = b.map Prod.fst → a.map Prod.snd = b.map Prod.snd → a = b
  | [], [], _, _ => rfl
  | [], _ :: _, h, _ => by simp at h
  | _ :: _, [], h, _ => by simp at h
  | (x, y) :: a, (u, v) :: b, h, k => by
    simp only [List.map_cons, List.cons.injEq] at h k
    rw [h.1, k.1, pairs_eq h.2 k.2]
mutual
theorem R.uniq {H : Hp} : ∀ {v : V} {d e : PyData}, R H v d → R H v e → d = e
  | _, _, _, .non, .non => rfl
  | _, _, _, .bl _, .bl _ => rfl
  | _, _, _, .int _, .int _ => rfl
  | _, _, _, .str _ _, .str _ _ => rfl
  | _, _, _, .lst h r, .lst h' r' => by rw [h] at h'; cases h'; rw [Rs.uniq r r']
  | _, _, _, .tup h r, .tup h' r' => by rw [h] at h'; cases h'; rw [Rs.uniq r r']
  | _, _, _, .dT h _ k r, .dT h' _ k' r' => by rw [h] at h'; cases h'; rw [pairs_eq (k.trans k'.symm) (Rs.uniq r r')]
  | _, _, _, .dK h _ k r, .dK h' _ k' r' => by rw [h] at h'; cases h'; rw [pairs_eq (k.trans k'.symm) (Rs.uniq r r')]
  | _, _, _, .lst h _, .tup h' _ => by rw [h] at h'; cases h'
  | _, _, _, .lst h _, .dT h' _ _ _ => by rw [h] at h'; cases h'
  | _, _, _, .lst h _, .dK h' _ _ _ => by rw [h] at h'; cases h'
  | _, _, _, .tup h _, .lst h' _ => by rw [h] at h'; cases h'
  | _, _, _, .tup h _, .dT h' _ _ _ => by rw [h] at h'; cases h'
  | _, _, _, .tup h _, .dK h' _ _ _ => by rw [h] at h'; cases h'
  | _, _, _, .dT h _ _ _, .lst h' _ => by rw [h] at h'; cases h'
  | _, _, _, .dT h _ _ _, .tup h' _ => by rw [h] at h'; cases h'
  | _, _, _, .dT h _ _ _, .dK h' _ _ _ => by rw [h] at h'; cases h'
  | _, _, _, .dK h _ _ _, .lst h' _ => by rw [h] at h'; cases h'
  | _, _, _, .dK h _ _ _, .tup h' _ => by rw [h] at h'; cases h'
  | _, _, _, .dK h _ _ _, .dT h' _ _ _ => by rw [h] at h'; cases h'
theorem Rs.uniq {H : Hp} : ∀ {vs : List V} {ds es : List PyData}, Rs H vs ds → Rs H vs es → ds = es
  | _, _, _, .nil, .nil => rfl
  | _, _, _, .cons r t, .cons r' t' => by rw [R.uniq r r', Rs.uniq t t']
end
theorem size_snd : ∀ ds : List (PyData × PyData), sizeOf (ds.map Prod.snd) ≤ sizeOf ds
  | [] => by simp
  | (a, b) :: ds => by
    have h := size_snd ds
    simp only [List.map_cons, List.cons.sizeOf_spec, Prod.mk.sizeOf_spec]
    omega
/- what is smaller than the data at a does not hold a: the object at a may change -/
mutual
theorem R.but {H : Hp} {a : Addr} {D : PyData} {o : HO} (ha : R H (.ref a) D) : ∀ {v : V} {x : PyData}, R H v x → sizeOf x < sizeOf D → R (upd H a o) v x
  | _, _, .non, _ => .non
  | _, _, .bl b, _ => .bl b
  | _, _, .int i, _ => .int i
  | _, _, .str x h, _ => .str x h
  | _, _, .lst (a := b) h r, z => by
    have nb : b ≠ a := fun e => by
      subst e
      rw [← (R.uniq (.lst h r) ha)] at z
      exact Nat.lt_irrefl _ z
    exact .lst (by rw [upd_ne nb]; exact h) (Rs.but ha r (Nat.lt_of_lt_of_le (by simp only [PyData.list.sizeOf_spec]; omega) (Nat.le_of_lt z)))
  | _, _, .tup (a := b) h r, z => by
    have nb : b ≠ a := fun e => by
      subst e
      rw [← (R.uniq (.tup h r) ha)] at z
      exact Nat.lt_irrefl _ z
    exact .tup (by rw [upd_ne nb]; exact h) (Rs.but ha r (Nat.lt_of_lt_of_le (by simp only [PyData.tuple.sizeOf_spec]; omega) (Nat.le_of_lt z)))
  | _, _, .dT (a := b) (ds := ds) h kb k r, z => by
    have nb : b ≠ a := fun e => by
      subst e
      rw [← (R.uniq (.dT h kb k r) ha)] at z
      exact Nat.lt_irrefl _ z
    have hz := size_snd ds
    exact .dT (by rw [upd_ne nb]; exact h) kb k (Rs.but ha r (Nat.lt_of_lt_of_le (by simp only [PyData.dict.sizeOf_spec]; omega) (Nat.le_of_lt z)))
  | _, _, .dK (a := b) (ds := ds) h kb k r, z => by
    have nb : b ≠ a := fun e => by
      subst e
      rw [← (R.uniq (.dK h kb k r) ha)] at z
      exact Nat.lt_irrefl _ z
    have hz := size_snd ds
    exact .dK (by rw [upd_ne nb]; exact h) kb k (Rs.but ha r (Nat.lt_of_lt_of_le (by simp only [PyData.dict.sizeOf_spec]; omega) (Nat.le_of_lt z)))
theorem Rs.but {H : Hp} {a : Addr} {D : PyData} {o : HO} (ha : R H (.ref a) D) : ∀ {vs : List V} {ds : List PyData}, Rs H vs ds → sizeOf ds < sizeOf D → Rs (upd H a o) vs ds
  | _, _, .nil, _ => .nil
  | _, _, .cons r t, z => .cons (R.but ha r (Nat.lt_trans (by simp only [List.cons.sizeOf_spec]; omega) z)) (Rs.but ha t (Nat.lt_trans (by simp only [List.cons.sizeOf_spec]; omega) z))
end
theorem R.same {H H' : Hp} (e : Same H H') {v : V} {d : PyData} (r : R H v d) : R H' v d := r.ext fun b o h _ => e b o h
theorem Rs.same {H H' : Hp} (e : Same H H') {vs : List V} {ds : List PyData} (r : Rs H vs ds) : Rs H' vs ds := r.ext fun b o h _ => e b o h
theorem Rs.length {H : Hp} : ∀ {vs : List V} {ds : List PyData}, Rs H vs ds → vs.length = ds.length
  | _, _, .nil => rfl
  | _, _, .cons _ t => by rw [List.length_cons, List.length_cons, Rs.length t]
theorem Rs.get {H : Hp} : ∀ {vs : List V} {ds : List PyData} {i : Nat} {d : PyData}, Rs H vs ds → ds[i]? = some d → ∃ v, vs[i]? = some v ∧ R H v d
  | _, _, _, _, .nil, e => by simp at e
  | _, _, 0, _, .cons r _, e => by simp at e; subst e; exact ⟨_, rfl, r⟩
  | _, _, i + 1, d, .cons _ t, e => by
    obtain ⟨v, h1, h2⟩ := Rs.get (i := i) (d := d) t (by simpa using e)
    exact ⟨v, by simpa using h1, h2⟩
theorem Rs.get' {H : Hp} : ∀ {vs : List V} {ds : List PyData} {i : Nat} {v : V}, Rs H vs ds → vs[i]? = some v → ∃ d, ds[i]? = some d ∧ R H v d
  | _, _, _, _, .nil, e => by simp at e
  | _, _, 0, _, .cons r _, e => by simp at e; subst e; exact ⟨_, rfl, r⟩
  | _, _, i + 1, d, .cons _ t, e => by
    obtain ⟨v, h1, h2⟩ := Rs.get' (i := i) (v := d) t (by simpa using e)
    exact ⟨v, by simpa using h1, h2⟩
theorem Rs.append {H : Hp} : ∀ {vs : List V} {ds : List PyData} {ws : List V} {es : List PyData}, Rs H vs ds → Rs H ws es → Rs H (vs ++ ws) (ds ++ es)
  | _, _, _, _, .nil, s => s
  | _, _, _, _, .cons r t, s => .cons r (Rs.append t s)
/-- the kind of a thing, as isinstance asks it -/
def tyD : PyData → String
  | .none => "NoneType"
  | .bool _ => "bool"
  | .int _ => "int"
  | .str _ => "str"
  | .list _ => "list"
  | .tuple _ => "tuple"
  | .dict _ => "dict"
end Lk
set_option Elab.async false
set_option linter.all false
set_option maxRecDepth 100000
set_option maxHeartbeats 4000000
namespace Lk
open PySem PySem.Spec PyProof.Rows L2 HotX L2H LamX
section
variable {X : Cx} {pins : List (Addr × Obj)} {σ : L2.St} {H : Hp} {s : Shared}
theorem kitR {x : V} {u : Value} {d : PyData} (I : Inv X pins σ H s) (rx : RelV x u) (r : R H x d) : ∃ P : Heap → Prop, PySem.W.KitX X.K u (.type (tyD d)) P ∧ P s.heap ∧ u ≠ .builtin "__main__.__loader__#opaque" := by
  cases r with
  | non => exact kit_of I rx (.base .non)
  | bl b => exact kit_of I rx (.base (.bl b))
  | int i => exact kit_of I rx (.base (.int i))
  | str z _ => exact kit_of I rx (.base (.str z))
  | lst h _ => exact kit_of I rx (.base (.lst h))
  | tup h _ => exact kit_of I rx (.base (.tup h))
  | dT h _ _ _ => exact kit_of I rx (.base (.dT h))
  | dK h _ _ _ => exact kit_of I rx (.base (.dK h))
/-- isinstance(x, T): x any data, T a built-in class by its name -/
def rIsD (T : String) : List V → Hp → VK → Prop := fun xs H Q => ∃ (x : V) (d : PyData) (b : Bool), xs = [x, .ty T] ∧ R H x d ∧ kitB (tyD d) T = some b ∧ Q (.bl b) H
theorem call_isD {T : String} : CallR X (.builtin "isinstance") (rIsD T) := by
  intro pins s σ H xs us Q I r h
  obtain ⟨x, d, b, rfl, rd, e, q⟩ := h
  obtain ⟨u1, u2, rfl, r1, r2⟩ := vals2 r
  cases (show u2 = Value.type T from r2)
  obtain ⟨P, Z, p, hx⟩ := kitR I r1 rd
  exact PySem.W.kia_one Z I.kIn p (kit_ty e) hx fun tk => ⟨.bl b, H, I.tok tk, rfl, q⟩
end
/-! ### calls by promise -/
/-- the def of the name x keeps the promise sp, by level k -/
structure Df (P : Program) (w : World) (K : PySem.W.Frag) (mg : Str → Option Value) (base : Heap) (x : Str) (k : Nat) (ps : List Str) (sp : Sp) : Prop where
  ex : ∃ (f : Addr) (fd : FuncData), mg x = some (.ref f) ∧ PySem.W.keepIn K (.ref f) = true ∧ Binds K fd ps [] ∧ FnOk P w K mg base (L2N.CX P w) k f fd ps sp
theorem passN {X : Cx} : Passes (L2N.CX X.prog X.w) X L2.E0 := fun _ _ _ _ _ _ _ h => by
  obtain ⟨_, _, _, _, _, _, _, _, _, _, _, _, z⟩ := h
  exact z.elim
theorem taken {X : Cx} {W : WX} {E : XK} (tk : L2N.Takes X W) (hW : ∀ cls d σ H, E cls d H → W cls d σ H) : Passes (L2N.CX X.prog X.w) X E := L2N.passes_call tk hW
section
variable {X : Cx} {k j : Nat} {x : Str} {ps : List Str} {sp : Sp} {E : XK} {p pos : Pos} {e : Expr} {es : List Expr} {t : TA}
theorem pe_df (F : Df X.prog X.w X.K X.mg X.base x k ps sp) (hr : Room j X.A) (hk : k ≤ j) (hg : Gl X x) (hx : Passes (L2N.CX X.prog X.w) X E) (ha : PA X (e :: es) t)
    (hdb : (x == ("__debug__" : Str)) = false := by decide) (he : starEach (e :: es) X.env = (false, eval e X.env) :: starEach es X.env := by rfl) (hpl : (backTo pos (starEach es X.env)).any (·.1) = false := by rfl) :
    PE X (.Call (.Name x p) (e :: es) [] pos) (tCall sp [] E t) := by
  obtain ⟨f, fd, hm, hkp, hb, F⟩ := F.ex
  exact pe_call F (hr.mono hk) hg hm hkp hb .nil hx ha hdb he hpl
theorem pe_df0 (F : Df X.prog X.w X.K X.mg X.base x k ps sp) (hr : Room j X.A) (hk : k ≤ j) (hg : Gl X x) (hx : Passes (L2N.CX X.prog X.w) X E)
    (hdb : (x == ("__debug__" : Str)) = false := by decide) :
    PE X (.Call (.Name x p) [] [] pos) (tCall sp [] E tNil) := by
  obtain ⟨f, fd, hm, hkp, hb, F⟩ := F.ex
  exact pe_call0 F (hr.mono hk) hg hm hkp hb .nil hx hdb
end
/-- a def of the text, by its body -/
theorem df_of {P : Program} {w : World} {K : PySem.W.Frag} {mg : Str → Option Value} {base : Heap} {x qual : Str} {st : Stmt} {f : Addr} {fd : FuncData} {N ps : List Str} {k : Nat} {sp : Sp} (F : L2.Fun K x qual st f fd) (hm : mg x = some (.ref f)) (hb : Binds K fd ps [])
    (S : FnScope N ps (defScope st)) (len : ∀ vs H Q E, sp vs H Q E → vs.length = ps.length)
    (hbody : ∀ (cdv : Value) (A : Around) (outer : List Env) (s : Shared) (H : Hp) (vs : List V) (Q : VK) (E : XK), Room k (A.deeper (envOfC qual (defScope st) s.heap.objs.size f cdv)) → sp vs H Q E →
      ∃ t, PSs (cxOf (L2N.CX P w) P w K mg base N qual (defScope st) f cdv A outer s H E) (defBody st) t ∧ t { nx := fun _ H' => Q .non H', rt := Q } (start N vs) H) : Df P w K mg base x (k + 1) ps sp :=
  ⟨f, fd, hm, F.kp, hb, okN F S len hbody⟩
end Lk
set_option Elab.async false
set_option linter.all false
set_option maxRecDepth 100000
set_option maxHeartbeats 4000000
/-! What an expression comes to, as data. -/
namespace Lk
open PySem PySem.Spec PyProof.Rows L2 HotX L2H LamX
open Evl (Ev EvL EvA EvT Ex)
abbrev St := L2.St
theorem exN {H H' : Hp} (e : Ex H H') : ExtN H H' := fun b o h _ => e b o h
def EvD (te : TE) (σ : St) (H : Hp) (d : PyData) : Prop := ∀ H1, Ex H H1 → ∀ Q : VK, (∀ v H2, Ex H1 H2 → R H2 v d → Q v H2) → te σ H1 Q
def EvDs (ta : TA) (σ : St) (H : Hp) (ds : List PyData) : Prop := ∀ H1, Ex H H1 → ∀ Q : List V → Hp → Prop, (∀ vs H2, Ex H1 H2 → Rs H2 vs ds → Q vs H2) → ta σ H1 Q
section
variable {K : PySem.W.Frag} {σ : St} {H H' : Hp} {ta tb te : TE} {tr : TA} {d e : PyData} {ds : List PyData} {v : V} {b c : Bool} {i j : Int}
theorem EvD.mono (e : Ex H H') (h : EvD te σ H d) : EvD te σ H' d := fun H1 a Q q => h H1 (e.trans a) Q q
theorem EvDs.mono (e : Ex H H') (h : EvDs tr σ H ds) : EvDs tr σ H' ds := fun H1 a Q q => h H1 (e.trans a) Q q
theorem EvD.of (h : Ev te σ H v) (r : R H v d) : EvD te σ H d := fun H1 e Q q => h H1 e Q fun H2 e2 => q v H2 e2 (r.ext (exN (e.trans e2)))
theorem EvD.ofU {xs : List V} (h : Evl.EvU te σ H xs) (r : Rs H xs ds) : EvD te σ H (.tuple ds) := fun H1 e Q q => h H1 e Q fun p H2 _ e2 hp => q (.ref p) H2 e2 (.tup hp (r.ext (exN (e.trans e2))))
theorem EvD.ofL {xs : List V} (h : EvL te σ H xs) (r : Rs H xs ds) : EvD te σ H (.list ds) := fun H1 e Q q => h H1 e Q fun p H2 _ e2 hp => q (.ref p) H2 e2 (.lst hp (r.ext (exN (e.trans e2))))
theorem EvD.vb (h : EvD te σ H (.bool b)) : Ev te σ H (.bl b) := fun H1 e Q q => h H1 e Q fun v H2 e2 r => by cases r; exact q H2 e2
theorem EvD.ti (h : EvD te σ H (.int i)) : Ev te σ H (.int i) := fun H1 e Q q => h H1 e Q fun v H2 e2 r => by cases r; exact q H2 e2
theorem EvD.tn (h : EvD te σ H .none) : Ev te σ H .non := fun H1 e Q q => h H1 e Q fun v H2 e2 r => by cases r; exact q H2 e2
theorem EvD.ts {x : Str} (h : EvD te σ H (.str x)) : Ev te σ H (.str x) := fun H1 e Q q => h H1 e Q fun v H2 e2 r => by cases r; exact q H2 e2
theorem Ev.db (h : Ev te σ H (.bl b)) : EvD te σ H (.bool b) := EvD.of h (.bl b)
theorem Ev.di (h : Ev te σ H (.int i)) : EvD te σ H (.int i) := EvD.of h (.int i)
theorem ed_var {k : Nat} (h : σ[k]? = some (some v)) (r : R H v d) : EvD (tVar k) σ H d := EvD.of (Evl.ev_var h) r
theorem ed_c (r : R H v d) : EvD (tC v) σ H d := EvD.of Evl.ev_c r
theorem eds_nil : EvDs tNil σ H [] := fun H1 _ _ q => q [] H1 (Ex.refl H1) .nil
theorem eds_cons (h : EvD ta σ H d) (hr : EvDs tr σ H ds) : EvDs (tCons ta tr) σ H (d :: ds) := fun H1 e _ q =>
  h H1 e _ fun v H2 e2 r => hr H2 (e.trans e2) _ fun vs H3 e3 rs => q (v :: vs) H3 (e2.trans e3) (.cons (r.ext (exN e3)) rs)
theorem ed_tup (h : EvDs tr σ H ds) (hl : ds.length ≤ 100000) : EvD (tTup tr) σ H (.tuple ds) := fun H1 e _ q =>
  h H1 e _ fun vs H2 e2 rs => ⟨Evl.sz_of (by rw [rs.length]; exact hl), fun p hp => q (.ref p) _ (e2.trans (Ex.new hp)) (.tup upd_same (rs.ext (exN (Ex.new hp))))⟩
theorem ed_lst (h : EvDs tr σ H ds) (hl : ds.length ≤ 100000) : EvD (tLst tr) σ H (.list ds) := fun H1 e _ q =>
  h H1 e _ fun vs H2 e2 rs => ⟨Evl.sz_of (by rw [rs.length]; exact hl), fun p hp => q (.ref p) _ (e2.trans (Ex.new hp)) (.lst upd_same (rs.ext (exN (Ex.new hp))))⟩
/-- isinstance(x, T) -/
theorem ed_isi {T : String} (h : EvD ta σ H d) (hb : kitB (tyD d) T = some b) : EvD (tCB (rIsD T) (tCons ta (tCons (tC (.ty T)) tNil))) σ H (.bool b) := fun H1 e Q q =>
  h H1 e _ fun v H2 e2 r => ⟨v, d, b, rfl, r, hb, q _ H2 e2 (.bl b)⟩
theorem ed_and (h1 : EvD ta σ H (.bool b)) (h2 : b = true → EvD tb σ H (.bool c)) : EvD (tAndV ta tb) σ H (.bool (b && c)) := Ev.db (Evl.ev_andV h1.vb fun z => (h2 z).vb)
theorem ed_or (h1 : EvD ta σ H (.bool b)) (h2 : b = false → EvD tb σ H (.bool c)) : EvD (tOrV ta tb) σ H (.bool (b || c)) := Ev.db (Evl.ev_orV h1.vb fun z => (h2 z).vb)
theorem ed_not (h : EvD ta σ H (.bool b)) : EvD (tNotV ta) σ H (.bool (!b)) := Ev.db (Evl.ev_notV h.vb)
theorem ed_is (h : EvD te σ H d) (z : d = e) : EvD te σ H e := z ▸ h
/-- two ints -/
theorem ed_I0 {g : Int → Int → V} (h1 : EvD ta σ H (.int i)) (h2 : EvD tb σ H (.int j)) (r : R H (g i j) d) : EvD (tOp (rI0 g) ta tb) σ H d := EvD.of (Evl.ev_op h1.ti h2.ti Evl.rv_I0) r
theorem ed_I {C : Int → Int → Prop} {g : Int → Int → V} (h1 : EvD ta σ H (.int i)) (h2 : EvD tb σ H (.int j)) (hc : C i j) (r : R H (g i j) d) : EvD (tOp (rI C g) ta tb) σ H d := EvD.of (Evl.ev_op h1.ti h2.ti (Evl.rv_I hc)) r
/-- a <= b <= c of ints and the like -/
theorem ed_chain {f g : Int → Int → Bool} {tc : TE} {k : Int} (h1 : EvD ta σ H (.int i)) (h2 : EvD tb σ H (.int j)) (h3 : EvD tc σ H (.int k)) :
    EvD (tChain (rI0 fun a b => V.bl (f a b)) (rI0 fun a b => V.bl (g a b)) ta tb tc) σ H (.bool (f i j && g j k)) := fun H1 e Q q =>
  h1.ti H1 e _ fun H2 e2 => h2.ti H2 (e.trans e2) _ fun H3 e3 => ⟨i, j, rfl, rfl, f i j, rfl, by
    cases hf : f i j with
    | true =>
      show tc σ H3 _
      refine h3.ti H3 ((e.trans e2).trans e3) _ fun H4 e4 => ⟨j, k, rfl, rfl, ?_⟩
      exact q _ H4 ((e2.trans e3).trans e4) (by rw [hf, Bool.true_and]; exact .bl _)
    | false =>
      show Q (.bl false) H3
      exact q _ H3 (e2.trans e3) (by rw [hf, Bool.false_and]; exact .bl _)⟩
theorem ed_lenS {x : Str} (h : EvD ta σ H (.str x)) : EvD (tCB (fun xs H Q => ∃ z, xs = [V.str z] ∧ z.length ≤ sizeLine ∧ Q (V.int z.length) H) (tCons ta tNil)) σ H (.int x.length) := fun H1 e Q q =>
  h H1 e _ fun v H2 e2 r => by
    cases r with
    | str _ hz => exact ⟨x, rfl, Evl.sz_of hz, q _ H2 e2 (.int _)⟩
/-- len of a list or tuple -/
theorem ed_lenQ (h : EvD ta σ H d) (hd : d = .tuple ds ∨ d = .list ds) : EvD (tCB (Evl.rLenS K) (tCons ta tNil)) σ H (.int ds.length) := fun H1 e Q q =>
  h H1 e _ fun v H2 e2 r => by
    rcases hd with rfl | rfl
    · cases r with
      | tup hp rs => exact ⟨_, _, rfl, .inr (.inl (.inl hp)), by rw [rs.length]; exact q _ H2 e2 (.int _)⟩
    · cases r with
      | lst hp rs => exact ⟨_, _, rfl, .inl (.inl (.inl hp)), by rw [rs.length]; exact q _ H2 e2 (.int _)⟩
/-- t[i] of a tuple, i written -/
theorem ed_ixT {k : Nat} (h : EvD ta σ H (.tuple ds)) (h2 : EvD tb σ H (.int k)) (hk : ds[k]? = some d) : EvD (tOp (rIxT K) ta tb) σ H d := fun H1 e Q q =>
  h H1 e _ fun v H2 e2 r => h2.ti H2 (e.trans e2) _ fun H3 e3 => by
    cases r with
    | tup hp rs =>
      obtain ⟨w, hw, rw'⟩ := rs.get hk
      exact ⟨_, _, _, w, rfl, rfl, .inl (.inl (e3 _ _ hp)), atI_nat hw, q w H3 (e2.trans e3) (rw'.ext (exN e3))⟩
theorem ed_ixL {k : Nat} (h : EvD ta σ H (.list ds)) (h2 : EvD tb σ H (.int k)) (hk : ds[k]? = some d) : EvD (tOp (rIxL K) ta tb) σ H d := fun H1 e Q q =>
  h H1 e _ fun v H2 e2 r => h2.ti H2 (e.trans e2) _ fun H3 e3 => by
    cases r with
    | lst hp rs =>
      obtain ⟨w, hw, rw'⟩ := rs.get hk
      exact ⟨_, _, _, w, rfl, rfl, .inl (.inl (e3 _ _ hp)), atI_nat hw, q w H3 (e2.trans e3) (rw'.ext (exN e3))⟩
/-! ### [e for x in ..], no test -/
theorem given_all (ws : List V) : Evl.given ws.length (fun _ => true) (fun i => ws.getD i .non) = ws := by
  unfold Evl.given
  rw [List.filter_eq_self.mpr (by simp)]
  apply List.ext_getElem
  · simp
  · intro i h1 h2
    simp [List.getElem?_eq_getElem h2]
theorem yes_t {σ : St} {H : Hp} : EvT tYes σ H true := fun H1 _ _ q => q H1 (Ex.refl H1)
/-- the comprehension's own loop, over a walk that gives I i x -/
theorem lc_w {J : It} {n : Nat} {G : Hp → Prop} {I : Nat → V → Prop} {jx : Nat} {vs : List Nat} {D : Addr} {Q : VK} (wk : Walk J n G (fun i H x H' => H' = H ∧ I i x)) (hG : ∀ H', Ex H H' → G H') (ws : List V) (hn : ws.length = n) (hz : n ≤ 40000)
    (hw : ∀ x, wipe ((wipe σ vs).set jx (some x)) vs = wipe σ vs) (he : ∀ i x, i < n → I i x → Ev te ((wipe σ vs).set jx (some x)) H (ws.getD i .non)) (hD : H D = none) (q : ∀ H2, Ex H H2 → H2 D = some (.lst ws) → Q (.ref D) H2) :
    ∃ W : Nat → Nat → Hp → Prop, (∃ m, W 0 m (upd H D (.lst []))) ∧ ∀ i m H, W i m H →
      (J.stop i H ∧ Q (.ref D) H) ∨ (J.go i H ∧ ∃ Nx : Hp → Prop, (∀ H', Nx H' → ∃ m', m' < m ∧ W (i + 1) m' H') ∧ ∀ x H', J.yld i H x H' → gName jx x (wipe σ vs) H' fun σ2 H2 => wipe σ2 vs = wipe σ vs ∧ tYes σ2 H2 fun b H3 =>
        if b = true then te σ2 H3 fun y H4 => ∃ acc, H4 D = some (.lst acc) ∧ acc.length < sizeLine ∧ Nx (upd H4 D (.lst (acc ++ [y]))) else Nx H3) :=
  lc_it (σ := σ) (vs := vs) (g := gName jx) (tt := tYes) (te := te) (Qd := fun H => Q (.ref D) H) wk (Evl.Cw H (fun _ => true) (fun i => ws.getD i .non) D) ⟨hD, Ex.new hD, upd_same⟩ (fun i H' _ p => hG H' p.2.1)
    (fun i x H1 H' hi p ⟨e1, e2⟩ => by
      subst e1
      exact ⟨hw x, Evl.cw_turn p (by omega) yes_t fun _ => he i x hi e2⟩)
    (fun H' p => q H' p.2.1 (by rw [← hn] at p; rw [← given_all ws]; exact p.2.2))
theorem el_lcT {a : Addr} {xs : List V} {tl : TE} {jx : Nat} {vs : List Nat} (h : Ev tl σ H (.ref a)) (hx : H a = some (.tup xs)) (ws : List V) (hn : ws.length = xs.length) (hz : xs.length ≤ 40000)
    (hw : ∀ x, wipe ((wipe σ vs).set jx (some x)) vs = wipe σ vs) (he : ∀ (i : Nat) x H1, Ex H H1 → xs[i]? = some x → Ev te ((wipe σ vs).set jx (some x)) H1 (ws.getD i .non)) :
    EvL (tLc (iTup K tl) (gName jx) tYes te vs) σ H ws := fun H0 e Q q => h H0 e _ fun H1 e1 => ⟨a, rfl, ⟨xs, .inl (.inl ((e.trans e1) _ _ hx))⟩, fun D hD =>
  lc_w (walk_tup (K := K) (a := a) (xs := xs)) (fun H' e2 => .inl (.inl (((e.trans e1).trans e2) _ _ hx))) ws hn hz hw (fun i x hi hx' => he i x H1 (e.trans e1) hx') hD fun H2 e2 h2 => q D H2 (Evl.fresh_back e1 hD) (e1.trans e2) h2⟩
theorem el_lcS {z : Str} {tl : TE} {jx : Nat} {vs : List Nat} (h : Ev tl σ H (.str z)) (ws : List V) (hn : ws.length = z.cps.size) (hz : z.cps.size ≤ 40000)
    (hw : ∀ x, wipe ((wipe σ vs).set jx (some x)) vs = wipe σ vs) (he : ∀ (i : Nat) c H1, Ex H H1 → z.cps[i]? = some c → Ev te ((wipe σ vs).set jx (some (.str ⟨#[c]⟩))) H1 (ws.getD i .non)) :
    EvL (tLc (iStr tl) (gName jx) tYes te vs) σ H ws := fun H0 e Q q => h H0 e _ fun H1 e1 => ⟨z, rfl, fun D hD =>
  lc_w (walk_str (z := z)) (fun H' _ => trivial) ws hn hz hw (fun i x hi ⟨c, h1, h2⟩ => by rw [h2]; exact he i c H1 (e.trans e1) h1) hD fun H2 e2 h2 => q D H2 (Evl.fresh_back e1 hD) (e1.trans e2) h2⟩
theorem ed_all {bs : List Bool} (h : EvL ta σ H (bs.map V.bl)) : EvD (tCB (rAll K) (tCons ta tNil)) σ H (.bool (bs.all id)) := fun H1 e Q q =>
  h H1 e _ fun p H2 _ e2 hp => ⟨p, bs, rfl, .inl (.inl hp), q _ H2 e2 (.bl _)⟩
theorem ed_any {bs : List Bool} (h : EvL ta σ H (bs.map V.bl)) : EvD (tCB (rAny K) (tCons ta tNil)) σ H (.bool (bs.any id)) := fun H1 e Q q =>
  h H1 e _ fun p H2 _ e2 hp => ⟨p, bs, rfl, .inl (.inl hp), q _ H2 e2 (.bl _)⟩
end
end Lk
set_option Elab.async false
set_option linter.all false
set_option maxRecDepth 100000
set_option maxHeartbeats 4000000
namespace Lk
open PySem PySem.Spec PyProof.Rows L2 HotX L2H LamX
open Evl (Ev EvL EvA EvT Ex)
def topS (i : Nat) : Stmt := PySem.Challenge.pw_lookhouse_k70_whole_written.main.body.getD i (.Pass ⟨0, 0, 0, 0⟩)
abbrev sIsWord : Stmt := topS 14
abbrev sIsPath : Stmt := topS 15
abbrev sIsNumber : Stmt := topS 16
abbrev sIsState : Stmt := topS 17
abbrev sNeedState : Stmt := topS 18
/-! what the module's names hold -/
def smallS : Str := "abcdefghijklmnopqrstuvwxyz"
structure Tx (K : PySem.W.Frag) (mg : Str → Option Value) : Prop where
  isi : mg "isinstance" = none
  len : mg "len" = none
  all : mg "all" = none
  any : mg "any" = none
  abs : mg "abs" = none
  rng : mg "range" = none
  str : mg "str" = none
  tup : mg "tuple" = none
  int : mg "int" = none
  bool : mg "bool" = none
  dict : mg "dict" = none
  small : ∃ u, mg "SMALL" = some u ∧ RelV (.str smallS) u
  mword : ∃ u, mg "MOST_WORD" = some u ∧ RelV (.int 6) u
  mdeep : ∃ u, mg "MOST_DEEP" = some u ∧ RelV (.int 4) u
  mworth : ∃ u, mg "MOST_WORTH" = some u ∧ RelV (.int 1000000000) u
/-! ### what the defs come to -/
def isWord : PyData → Bool
  | .str x => (decide ((1 : Int) ≤ (x.length : Int)) && decide ((x.length : Int) ≤ 6)) && x.cps.toList.all fun c => decide (c ∈ smallS.cps.toList)
  | _ => false
def isPath : PyData → Bool
  | .tuple ds => decide ((ds.length : Int) ≤ 4) && ds.all isWord
  | _ => false
def isNumber (most : Int) : PyData → Bool
  | .int i => decide ((i.natAbs : Int) ≤ most)
  | _ => false
def isStr : PyData → Bool
  | .str _ => true
  | _ => false
def isTup : PyData → Bool
  | .tuple _ => true
  | _ => false
def isInt : PyData → Bool
  | .int _ => true
  | .bool _ => true
  | _ => false
def isBool : PyData → Bool
  | .bool _ => true
  | _ => false
def isDict : PyData → Bool
  | .dict _ => true
  | _ => false
theorem kit_str (d : PyData) : kitB (tyD d) "str" = some (isStr d) := by
  cases d <;> (show kitB _ _ = some _) <;> simp only [tyD, isStr] <;> decide +kernel
theorem kit_tup (d : PyData) : kitB (tyD d) "tuple" = some (isTup d) := by
  cases d <;> (show kitB _ _ = some _) <;> simp only [tyD, isTup] <;> decide +kernel
theorem kit_int (d : PyData) : kitB (tyD d) "int" = some (isInt d) := by
  cases d <;> (show kitB _ _ = some _) <;> simp only [tyD, isInt] <;> decide +kernel
theorem kit_bool (d : PyData) : kitB (tyD d) "bool" = some (isBool d) := by
  cases d <;> (show kitB _ _ = some _) <;> simp only [tyD, isBool] <;> decide +kernel
theorem kit_dict (d : PyData) : kitB (tyD d) "dict" = some (isDict d) := by
  cases d <;> (show kitB _ _ = some _) <;> simp only [tyD, isDict] <;> decide +kernel
/-- a promise that tells what comes of things, without a refusal -/
def spF (n : Nat) (f : List PyData → PyData) : Sp := fun vs H Q _ => ∃ ds, Rs H vs ds ∧ ds.length = n ∧ ∀ v H', Same H H' → R H' v (f ds) → Q v H'
theorem spF_len {n : Nat} {f : List PyData → PyData} {ps : List Str} (hn : ps.length = n) (vs : List V) (H : Hp) (Q : VK) (E : XK) (h : spF n f vs H Q E) : vs.length = ps.length := by
  obtain ⟨ds, r, hl, _⟩ := h
  rw [r.length, hl, hn]
def f1 (g : PyData → Bool) : List PyData → PyData
  | [d] => .bool (g d)
  | _ => .none
theorem Rs.one {H : Hp} {vs : List V} {ds : List PyData} (r : Rs H vs ds) (h : ds.length = 1) : ∃ v d, vs = [v] ∧ ds = [d] ∧ R H v d := by
  cases r with
  | nil => cases h
  | cons r t => cases t with
    | nil => exact ⟨_, _, rfl, rfl, r⟩
    | cons _ _ => cases h
theorem Rs.two {H : Hp} {vs : List V} {ds : List PyData} (r : Rs H vs ds) (h : ds.length = 2) : ∃ v w d e, vs = [v, w] ∧ ds = [d, e] ∧ R H v d ∧ R H w e := by
  cases r with
  | nil => cases h
  | cons r t =>
    obtain ⟨w, e, rfl, rfl, q⟩ := t.one (by simpa using h)
    exact ⟨_, _, _, _, rfl, rfl, r, q⟩
/-- a call of such a def -/
theorem ed_call {σ : St} {H : Hp} {n : Nat} {f : List PyData → PyData} {E : XK} {ta : TA} {ds : List PyData} {d : PyData} (h : EvDs ta σ H ds) (hn : ds.length = n) (hd : f ds = d) : EvD (tCall (spF n f) [] E ta) σ H d := fun H1 e Q q =>
  h H1 e _ fun vs H2 e2 rs => ⟨ds, by rw [List.append_nil]; exact rs, hn, fun v H3 s3 r => q v H3 (e2.trans s3) (by rw [← hd]; exact r)⟩
theorem s_retD {te : TE} {σ : St} {H : Hp} {d : PyData} {D : Ends} (h : EvD te σ H d) (k : ∀ v H1, Ex H H1 → R H1 v d → D.rt v H1) : tRet te D σ H := h H (Ex.refl H) _ k
section
variable {P : Program} {w : World} {K : PySem.W.Frag} {mg : Str → Option Value} {base : Heap}
theorem scIsWord : FnScope ["thing", "sign"] ["thing"] (defScope sIsWord) := ⟨rfl, rfl, rfl, by decide +kernel, rfl, by decide +kernel, by decide +kernel⟩
theorem ok_isWord {f : Addr} {fd : FuncData} (F : L2.Fun K "is_word" "is_word" sIsWord f fd) (hm : mg "is_word" = some (.ref f)) (hb : Binds K fd ["thing"] []) (T : Tx K mg) : Df P w K mg base "is_word" 1 ["thing"] (spF 1 (f1 isWord)) := by
  refine df_of F hm hb scIsWord (spF_len rfl) (fun cdv A outer s H vs Q E hr h => ?_)
  obtain ⟨ds, rs, hl, k⟩ := h
  obtain ⟨v, d, rfl, rfl, rd⟩ := rs.one hl
  refine ⟨_, pss_one (ps_ret (pe_and (pe_callB (call_isD (T := "str")) (by rfl) T.isi boot_isinstance (pa_cons (pv 0) (pa_cons (pe_bltn (v := .ty "str") (by rfl) T.str boot_str rfl) pa_nil)))
      (pe_and (pe_chain op_le op_le pe_int (pe_callB call_len_str (by rfl) T.len PySem.boot_len (pa_cons (pv 0) pa_nil)) (C8.pe_gc (by rfl) T.mword))
      (pe_one (pe_callB (cr_all rfl) (by rfl) T.all boot_all (pa_cons (pe_lc (own := [("sign", 1)]) (g := gName 1) (tt := tYes) rfl scIsWord.nd (pi_str (pv 0)) (blkOk_by (own := [("sign", 1)]) (N := ["thing", "sign"]) (sc := defScope sIsWord) (by decide +kernel))
        (fun _ _ _ _ _ => pg_name (i := 1) scIsWord.nd rfl (Or.inl rfl)) (fun _ _ _ _ _ => pts_nil) (fun _ _ _ _ _ => pe_cmpR op_in_sign (pv 1) (C8.pe_gc (by rfl) T.small) rfl)) pa_nil)))))), ?_⟩
  refine s_retD (d := .bool (isWord d)) ?_ fun v1 H1 e1 r1 => k v1 H1 e1 r1
  refine ed_is (ed_and (c := isWord d) (ed_isi (ed_var rfl rd) (kit_str d)) fun hs => ?_) (by cases d <;> simp [isStr, isWord])
  cases rd with
  | str z hz =>
    refine ed_is (ed_and (ed_chain (i := 1) (j := (z.length : Int)) (k := 6) (ed_c (.int 1)) (ed_lenS (ed_var rfl (.str z hz))) (ed_c (.int 6))) fun hc =>
      ed_all (bs := z.cps.toList.map fun c => decide (c ∈ smallS.cps.toList)) (el_lcS (z := z) (Evl.ev_var rfl) _ (by simp) ?_ (fun x => rfl) fun i c H1 _ hc => ?_)) ?_
    · have : z.cps.size = z.length := rfl
      have h6 : (z.length : Int) ≤ 6 := of_decide_eq_true (Bool.and_eq_true .. ▸ hc).2
      omega
    · refine Evl.ev_is (Evl.ev_op (Evl.ev_var rfl) Evl.ev_c (Evl.rv_val fun H2 _ Q q => ⟨c, smallS, rfl, rfl, q⟩)) ?_
      have hc' : z.cps.toList[i]? = some c := by rw [Array.getElem?_toList]; exact hc
      simp [hc']
    · rw [List.all_map]
      rfl
  | _ => cases hs
theorem scIsPath : FnScope ["thing", "word"] ["thing"] (defScope sIsPath) := ⟨rfl, rfl, rfl, by decide +kernel, rfl, by decide +kernel, by decide +kernel⟩
theorem ok_isPath {f : Addr} {fd : FuncData} (F : L2.Fun K "is_path" "is_path" sIsPath f fd) (hm : mg "is_path" = some (.ref f)) (hb : Binds K fd ["thing"] []) (T : Tx K mg) (D1 : Df P w K mg base "is_word" 1 ["thing"] (spF 1 (f1 isWord))) : Df P w K mg base "is_path" 2 ["thing"] (spF 1 (f1 isPath)) := by
  refine df_of F hm hb scIsPath (spF_len rfl) (fun cdv A outer s H vs Q E hr h => ?_)
  obtain ⟨ds, rs, hl, k⟩ := h
  obtain ⟨v, d, rfl, rfl, rd⟩ := rs.one hl
  refine ⟨_, pss_one (ps_ret (pe_and (pe_callB (call_isD (T := "tuple")) (by rfl) T.isi boot_isinstance (pa_cons (pv 0) (pa_cons (pe_bltn (v := .ty "tuple") (by rfl) T.tup boot_tuple rfl) pa_nil)))
      (pe_and (pe_cmpR op_le (pe_callB call_len_seq (by rfl) T.len PySem.boot_len (pa_cons (pv 0) pa_nil)) (C8.pe_gc (by rfl) T.mdeep) (nomark _))
      (pe_one (pe_callB (cr_all rfl) (by rfl) T.all boot_all (pa_cons (pe_lc (own := [("word", 1)]) (g := gName 1) (tt := tYes) rfl scIsPath.nd (pi_tup (pv 0)) (blkOk_by (own := [("word", 1)]) (N := ["thing", "word"]) (sc := defScope sIsPath) (by decide +kernel))
        (fun _ _ _ _ _ => pg_name (i := 1) scIsPath.nd rfl (Or.inl rfl)) (fun _ _ _ _ _ => pts_nil) (fun _ _ _ _ _ => pe_df D1 hr (Nat.le_refl _) (by rfl) passN (pa_cons (pv 1) pa_nil))) pa_nil)))))), ?_⟩
  refine s_retD (d := .bool (isPath d)) ?_ fun v1 H1 e1 r1 => k v1 H1 e1 r1
  refine ed_is (ed_and (c := isPath d) (ed_isi (ed_var rfl rd) (kit_tup d)) fun hs => ?_) (by cases d <;> simp [isTup, isPath])
  cases rd with
  | @tup a xs ds hp rs' =>
    refine ed_is (ed_and (ed_I0 (i := (ds.length : Int)) (j := 4) (ed_lenQ (ed_var rfl (.tup hp rs')) (.inl rfl)) (ed_c (.int 4)) (.bl _)) fun hc =>
      ed_all (bs := ds.map isWord) (el_lcT (a := a) (xs := xs) (Evl.ev_var rfl) hp _ ?_ ?_ (fun x => rfl) fun i x H1 e1 hx => ?_)) ?_
    · rw [List.length_map, List.length_map, rs'.length]
    · have h4 : (ds.length : Int) ≤ 4 := of_decide_eq_true hc
      rw [rs'.length]
      omega
    · obtain ⟨d', hd', rx⟩ := rs'.get' hx
      refine Evl.ev_is (EvD.vb (b := isWord d') (ed_call (eds_cons (ed_var rfl (rx.ext (exN e1))) eds_nil) rfl rfl)) ?_
      simp [hd']
    · rw [List.all_map]
      rfl
  | _ => cases hs
theorem scIsNumber : FnScope ["thing", "most"] ["thing", "most"] (defScope sIsNumber) := ⟨rfl, rfl, rfl, by decide +kernel, rfl, by decide +kernel, by decide +kernel⟩
def fNumber : List PyData → PyData
  | [d, .int m] => .bool (isNumber m d)
  | _ => .none
def spNumber : Sp := fun vs H Q _ => ∃ v d m, vs = [v, .int m] ∧ R H v d ∧ ∀ H', Same H H' → Q (.bl (isNumber m d)) H'
theorem ok_isNumber {f : Addr} {fd : FuncData} (F : L2.Fun K "is_number" "is_number" sIsNumber f fd) (hm : mg "is_number" = some (.ref f)) (hb : Binds K fd ["thing", "most"] []) (T : Tx K mg) : Df P w K mg base "is_number" 1 ["thing", "most"] spNumber := by
  refine df_of F hm hb scIsNumber (fun vs H Q E h => by obtain ⟨_, _, _, rfl, _⟩ := h; rfl) (fun cdv A outer s H vs Q E hr h => ?_)
  obtain ⟨v, d, m, rfl, rd, k⟩ := h
  refine ⟨_, pss_one (ps_ret (pe_and (pe_callB (call_isD (T := "int")) (by rfl) T.isi boot_isinstance (pa_cons (pv 0) (pa_cons (pe_bltn (v := .ty "int") (by rfl) T.int boot_int rfl) pa_nil)))
      (pe_and (pe_not (pe_callB (call_isD (T := "bool")) (by rfl) T.isi boot_isinstance (pa_cons (pv 0) (pa_cons (pe_bltn (v := .ty "bool") (by rfl) T.bool (by decide +kernel) rfl) pa_nil))))
      (pe_one (pe_cmpR op_le (pe_callB call_abs (by rfl) T.abs (by decide +kernel) (pa_cons (pv 0) pa_nil)) (pv 1) (nomark _)))))), ?_⟩
  refine s_retD (d := .bool (isNumber m d)) ?_ fun v1 H1 e1 r1 => by cases r1; exact k H1 e1
  refine ed_is (ed_and (c := isNumber m d) (ed_isi (ed_var rfl rd) (kit_int d)) fun hs => ed_is (ed_and (c := isNumber m d) (ed_not (ed_isi (ed_var rfl rd) (kit_bool d))) fun hb => ?_) (by cases d <;> simp [isBool, isNumber])) (by cases d <;> simp [isInt, isNumber])
  cases rd with
  | int i =>
    refine ed_is (ed_I0 (i := (i.natAbs : Int)) (j := m) (fun H1 e Q q => ?_) (ed_var rfl (.int m)) (.bl _)) rfl
    refine ⟨_, rfl, i, rfl, ?_⟩
    have : (if i < 0 then -i else i) = (i.natAbs : Int) := by omega
    rw [this]
    exact q _ H1 (Ex.refl _) (.int _)
  | bl b => cases hb
  | _ => cases hs
end
end Lk
set_option Elab.async false
set_option linter.all false
set_option maxRecDepth 100000
set_option maxHeartbeats 4000000
namespace Lk
open PySem PySem.Spec PyProof.Rows L2 HotX L2H LamX
open Evl (Ev EvL EvA EvT Ex)
/-! ### == of data -/
mutual
theorem R.dp {K : PySem.W.Frag} {H : Hp} : ∀ {v : V} {d : PyData}, R H v d → d.canLay0 = true → Dp K H v d
  | _, _, .non, _ => .non
  | _, _, .bl b, _ => .bl b
  | _, _, .int i, _ => .int i
  | _, _, .str x _, _ => .str x
  | _, _, .lst h r, c => .lst (.inl (.inl h)) (Rs.dp r (by simpa only [PyData.canLay0] using c))
  | _, _, .tup h r, c => .tup (.inl (.inl h)) (Rs.dp r (by simpa only [PyData.canLay0] using c))
  | _, _, .dT _ _ _ _, c => by simp [PyData.canLay0] at c
  | _, _, .dK _ _ _ _, c => by simp [PyData.canLay0] at c
theorem Rs.dp {K : PySem.W.Frag} {H : Hp} : ∀ {vs : List V} {ds : List PyData}, Rs H vs ds → PyData.canLayAll0 ds = true → DpAll K H vs ds
  | _, _, .nil, _ => .nil
  | _, _, .cons r t, c => by
    simp only [PyData.canLayAll0, Bool.and_eq_true] at c
    exact .cons (R.dp r c.1) (Rs.dp t c.2)
end
section
variable {K : PySem.W.Frag} {σ : St} {H H' : Hp} {ta tb te : TE} {tr : TA} {d e : PyData} {ds : List PyData} {v : V} {b c : Bool} {i j : Int}
theorem ed_eq (h1 : EvD ta σ H d) (h2 : EvD tb σ H e) (s1 : SeqAt.shaped d = true) (s2 : SeqAt.shaped e = true) : EvD (tOp (rEqD K) ta tb) σ H (.bool (PyData.eqv d e)) := fun H1 a Q q =>
  h1 H1 a _ fun v1 H2 a2 r1 => h2 H2 (a.trans a2) _ fun v2 H3 a3 r2 =>
    ⟨d, e, (r1.ext (exN a3)).dp (SeqAt.canLay_of_shaped s1), r2.dp (SeqAt.canLay_of_shaped s2), s1, s2, q _ H3 (a2.trans a3) (.bl _)⟩
theorem ed_ne (h1 : EvD ta σ H d) (h2 : EvD tb σ H e) (s1 : SeqAt.shaped d = true) (s2 : SeqAt.shaped e = true) : EvD (tOp (rNeD K) ta tb) σ H (.bool (!PyData.eqv d e)) := fun H1 a Q q =>
  h1 H1 a _ fun v1 H2 a2 r1 => h2 H2 (a.trans a2) _ fun v2 H3 a3 r2 =>
    ⟨d, e, (r1.ext (exN a3)).dp (SeqAt.canLay_of_shaped s1), r2.dp (SeqAt.canLay_of_shaped s2), s1, s2, q _ H3 (a2.trans a3) (.bl _)⟩
/-! ### tests -/
theorem et_b {t : TE} (h : EvD t σ H (.bool b)) : EvT (tB t) σ H b := Evl.et_B h.vb
/-! ### comprehension over range(lo, hi) -/
theorem el_lcR2 {lo hi : Int} {jx : Nat} {vs : List Nat} (h : EvDs tr σ H [.int lo, .int hi]) (b1 : -100000 ≤ lo) (b2 : lo ≤ 100000) (b3 : -100000 ≤ hi) (b4 : hi ≤ 100000) (ws : List V) (hn : ws.length = (hi - lo).toNat) (hz : (hi - lo).toNat ≤ 40000)
    (hw : ∀ x, wipe ((wipe σ vs).set jx (some x)) vs = wipe σ vs) (he : ∀ (i : Nat) H1, Ex H H1 → i < (hi - lo).toNat → Ev te ((wipe σ vs).set jx (some (.int (lo + i)))) H1 (ws.getD i .non)) :
    EvL (tLc (iRng2 tr) (gName jx) tYes te vs) σ H ws := fun H0 e Q q => h H0 e _ fun xs H1 e1 rs => by
  obtain ⟨v, w, d', e', rfl, hd, r1, r2⟩ : ∃ v w d e, xs = [v, w] ∧ ([PyData.int lo, PyData.int hi] : List PyData) = [d, e] ∧ R H1 v d ∧ R H1 w e := by
    cases rs with
    | cons r t => cases t with
      | cons r' t' => cases t'; exact ⟨_, _, _, _, rfl, rfl, r, r'⟩
  cases hd
  cases r1
  cases r2
  refine ⟨lo, hi, rfl, ⟨by omega, by omega, by omega, by omega⟩, fun D hD => ?_⟩
  exact lc_w (walk_range (lo := lo) (n := (hi - lo).toNat)) (fun _ _ => trivial) ws hn hz hw (fun i x hi' hx => by rw [hx]; exact he i H1 (e.trans e1) hi') hD fun H2 e2 h2 => q D H2 (Evl.fresh_back e1 hD) (e1.trans e2) h2
end
/-! ### keys of a dict -/
theorem kD_inj {a b : Key} (h : kD a = kD b) : a = b := by
  cases a <;> cases b <;> simp [kD] at h <;> simp [h]
theorem kD_eqv (a b : Key) : PyData.eqv (kD a) (kD b) = decide (a = b) := by
  cases a with
  | inl i => cases b with
    | inl j => simp only [kD, PyData.eqv]; rw [key_ll]
    | inr y => simp [kD, PyData.eqv]
  | inr x => cases b with
    | inl j => simp [kD, PyData.eqv]
    | inr y => simp only [kD, PyData.eqv]; rw [key_rr]; by_cases h : x = y <;> simp [h]
theorem keys_eqv : ∀ a b : List Key, PyData.eqvAll (a.map kD) (b.map kD) = decide (a = b)
  | [], [] => by simp [PyData.eqvAll]
  | [], _ :: _ => by simp [PyData.eqvAll]
  | _ :: _, [] => by simp [PyData.eqvAll]
  | x :: a, y :: b => by
    simp only [List.map_cons, PyData.eqvAll, kD_eqv, keys_eqv a b, List.cons.injEq]
    by_cases h1 : x = y <;> by_cases h2 : a = b <;> simp [h1, h2]
theorem rs_keys {H : Hp} : ∀ k : List Key, (∀ x, Sum.inr x ∈ k → x.length ≤ 100000) → Rs H (k.map kV) (k.map kD)
  | [], _ => .nil
  | .inl i :: k, h => .cons (.int i) (rs_keys k fun x hx => h x (List.mem_cons_of_mem _ hx))
  | .inr x :: k, h => .cons (.str x (h x List.mem_cons_self)) (rs_keys k fun x hx => h x (List.mem_cons_of_mem _ hx))
theorem has_key {ds : List (PyData × PyData)} {kvs : List (List Key × V)} (h : ds.map Prod.fst = kvs.map (fun kv => PyData.tuple (kv.1.map kD))) (k : List Key) : (ds.any fun p => PyData.eqv p.1 (.tuple (k.map kD))) = (valV kvs k).isSome := by
  rw [← valV_any]
  have e1 : (ds.any fun p => PyData.eqv p.1 (.tuple (k.map kD))) = (ds.map Prod.fst).any fun x => PyData.eqv x (.tuple (k.map kD)) := by rw [List.any_map]; rfl
  rw [e1, h, List.any_map]
  congr 1
  funext kv
  show PyData.eqvAll (kv.1.map kD) (k.map kD) = decide (kv.1 = k)
  exact keys_eqv _ _
theorem val_at {κ : Type} [DecidableEq κ] : ∀ {kvs : List (κ × V)} {i : Nat} {k : κ} {v : V}, (kvs.map Prod.fst).Nodup → kvs[i]? = some (k, v) → valV kvs k = some v
  | [], _, _, _, _, h => by simp at h
  | p :: r, 0, k, v, _, h => by
    simp at h
    subst h
    exact valV_pos rfl
  | p :: r, i + 1, k, v, nd, h => by
    simp only [List.map_cons, List.nodup_cons] at nd
    have h' : r[i]? = some (k, v) := by simpa using h
    have hne : ¬ p.1 = k := fun e => nd.1 (List.mem_map.mpr ⟨(k, v), List.mem_of_getElem? h', e.symm⟩)
    rw [valV_neg hne]
    exact val_at nd.2 h'
theorem at_pair {ds : List (PyData × PyData)} {ks : List PyData} {H : Hp} {vs : List V} (h : ds.map Prod.fst = ks) (r : Rs H vs (ds.map Prod.snd)) {i : Nat} {x : PyData} {v : V} (hk : ks[i]? = some x) (hv : vs[i]? = some v) : ∃ p, ds[i]? = some p ∧ p.1 = x ∧ R H v p.2 := by
  obtain ⟨d, hd, rd⟩ := r.get' hv
  rw [← h, List.getElem?_map] at hk
  rw [List.getElem?_map] at hd
  cases e : ds[i]? with
  | none => rw [e] at hk; cases hk
  | some p =>
    rw [e] at hk hd
    cases hk
    cases hd
    exact ⟨p, rfl, rfl, rd⟩
end Lk
set_option Elab.async false
set_option linter.all false
set_option maxRecDepth 100000
set_option maxHeartbeats 4000000
namespace Lk
open PySem PySem.Spec PyProof.Rows L2 HotX L2H LamX
open Evl (Ev EvL EvA EvT Ex)
/-- an own class of refusals, as raise asks it -/
structure Xc (K : PySem.W.Frag) (mg : Str → Option Value) (x : Str) (C : Addr) : Prop where
  g : mg x = some (.ref C)
  x : PySem.W.excIn K C [.type "ValueError", .type "Exception", .type "BaseException", .type "object"] "ValueError.__new__" = true
  kp : PySem.W.keepIn K (.ref C) = true
  sb : PySem.W.subIn K (.ref C) (.type "BaseException") = some true
  ty : PySem.W.typeIn K (.ref C) = some (.type "type")
def spNeed (C : Addr) : Sp := fun vs H Q E => ∃ b, vs = [.bl b] ∧ (b = true → Q .non H) ∧ (b = false → E (.ref C) none H)
/-- a thing is let by, or refused -/
def spRef (C : Addr) (f : PyData → Bool) : Sp := fun vs H Q E => ∃ v d, vs = [v] ∧ R H v d ∧ (f d = true → ∀ H', Same H H' → Q .non H') ∧ (f d = false → ∀ H', Same H H' → E (.ref C) none H')
/-! ### states -/
def takeD (n : Nat) : PyData → PyData
  | .tuple ds => .tuple (ds.take n)
  | d => d
def lenD : PyData → Nat
  | .tuple ds => ds.length
  | _ => 0
def hasD (ds : List (PyData × PyData)) (k : PyData) : Bool := ds.any fun p => PyData.eqv p.1 k
def aboveD (ds : List (PyData × PyData)) (k : PyData) : Bool := (List.range (lenD k - 1)).any fun n => hasD ds (takeD (n + 1) k)
def okEntry (ds : List (PyData × PyData)) (p : PyData × PyData) : Bool := !(!isPath p.1 || (PyData.eqv p.1 (.tuple []) || !isNumber 1000000000 p.2)) && !aboveD ds p.1
def isState : PyData → Bool
  | .dict ds => ds.all (okEntry ds)
  | _ => false
theorem shaped_path {d : PyData} (h : isPath d = true) : SeqAt.shaped d = true := by
  cases d with
  | tuple ds =>
    simp only [isPath, Bool.and_eq_true] at h
    have h2 := h.2
    have c : ∀ l : List PyData, l.all isWord = true → PyData.canLayAll0 l = true ∧ PyData.depthAll l = 0 := by
      intro l
      induction l with
      | nil => intro _; exact ⟨rfl, rfl⟩
      | cons x r ih =>
        intro hl
        simp only [List.all_cons, Bool.and_eq_true] at hl
        obtain ⟨c1, c2⟩ := ih hl.2
        cases x with
        | str z =>
          have hz : PyData.strOk z = true := by
            have hw := hl.1
            simp only [isWord, Bool.and_eq_true, List.all_eq_true] at hw
            have ha := hw.2
            unfold PyData.strOk
            rw [Array.all_eq_true]
            intro j hj
            have hm := ha z.cps[j] (by simp)
            have hm := of_decide_eq_true hm
            have key : ∀ c ∈ smallS.cps.toList, (decide (c < 1114112)) = true := by decide +kernel
            exact key _ hm
          exact ⟨by simp only [PyData.canLayAll0, PyData.canLay0, hz, c1, Bool.and_self], by simp only [PyData.depthAll, PyData.depth, c2]; rfl⟩
        | _ => simp [isWord] at hl
    obtain ⟨c1, c2⟩ := c ds h2
    simp [SeqAt.shaped, PyData.canLay0, c1, PyData.depth, c2]
  | _ => simp [isPath] at h
theorem ed_num {σ : St} {H : Hp} {E : XK} {ta : TA} {d : PyData} {m : Int} (h : EvDs ta σ H [d, .int m]) : EvD (tCall spNumber [] E ta) σ H (.bool (isNumber m d)) := fun H1 e Q q =>
  h H1 e _ fun vs H2 e2 rs => by
    obtain ⟨v, w, d', e', rfl, hd, r1, r2⟩ := rs.two rfl
    cases hd
    cases r2
    exact ⟨v, d, m, rfl, r1, fun H3 s3 => q _ H3 (e2.trans s3) (.bl _)⟩
section
variable {P : Program} {w : World} {K : PySem.W.Frag} {mg : Str → Option Value} {base : Heap}
theorem scIsState : FnScope ["state", "path", "many"] ["state"] (defScope sIsState) := ⟨rfl, rfl, rfl, by decide +kernel, rfl, by decide +kernel, by decide +kernel⟩
theorem ok_isState {f : Addr} {fd : FuncData} (F : L2.Fun K "is_state" "is_state" sIsState f fd) (hm : mg "is_state" = some (.ref f)) (hb : Binds K fd ["state"] []) (T : Tx K mg) (D2 : Df P w K mg base "is_path" 2 ["thing"] (spF 1 (f1 isPath))) (D1 : Df P w K mg base "is_number" 1 ["thing", "most"] spNumber) :
    Df P w K mg base "is_state" 3 ["state"] (spF 1 (f1 isState)) := by
  refine df_of F hm hb scIsState (spF_len rfl) (fun cdv A outer s H vs Q E hr h => ?_)
  obtain ⟨ds, rs, hl, k⟩ := h
  obtain ⟨v, d, rfl, rfl, rd⟩ := rs.one hl
  have hu := hu_of hr
  refine ⟨_, PSs.nox (pss_cons (ps_if (pt_not (pt_val (pe_callB (call_isD (T := "dict")) (by rfl) T.isi boot_isinstance (pa_cons (pv 0) (pa_cons (pe_bltn (v := .ty "dict") (by rfl) T.dict (by decide +kernel) rfl) pa_nil))))) (pss_one (ps_ret pe_bl)) pss_nil)
    (pss_cons (ps_lock (ps_for PassesOwn.never rfl (pi_keys (pv 0)) (pg_name (i := 1) scIsState.nd rfl (Or.inr rfl))
      (pss_cons (ps_if (PW.pt (pw_or (pt_not (pt_val (pe_df D2 hr (Nat.le_refl _) (by rfl) passN (pa_cons (pv 1) pa_nil))))
          (pw_or (pt_cmpR (op_eqD hr.units) (pv 1) (pe_tup pa_nil) (nomark _)) (pw_or1 (pt_not (pt_val (pe_df D1 hr (by decide) (by rfl) passN (pa_cons (pe_dget hu (pv 0) (pv 1) (fun _ _ => rfl)) (pa_cons (C8.pe_gc (by rfl) T.mworth) pa_nil))))))))) (pss_one (ps_ret pe_bl)) pss_nil)
      (pss_one (ps_if (pt_val (pe_callB (cr_any rfl) (by rfl) T.any boot_any (pa_cons (pe_lc (own := [("many", 2)]) (g := gName 2) (tt := tYes) rfl scIsState.nd (pi_range2 (by rfl) T.rng (pa_cons pe_int (pa_cons (pe_callB call_len_seq (by rfl) T.len PySem.boot_len (pa_cons (pv 1) pa_nil)) pa_nil))) (blkOk_by (own := [("many", 2)]) (N := ["state", "path", "many"]) (sc := defScope sIsState) (by decide +kernel))
        (fun _ _ _ _ _ => pg_name (i := 2) scIsState.nd rfl (Or.inl rfl)) (fun _ _ _ _ _ => pts_nil) (fun _ _ _ _ _ => pe_cmp (pc_din hu (pe_slice (r := rSlA K) sl_tupA (pv 1) po_none (po_some (pv 2))) (pv 0)) rfl)) pa_nil))) (pss_one (ps_ret pe_bl)) pss_nil)))))
    (pss_one (ps_ret pe_bl)))), ?_⟩
  refine Evl.q_when (b := !isDict d) (Evl.et_not (et_b (ed_isi (ed_var rfl rd) (kit_dict d)))) (fun hb H1 e1 => ?_) (fun hb H1 e1 => ?_)
  · refine k _ H1 e1 ?_
    cases d <;> simp [isDict] at hb <;> exact .bl false
  · have rd1 := rd.ext (exN e1)
    cases rd1 with
    | @dT a kvs ds ha hn hk hv =>
      refine ⟨a, _, ha, trivial, fun od => ?_⟩
      have ra : R H1 (.ref a) (.dict ds) := .dT ha hn hk hv
      have vz : sizeOf (ds.map Prod.snd) < sizeOf (PyData.dict ds) := by
        have := size_snd ds
        simp only [PyData.dict.sizeOf_spec]
        omega
      have hvL : Rs (upd H1 a (.frz od (.dT kvs))) (kvs.map Prod.snd) (ds.map Prod.snd) := Rs.but ra hv vz
      generalize hHL : upd H1 a (.frz od (.dT kvs)) = HL at hvL
      have hL : HL a = some (.frz od (.dT kvs)) := by rw [← hHL]; exact upd_same
      have back : ∀ {H2 : Hp}, Ex HL H2 → Same H (upd H2 a (.dT kvs)) := fun {H2} e2 b o hb => by
        by_cases z : b = a
        · subst z
          rw [upd_same]
          exact (ha.symm.trans (e1 _ _ hb))
        · rw [upd_ne z]
          refine e2 _ _ ?_
          rw [← hHL, upd_ne z]
          exact e1 _ _ hb
      refine ⟨_, rfl, a, od, rfl, .inr ⟨kvs, hL, ?_⟩⟩
      refine for_it (walk_keysT (d := a) (o := od) (kvs := kvs)) (fun i σ' H' => (∃ o1 o2, σ' = [some (.ref a), o1, o2]) ∧ Ex HL H' ∧ ∀ (j : Nat) p, j < i → ds[j]? = some p → okEntry ds p = true) ⟨⟨_, _, rfl⟩, Ex.refl _, fun j p hj => absurd hj (Nat.not_lt_zero _)⟩ (fun i σ' H' _ h => h.2.1 _ _ hL) ?_ ?_
      · rintro i x σ' H2 H3 hi ⟨⟨o1, o2, rfl⟩, e2, hall⟩ ⟨rfl, kk, vv, q, hkv, rfl, hq⟩
        obtain ⟨p, hp, hp1, rp0⟩ := at_pair hk hvL (i := i) (x := .tuple (kk.map kD)) (v := vv) (by rw [List.getElem?_map, hkv]; rfl) (by rw [List.getElem?_map, hkv]; rfl)
        have rp : R H3 vv p.2 := rp0.ext (exN e2)
        have rq : R H3 (.ref q) p.1 := by
          rw [hp1]
          exact .tup hq (rs_keys kk fun x hx => hn.1 (kk, vv) (List.mem_of_getElem? hkv) x hx)
        have hva := val_at hn.2 hkv
        have aL : H3 a = some (.frz od (.dT kvs)) := e2 _ _ hL
        have ret : ∀ H4, Ex H3 H4 → okEntry ds p = false → H4 a = some (.frz od (.dT kvs)) ∧ Q (.bl false) (upd H4 a (.dT kvs)) := fun H4 e4 hf => by
          refine ⟨e4 _ _ aL, k _ _ (back (e2.trans e4)) ?_⟩
          have : isState (.dict ds) = false := by
            show ds.all (okEntry ds) = false
            rw [List.all_eq_false]
            exact ⟨p, List.mem_of_getElem? hp, by rw [hf]; exact Bool.false_ne_true⟩
          show R _ _ (.bool (isState (.dict ds)))
          rw [this]
          exact .bl false
        show tSeq _ _ _ [some (.ref a), some (.ref q), o2] H3
        refine Evl.q_when (b := !isPath p.1 || (PyData.eqv p.1 (.tuple []) || !isNumber 1000000000 p.2)) (Evl.et_or (Evl.et_not (et_b (ed_call (eds_cons (ed_var rfl rq) eds_nil) rfl rfl))) fun hpath =>
          Evl.et_or (Evl.et_test (ed_eq (ed_var rfl rq) (ed_tup eds_nil (by decide)) (shaped_path (by simpa using hpath)) (by decide +kernel)).vb) fun _ => Evl.et_not (et_b (ed_num (eds_cons ?g1 (eds_cons (ed_c (.int _)) eds_nil))))) (fun hb4 H4 e4 => ?_) (fun hb4 H4 e4 => ?_)
        case g1 =>
          intro H5 e5 Q5 q5
          refine ⟨_, rfl, _, rfl, a, vv, rfl, .inr ⟨kvs, kk, q, .inr ⟨od, e5 _ _ aL⟩, rfl, e5 _ _ hq, hva.symm⟩, q5 _ H5 (Ex.refl _) (rp.ext (exN e5))⟩
        · exact ret H4 e4 (by simp only [okEntry, hb4, Bool.not_true, Bool.false_and])
        · refine Evl.s_when (b := aboveD ds p.1) (et_b ?g2) (fun hb5 H5 e5 => ?_) (fun hb5 H5 e5 => ?_)
          case g2 =>
            have hlen : lenD p.1 = kk.length := by rw [hp1]; simp [lenD]
            have h4 : kk.length ≤ 4 := by
              have hpath : isPath p.1 = true := by
                cases hz : isPath p.1
                · rw [hz] at hb4; simp at hb4
                · rfl
              rw [hp1] at hpath
              simp only [isPath, Bool.and_eq_true, List.length_map] at hpath
              have := of_decide_eq_true hpath.1
              omega
            refine ed_is (ed_any (bs := (List.range (kk.length - 1)).map fun n => hasD ds (takeD (n + 1) p.1)) (el_lcR2 (lo := 1) (hi := (kk.length : Int)) (eds_cons (ed_c (.int 1)) (eds_cons (ed_lenQ (ds := kk.map kD) (ed_var rfl (rq.ext (exN e4))) (.inl hp1) |> (ed_is · (by rw [List.length_map]))) eds_nil)) (by omega) (by omega) (by omega) (by omega) _ (by simp) (by omega) (fun x => rfl) fun n H5 e5 hn5 => ?_)) ?_
            · have hlt : n < kk.length - 1 := by omega
              have e45 : Ex H3 H5 := e4.trans e5
              have hv5 : (((List.range (kk.length - 1)).map fun n => hasD ds (takeD (n + 1) p.1)).map V.bl).getD n .non = .bl (hasD ds (takeD (n + 1) p.1)) := by
                simp [hlt]
              rw [hv5]
              intro H6 e6 Q6 q6
              have e36 : Ex H3 H6 := e45.trans e6
              refine ⟨_, rfl, _, rfl, _, rfl, q, kk.map kV, rfl, .inl (.inl (e36 _ _ hq)), fun hwh => ?_, fun _ p6 hp6 => ?_⟩
              · exfalso
                have z := hwh.2
                have e7 : (1 : Int) + (n : Int) = ((n + 1 : Nat) : Int) := by omega
                rw [e7, HT.sIx_nat, List.length_map] at z
                omega
              · have ecut : cutV (kk.map kV) none (some (1 + (n : Int))) = (kk.take (n + 1)).map kV := by
                  have e7 : (1 : Int) + (n : Int) = ((n + 1 : Nat) : Int) := by omega
                  unfold cutV
                  rw [e7, HT.sIx_nat, HT.sIx_none, List.length_map, List.drop_zero, Nat.sub_zero, Nat.min_eq_left (by omega), List.map_take]
                refine ⟨_, rfl, a, _, rfl, .inr ⟨kvs, kk.take (n + 1), p6, .inr ⟨od, ?_⟩, rfl, by rw [ecut]; exact upd_same, rfl⟩, ?_⟩
                · rw [upd_ne (ne_of_none (e36 _ _ aL) hp6)]
                  exact e36 _ _ aL
                · have := q6 (upd H6 p6 (.tup (cutV (kk.map kV) none (some (1 + (n : Int)))))) (Ex.new hp6)
                  have e8 : hasD ds (takeD (n + 1) p.1) = (valV kvs (kk.take (n + 1))).isSome := by
                    rw [hp1, ← has_key hk]
                    simp only [takeD, hasD, List.map_take]
                  rw [← e8]
                  exact this
            · rw [List.any_map]
              unfold aboveD
              rw [hlen]
              rfl
          · exact ret H5 (e4.trans e5) (by simp only [okEntry, hb4, hb5, Bool.not_true, Bool.and_false])
          · refine ⟨⟨_, _, rfl⟩, (e2.trans e4).trans e5, fun j p' hj hp' => ?_⟩
            rcases Nat.lt_succ_iff_lt_or_eq.mp hj with hj | rfl
            · exact hall j p' hj hp'
            · rw [hp] at hp'
              cases hp'
              simp only [okEntry, hb4, hb5, Bool.not_false, Bool.and_self]
      · rintro σ' H2 ⟨⟨o1, o2, rfl⟩, e2, hall⟩
        refine ⟨e2 _ _ hL, k _ _ (back e2) ?_⟩
        have hlen : ds.length = kvs.length := by
          have := congrArg List.length hk
          simpa using this
        have : isState (.dict ds) = true := by
          show ds.all (okEntry ds) = true
          rw [List.all_eq_true]
          intro p hp
          obtain ⟨j, hj, e⟩ := List.getElem_of_mem hp
          exact hall j p (by omega) (by rw [← e]; exact List.getElem?_eq_getElem hj)
        show R _ _ (.bool (isState (.dict ds)))
        rw [this]
        exact .bl true
    | @dK a kvs ds ha hn hk hv =>
      refine ⟨a, _, ha, trivial, fun od => ?_⟩
      generalize hHL : upd H1 a (.frz od (.dK kvs)) = HL
      have hL : HL a = some (.frz od (.dK kvs)) := by rw [← hHL]; exact upd_same
      have back : ∀ {H2 : Hp}, Ex HL H2 → Same H (upd H2 a (.dK kvs)) := fun {H2} e2 b o hb => by
        by_cases z : b = a
        · subst z
          rw [upd_same]
          exact (ha.symm.trans (e1 _ _ hb))
        · rw [upd_ne z]
          refine e2 _ _ ?_
          rw [← hHL, upd_ne z]
          exact e1 _ _ hb
      refine ⟨_, rfl, a, od, rfl, .inl ⟨kvs, hL, ?_⟩⟩
      refine for_it (walk_keys (d := a) (o := od) (kvs := kvs)) (fun i σ' H' => i = 0 ∧ σ' = [some (.ref a), none, none] ∧ Ex HL H') ⟨rfl, rfl, Ex.refl _⟩ (fun i σ' H' _ h => h.2.2 _ _ hL) ?_ ?_
      · rintro i x σ' H2 H3 hi ⟨rfl, rfl, e2⟩ ⟨rfl, kk, vv, hkv, rfl⟩
        have rq : R H3 (kV kk) (kD kk) := by
          cases kk with
          | inl i => exact .int i
          | inr x => exact .str x (hn.1 (Sum.inr x, vv) (List.mem_of_getElem? hkv) x rfl)
        have np : isPath (kD kk) = false := by cases kk <;> rfl
        show tSeq _ _ _ [some (.ref a), some (kV kk), none] H3
        refine Evl.q_when (b := true) (Evl.et_is (Evl.et_or (a := true) (b := true) (Evl.et_is (Evl.et_not (et_b (ed_call (d := .bool false) (eds_cons (ed_var rfl rq) eds_nil) rfl (by show PyData.bool (isPath (kD kk)) = _; rw [np])))) rfl) (fun z => by cases z)) rfl) (fun _ H4 e4 => ?_) (fun z => by cases z)
        refine ⟨e4 _ _ (e2 _ _ hL), k _ _ (back (e2.trans e4)) ?_⟩
        have hd0 : ∃ p r, ds = p :: r ∧ p.1 = kD kk := by
          cases ds with
          | nil =>
            have := congrArg List.length hk
            simp at this
            rw [this] at hkv
            simp at hkv
          | cons p r =>
            refine ⟨p, r, rfl, ?_⟩
            have h0 : (kvs.map fun kv => kD kv.1)[0]? = some (kD kk) := by rw [List.getElem?_map, hkv]; rfl
            rw [← hk] at h0
            simpa using h0
        obtain ⟨p, r, rfl, hp⟩ := hd0
        have : isState (.dict (p :: r)) = false := by
          show ((p :: r).all (okEntry (p :: r))) = false
          have h0 : okEntry (p :: r) p = false := by
            unfold okEntry
            rw [hp, np]
            rfl
          rw [List.all_cons, h0, Bool.false_and]
        show R _ _ (.bool (isState (.dict (p :: r))))
        rw [this]
        exact .bl false
      · rintro σ' H2 ⟨hn0, rfl, e2⟩
        refine ⟨e2 _ _ hL, k _ _ (back e2) ?_⟩
        have hd0 : ds = [] := by
          have := congrArg List.length hk
          simp only [List.length_map] at this
          exact List.length_eq_zero_iff.mp (by omega)
        subst hd0
        exact .bl true
    | _ => simp [isDict] at hb
end
end Lk
set_option Elab.async false
set_option linter.all false
set_option maxRecDepth 100000
set_option maxHeartbeats 4000000
/-! Written data: displays, +, * -/
namespace Lk
open PySem PySem.Spec PyProof.Rows L2 HotX L2H LamX
open Evl (Ev EvL EvA EvT Ex EvU)
def flatD : V → PyData
  | .bl b => .bool b
  | .int i => .int i
  | .str x => .str x
  | _ => .none
def flatOk : V → Bool
  | .non => true
  | .bl _ => true
  | .int _ => true
  | .str x => decide (x.length ≤ 100000)
  | _ => false
theorem flat_r {H : Hp} : ∀ {v : V}, flatOk v = true → R H v (flatD v)
  | .non, _ => .non
  | .bl b, _ => .bl b
  | .int i, _ => .int i
  | .str x, h => .str x (of_decide_eq_true h)
theorem flat_rs {H : Hp} : ∀ {vs : List V}, vs.all flatOk = true → Rs H vs (vs.map flatD)
  | [], _ => .nil
  | v :: vs, h => by
    rw [List.all_cons, Bool.and_eq_true] at h
    exact .cons (flat_r h.1) (flat_rs h.2)
def keyOk : Key → Bool
  | .inl _ => true
  | .inr x => decide (x.length ≤ 100000)
section
variable {K : PySem.W.Frag} {σ : St} {H H' : Hp} {ta tb tk : TE} {tr : TA} {d e : PyData} {ds es : List PyData} {v : V} {trs : List (TE × TE)}
theorem ed_catL (h1 : EvD ta σ H (.list ds)) (h2 : EvD tb σ H (.list es)) (hl : ds.length + es.length ≤ 100000) : EvD (tOp rCat ta tb) σ H (.list (ds ++ es)) := fun H1 a Q q =>
  h1 H1 a _ fun v1 H2 a2 r1 => h2 H2 (a.trans a2) _ fun v2 H3 a3 r2 => by
    have r1' := r1.ext (exN a3)
    cases r1' with
    | @lst l xs _ hx rx => cases r2 with
      | @lst l' ys _ hy ry =>
        refine ⟨l, l', xs, ys, rfl, rfl, hx, hy, Evl.sz_of (by rw [rx.length, ry.length]; exact hl), fun p hp => q _ _ ((a2.trans a3).trans (Ex.new hp)) (.lst upd_same ((rx.append ry).ext (exN (Ex.new hp))))⟩
theorem rs_rep {H : Hp} {vs : List V} {ds : List PyData} (r : Rs H vs ds) : ∀ n : Nat, Rs H (List.replicate n vs).flatten (List.replicate n ds).flatten
  | 0 => .nil
  | n + 1 => by
    rw [List.replicate_succ, List.replicate_succ, List.flatten_cons, List.flatten_cons]
    exact r.append (rs_rep r n)
theorem len_rep {α : Type} (l : List α) : ∀ n : Nat, (List.replicate n l).flatten.length = l.length * n
  | 0 => by simp
  | n + 1 => by rw [List.replicate_succ, List.flatten_cons, List.length_append, len_rep l n, Nat.mul_succ]; omega
/-- [x] * n -/
theorem ed_repL {n : Nat} (h1 : EvD ta σ H (.list ds)) (hl : ds.length * n ≤ 1000) (hn : n ≤ 1000) : EvD (tOp rRep ta (tC (.int (n : Int)))) σ H (.list (List.replicate n ds).flatten) := fun H1 a Q q =>
  h1 H1 a _ fun v1 H2 a2 r1 => by
    cases r1 with
    | @lst l xs _ hx rx =>
      refine ⟨l, (n : Int), xs, rfl, rfl, hx, by omega, by omega, ?_, fun p hp => q _ _ (a2.trans (Ex.new hp)) (.lst upd_same ((rs_rep rx n).ext (exN (Ex.new hp))))⟩
      rw [Int.toNat_natCast, rx.length]
      exact Evl.sz_of (by omega)
/-- (x,) * n -/
theorem eu_repT {n : Nat} {xs : List V} (h1 : EvU ta σ H xs) (h0 : xs ≠ []) (hl : xs.length ≤ 1000) (h2 : 2 ≤ n) (hn : n ≤ 1000) : EvU (tOp (rRepT K) ta (tC (.int (n : Int)))) σ H (List.replicate n xs).flatten := fun H1 a Q q =>
  h1 H1 a _ fun p H2 hp a2 hx => ⟨p, (n : Int), xs, rfl, rfl, .inl (.inl hx), h0, by omega, by omega, hl, fun p' hp' => q p' _ (Evl.fresh_back a2 hp') (a2.trans (Ex.new hp')) (by rw [Int.toNat_natCast]; exact upd_same)⟩
/-! dicts -/
def EvPs (trs : List (TE × TE)) (σ : St) (H : Hp) (ps : List (List Key × V)) : Prop := ∀ H1, Ex H H1 → ∀ Q : List (V × V) → Hp → Prop, (∀ xs H2, Ex H1 H2 → TupKeys H2 xs ps → Q xs H2) → tPairs trs σ H1 Q
theorem tk_ext {H H' : Hp} (e : Ex H H') : ∀ {xs : List (V × V)} {ps : List (List Key × V)}, TupKeys H xs ps → TupKeys H' xs ps
  | _, _, .nil => .nil
  | _, _, .cons ⟨⟨a, h1, h2⟩, h3⟩ t => .cons ⟨⟨a, h1, e _ _ h2⟩, h3⟩ (tk_ext e t)
theorem eps_nil : EvPs [] σ H [] := fun H1 _ _ q => q [] H1 (Ex.refl _) .nil
theorem eps_cons {k : List Key} {ps : List (List Key × V)} (h : EvU tk σ H (k.map kV)) (hr : EvPs trs σ H ps) : EvPs ((tk, tC v) :: trs) σ H ((k, v) :: ps) := fun H1 a Q q =>
  h H1 a _ fun p H2 _ a2 hp => hr H2 (a.trans a2) _ fun xs H3 a3 t => q _ H3 (a2.trans a3) (.cons ⟨⟨p, rfl, a3 _ _ hp⟩, rfl⟩ t)
theorem merge_nd : ∀ (ps acc : List (List Key × V)), ((acc ++ ps).map Prod.fst).Nodup → mergeT acc ps = acc ++ ps
  | [], acc, _ => by rw [List.append_nil]; rfl
  | p :: ps, acc, nd => by
    have hn : valV acc p.1 = none := by
      cases e : valV acc p.1 with
      | none => rfl
      | some v =>
        exfalso
        have hm : p.1 ∈ acc.map Prod.fst := by
          have : (valV acc p.1).isSome = true := by rw [e]; rfl
          rw [← valV_any, List.any_eq_true] at this
          obtain ⟨q, hq, eq⟩ := this
          exact List.mem_map.mpr ⟨q, hq, of_decide_eq_true eq⟩
        rw [List.map_append, List.map_cons, List.nodup_append] at nd
        exact nd.2.2 _ hm _ List.mem_cons_self rfl
    show mergeT (putK acc p.1 p.2) ps = _
    rw [putK_new _ hn, merge_nd ps _ (by rw [List.append_assoc]; exact nd), List.append_assoc]
    rfl
theorem ed_dispT {ps : List (List Key × V)} (h : EvPs trs σ H ps) (nd : (ps.map Prod.fst).Nodup) (hl : ps.length ≤ 15) (hv : (ps.all fun p => flatOk p.2 && p.1.all keyOk) = true) :
    EvD (tDispT trs) σ H (.dict (ps.map fun p => (.tuple (p.1.map kD), flatD p.2))) := fun H1 a Q q p hp =>
  h _ (a.trans (Ex.new hp)) _ fun xs H2 e2 t => by
    have h2 : H2 p = some (.dT []) := e2 _ _ upd_same
    refine ⟨h2, ps, t, hl, ?_⟩
    have em : mergeT [] ps = ps := merge_nd ps [] nd
    rw [em]
    rw [List.all_eq_true] at hv
    have hx : Ex H1 (upd H2 p (.dT ps)) := fun b o hb => by
      have nb : b ≠ p := ne_of_none hb hp
      rw [upd_ne nb]
      refine e2 _ _ ?_
      rw [upd_ne nb]
      exact hb
    refine q _ _ hx (.dT upd_same ⟨fun kv hkv x hx => ?_, nd⟩ ?_ ?_)
    · have := hv kv hkv
      rw [Bool.and_eq_true, List.all_eq_true] at this
      exact of_decide_eq_true (this.2 _ hx)
    · rw [List.map_map]
      rfl
    · rw [List.map_map]
      have e1 : (ps.map (Prod.snd ∘ fun p => (PyData.tuple (p.1.map kD), flatD p.2))) = (ps.map Prod.snd).map flatD := by rw [List.map_map]; rfl
      rw [e1]
      refine flat_rs ?_
      rw [List.all_map, List.all_eq_true]
      intro y hy
      have := hv y hy
      rw [Bool.and_eq_true] at this
      exact this.1
/-- {k: v}, one key, a text -/
theorem ed_dispK {x : Str} (hx : x.length ≤ 100000) (hv : flatOk v = true) : EvD (tDisp [(tC (.str x), tC v)]) σ H (.dict [(.str x, flatD v)]) := fun H1 a Q q p hp => by
  refine ⟨upd_same, [(Sum.inr x, v)], rfl, by simp, ?_⟩
  rw [upd_upd]
  refine q _ _ (Ex.new hp) (.dK upd_same ⟨fun kv hkv y hy => ?_, ?_⟩ rfl (.cons (flat_r hv) .nil))
  · have e1 : kv = (Sum.inr x, v) := by simpa [mergeK, putK] using hkv
    rw [e1] at hy
    cases hy
    exact hx
  · simp [mergeK, putK]
end
end Lk
set_option Elab.async false
set_option linter.all false
set_option maxRecDepth 100000
set_option maxHeartbeats 4000000
namespace Lk
open PySem PySem.Spec PyProof.Rows L2 HotX L2H LamX
open Evl (Ev EvL EvA EvT Ex)
section
variable {K : PySem.W.Frag} {σ : St} {H H' : Hp} {ta tb te : TE} {tr : TA} {d e : PyData} {ds : List PyData} {v : V} {b c : Bool} {i j : Int} {D : Ends} {tz : TS} {E : XK} {C : Addr}
theorem q_need (h : EvD te σ H (.bool b)) (h1 : b = true → ∀ H1, Ex H H1 → tz D σ H1) (h2 : b = false → ∀ H1, Ex H H1 → E (.ref C) none H1) : tSeq (tDrop (tCall (spNeed C) [] E (tCons te tNil))) tz D σ H :=
  h.vb H (Ex.refl H) _ fun H1 e1 => ⟨b, rfl, fun z => h1 z H1 e1, fun z => h2 z H1 e1⟩
theorem s_need (h : EvD te σ H (.bool b)) (h1 : b = true → ∀ H1, Ex H H1 → D.nx σ H1) (h2 : b = false → ∀ H1, Ex H H1 → E (.ref C) none H1) : tDrop (tCall (spNeed C) [] E (tCons te tNil)) D σ H :=
  h.vb H (Ex.refl H) _ fun H1 e1 => ⟨b, rfl, fun z => h1 z H1 e1, fun z => h2 z H1 e1⟩
/-- x == y of two texts, of two ints -/
theorem ed_eqS {x y : Str} (h1 : EvD ta σ H (.str x)) (h2 : EvD tb σ H (.str y)) : EvD (tOp rEq ta tb) σ H (.bool (decide (x = y))) :=
  Ev.db (Evl.ev_is (Evl.ev_op h1.ts h2.ts (Evl.rv_eq rfl)) (by simp))
theorem ed_eqI (h1 : EvD ta σ H (.int i)) (h2 : EvD tb σ H (.int j)) : EvD (tOp rEq ta tb) σ H (.bool (decide (i = j))) :=
  Ev.db (Evl.ev_is (Evl.ev_op h1.ti h2.ti (Evl.rv_eq rfl)) (by simp))
/-- z in (a, b, ..), texts -/
theorem ed_inS {z : Str} {ws : List Str} (h1 : EvD ta σ H (.str z)) (h2 : Evl.EvU tb σ H (ws.map V.str)) : EvD (tOp (rIn K false) ta tb) σ H (.bool (decide (z ∈ ws))) :=
  Ev.db (Evl.ev_is (Evl.ev_inU h1.ts h2 rfl (by simp [flatV])) (by
    congr 1
    unfold inV
    rw [List.any_map]
    rw [Bool.eq_iff_iff, List.any_eq_true, decide_eq_true_iff]
    constructor
    · rintro ⟨y, hy, e⟩
      have e' : y = z := eq_of_beq (show (y == z) = true from e)
      rw [← e']
      exact hy
    · intro hz
      exact ⟨z, hz, show (z == z) = true from beq_self_eq_true z⟩))
end
section
variable {K : PySem.W.Frag} {σ : St} {H H' : Hp} {te : TE} {d : PyData} {D : Ends} {tz : TS} {E : XK} {C : Addr} {f : PyData → Bool}
theorem q_ref (h : EvD te σ H d) (h1 : f d = true → ∀ H1, Ex H H1 → tz D σ H1) (h2 : f d = false → ∀ H1, Ex H H1 → E (.ref C) none H1) : tSeq (tDrop (tCall (spRef C f) [] E (tCons te tNil))) tz D σ H :=
  h H (Ex.refl H) _ fun v H1 e1 r => ⟨v, d, rfl, r, fun z H2 s2 => h1 z H2 (e1.trans s2), fun z H2 s2 => h2 z H2 (e1.trans s2)⟩
theorem s_ref (h : EvD te σ H d) (h1 : f d = true → ∀ H1, Ex H H1 → D.nx σ H1) (h2 : f d = false → ∀ H1, Ex H H1 → E (.ref C) none H1) : tDrop (tCall (spRef C f) [] E (tCons te tNil)) D σ H :=
  h H (Ex.refl H) _ fun v H1 e1 r => ⟨v, d, rfl, r, fun z H2 s2 => h1 z H2 (e1.trans s2), fun z H2 s2 => h2 z H2 (e1.trans s2)⟩
end
theorem q_asgD {te : TE} {σ : St} {H : Hp} {d : PyData} {D : Ends} {tz : TS} {i : Nat} (h : EvD te σ H d) (k : ∀ v H1, Ex H H1 → R H1 v d → tz D (σ.set i (some v)) H1) : tSeq (tAsg te (gName i)) tz D σ H := h H (Ex.refl H) _ k
section
variable {P : Program} {w : World} {K : PySem.W.Frag} {mg : Str → Option Value} {base : Heap}
theorem scNeedState : FnScope ["state"] ["state"] (defScope sNeedState) := ⟨rfl, rfl, rfl, by decide +kernel, rfl, by decide +kernel, by decide +kernel⟩
theorem ok_needState {f C : Addr} {fd : FuncData} (F : L2.Fun K "need_state" "need_state" sNeedState f fd) (hm : mg "need_state" = some (.ref f)) (hb : Binds K fd ["state"] []) (X : Xc K mg "BadState" C) (D3 : Df P w K mg base "is_state" 3 ["state"] (spF 1 (f1 isState))) :
    Df P w K mg base "need_state" 4 ["state"] (spRef C isState) := by
  refine df_of F hm hb scNeedState (fun vs H Q E h => by obtain ⟨_, _, rfl, _⟩ := h; rfl) (fun cdv A outer s H vs Q E hr h => ?_)
  obtain ⟨v, d, rfl, rd, k1, k2⟩ := h
  refine ⟨_, pss_one (ps_if (pt_not (pt_val (pe_df D3 hr (Nat.le_refl _) (by rfl) passN (pa_cons (pv 0) pa_nil)))) (pss_one (L2N.ps_raise rfl (L2N.takes_of rfl rfl rfl rfl) (L2N.pmk_own PySem.F.excBase_ValueError X.x X.g X.kp (raises_own X.sb X.ty) (by rfl)))) pss_nil), ?_⟩
  refine Evl.s_if (b := !isState d) (Evl.et_not (et_b (ed_call (eds_cons (ed_var rfl rd) eds_nil) rfl rfl))) (fun hb H1 e1 => ?_) (fun hb H1 e1 => ?_)
  · exact k2 (by simpa using hb) H1 e1
  · exact k1 (by simpa using hb) H1 e1
end
end Lk
set_option Elab.async false
set_option linter.all false
set_option maxRecDepth 100000
set_option maxHeartbeats 4000000
namespace Lk
open PySem PySem.Spec PyProof.Rows L2 HotX L2H LamX
open Evl (Ev EvL EvA EvT Ex EvU)
abbrev sCell : Stmt := topS 41
abbrev sDrawn : Stmt := topS 42
/-- draws: some number that is not negative -/
def bigP : Int := 340282366920938463463374607431768211507
def spDrawn : Sp := fun vs H Q _ => ∃ c k : Int, vs = [.int c, .int k] ∧ 0 ≤ k ∧ k ≤ 100000 ∧ ∀ n H', 0 ≤ n → n < bigP → Same H H' → Q (.int n) H'
def spCell (K : PySem.W.Frag) : Sp := fun vs H Q _ => ∃ (a : Addr) (ns : List Int) (k : Int), vs = [.ref a, .int k] ∧ SqL K H a (ns.map V.int) ∧ ns.length ≤ 1000 ∧ 0 ≤ k ∧ k ≤ 100000 ∧ ∀ c H', Same H H' → Q (.int c) H'
theorem ev_I {K : PySem.W.Frag} {σ : St} {H : Hp} {ta tb : TE} {C : Int → Int → Prop} {g : Int → Int → V} {i j : Int} (h1 : Ev ta σ H (.int i)) (h2 : Ev tb σ H (.int j)) (hc : C i j) : Ev (tOp (rI C g) ta tb) σ H (g i j) := Evl.ev_op h1 h2 (Evl.rv_I hc)
theorem ev_I0 {σ : St} {H : Hp} {ta tb : TE} {g : Int → Int → V} {i j : Int} (h1 : Ev ta σ H (.int i)) (h2 : Ev tb σ H (.int j)) : Ev (tOp (rI0 g) ta tb) σ H (g i j) := Evl.ev_op h1 h2 Evl.rv_I0
theorem wide_bd {a b : Int} (ha : 0 ≤ a) (hb : 0 ≤ b) (h1 : a < 2 ^ 200) (h2 : b < 2 ^ 200) : CMulW a b :=
  wide_mul (a := 200) (b := 200) (by omega) (by omega) (by decide) (by decide) (by decide)
section
variable {P : Program} {w : World} {K : PySem.W.Frag} {mg : Str → Option Value} {base : Heap}
theorem scDrawn : FnScope ["cell", "k", "more"] ["cell", "k"] (defScope sDrawn) := ⟨rfl, rfl, rfl, by decide +kernel, rfl, by decide +kernel, by decide +kernel⟩
theorem ok_drawn {f : Addr} {fd : FuncData} (F : L2.Fun K "_law_drawn" "_law_drawn" sDrawn f fd) (hm : mg "_law_drawn" = some (.ref f)) (hb : Binds K fd ["cell", "k"] []) : Df P w K mg base "_law_drawn" 1 ["cell", "k"] spDrawn := by
  refine df_of F hm hb scDrawn (fun vs H Q E h => by obtain ⟨_, _, rfl, _⟩ := h; rfl) (fun cdv A outer s H vs Q E hr h => ?_)
  obtain ⟨c, k, rfl, h0, h1, kk⟩ := h
  refine ⟨_, PSs.nox (pss_cons (ps_set (i := 2) scDrawn.nd rfl (Or.inl rfl) (pe_op op_mod (pe_op op_add (pe_op op_mul (pv 0) pe_int) (pe_op op_mul (pe_op op_add (pv 1) pe_int) pe_int)) pe_int))
    (pss_cons (ps_set (i := 2) scDrawn.nd rfl (Or.inl rfl) (pe_op op_mod (pe_op op_mulW (pv 2) (pv 2)) pe_int))
    (pss_cons (ps_set (i := 2) scDrawn.nd rfl (Or.inl rfl) (pe_op op_mulW (pe_op op_mulW (pe_op op_add (pe_op op_mod (pv 2) pe_int) pe_int) (pe_op op_add (pe_op op_fdivW (pv 2) pe_int) pe_int)) (pv 2)))
    (pss_one (ps_ret (pe_op op_mod (pv 2) pe_int)))))), ?_⟩
  refine Evl.q_asg (ev_I (K := K) (ev_I0 (ev_I (K := K) (Evl.ev_var rfl) Evl.ev_c (.inr (by decide))) (ev_I (K := K) (ev_I0 (Evl.ev_var rfl) Evl.ev_c) Evl.ev_c (.inr (by decide)))) Evl.ev_c (by decide)) fun H1 e1 => ?_
  generalize hm1 : (c * 6364136223846793005 + (k + 1) * 1442695040888963407) % 340282366920938463463374607431768211507 = m1
  have a1 : 0 ≤ m1 := by rw [← hm1]; exact Int.emod_nonneg _ (by decide)
  have b1 : m1 < 340282366920938463463374607431768211507 := by rw [← hm1]; exact Int.emod_lt_of_pos _ (by decide)
  refine Evl.q_asg (ev_I (K := K) (ev_I (K := K) (Evl.ev_var rfl) (Evl.ev_var rfl) (wide_bd a1 a1 (by omega) (by omega))) Evl.ev_c (by decide)) fun H2 e2 => ?_
  generalize hm2 : m1 * m1 % 340282366920938463463374607431768211297 = m2
  have a2 : 0 ≤ m2 := by rw [← hm2]; exact Int.emod_nonneg _ (by decide)
  have b2 : m2 < 340282366920938463463374607431768211297 := by rw [← hm2]; exact Int.emod_lt_of_pos _ (by decide)
  have a3 : 0 ≤ m2 % 18446744073709551557 := Int.emod_nonneg _ (by decide)
  have b3 : m2 % 18446744073709551557 < 18446744073709551557 := Int.emod_lt_of_pos _ (by decide)
  have a4 : 0 ≤ m2 / 18446744073709551557 := Int.ediv_nonneg a2 (by decide)
  have b4 : m2 / 18446744073709551557 < 2 ^ 66 := by
    refine Int.ediv_lt_of_lt_mul (by decide) ?_
    omega
  have a5 : 0 ≤ (m2 % 18446744073709551557 + 1) * (m2 / 18446744073709551557 + 1) := Int.mul_nonneg (by omega) (by omega)
  have b5 : (m2 % 18446744073709551557 + 1) * (m2 / 18446744073709551557 + 1) < 2 ^ 200 := by
    have h := wide_lt (i := m2 % 18446744073709551557 + 1) (j := m2 / 18446744073709551557 + 1) (a := 70) (b := 70) (by omega) (by omega)
    have h' : (2 : Nat) ^ (70 + 70) ≤ 2 ^ 200 := Nat.pow_le_pow_right (by decide) (by decide)
    omega
  refine Evl.q_asg (ev_I (K := K) (ev_I (K := K) (ev_I0 (ev_I (K := K) (Evl.ev_var rfl) Evl.ev_c (by decide)) Evl.ev_c) (ev_I0 (ev_I (K := K) (Evl.ev_var rfl) Evl.ev_c (wide_div (b := 65) (by decide) (by decide) (by decide) (by decide))) Evl.ev_c) (wide_bd (by omega) (by omega) (by omega) (by omega))) (Evl.ev_var rfl) (wide_bd a5 a2 b5 (by omega))) fun H3 e3 => ?_
  refine Evl.s_ret (ev_I (K := K) (Evl.ev_var rfl) Evl.ev_c (by decide)) fun H4 e4 => kk _ H4 (Int.emod_nonneg _ (by decide)) (Int.emod_lt_of_pos _ (by decide)) (((e1.trans e2).trans e3).trans e4)
theorem scCell : FnScope ["script", "k"] ["script", "k"] (defScope sCell) := ⟨rfl, rfl, rfl, by decide +kernel, rfl, by decide +kernel, by decide +kernel⟩
theorem shaped_ints : ∀ ns : List Int, PyData.canLayAll0 (ns.map PyData.int) = true ∧ PyData.depthAll (ns.map PyData.int) = 0
  | [] => ⟨rfl, rfl⟩
  | n :: ns => by
    obtain ⟨h1, h2⟩ := shaped_ints ns
    exact ⟨by simp only [List.map_cons, PyData.canLayAll0, PyData.canLay0, h1, Bool.and_self], by simp only [List.map_cons, PyData.depthAll, PyData.depth, h2]; rfl⟩
theorem dp_ints {H : Hp} : ∀ ns : List Int, DpAll K H (ns.map V.int) (ns.map PyData.int)
  | [] => .nil
  | n :: ns => .cons (.int n) (dp_ints ns)
theorem ok_cell {f : Addr} {fd : FuncData} (F : L2.Fun K "_law_cell" "_law_cell" sCell f fd) (hm : mg "_law_cell" = some (.ref f)) (hb : Binds K fd ["script", "k"] []) (T : Tx K mg) : Df P w K mg base "_law_cell" 1 ["script", "k"] (spCell K) := by
  refine df_of F hm hb scCell (fun vs H Q E h => by obtain ⟨_, _, _, rfl, _⟩ := h; rfl) (fun cdv A outer s H vs Q E hr h => ?_)
  obtain ⟨a, ns, k, rfl, hS, hl, h0, h1, kk⟩ := h
  refine ⟨_, PSs.nox (pss_cons (ps_if (pt_cmpR (op_eqD hr.units) (pv 0) (pe_lst pa_nil) (nomark _)) (pss_one (ps_ret (pe_op op_mul (pv 1) pe_int))) pss_nil)
    (pss_one (ps_ret (pe_op op_add (pe_ix ix_list (pv 0) (pe_op op_mod (pv 1) (pe_callB call_len_seq (by rfl) T.len PySem.boot_len (pa_cons (pv 0) pa_nil))) (fun _ _ => rfl)) (pe_op op_mul (pe_op op_fdiv (pv 1) (pe_callB call_len_seq (by rfl) T.len PySem.boot_len (pa_cons (pv 0) pa_nil))) pe_int))))), ?_⟩
  refine Evl.q_when (b := ns.isEmpty) (Evl.et_test fun H1 e1 Q1 q1 => ?_) (fun hb H1 e1 => ?_) (fun hb H1 e1 => ?_)
  · refine ⟨_, rfl, by decide, fun p hp => ⟨.list (ns.map PyData.int), .list [], .lst (Evl.ex_l (e1.trans (Ex.new hp)) hS) (dp_ints ns), .lst (.inl (.inl upd_same)) .nil, ?_, by decide +kernel, ?_⟩⟩
    · obtain ⟨z1, z2⟩ := shaped_ints ns
      simp [SeqAt.shaped, PyData.canLay0, PyData.depth, z1, z2]
    · have e2 : PyData.eqv (.list (ns.map PyData.int)) (.list []) = ns.isEmpty := by cases ns <;> simp [PyData.eqv, PyData.eqvAll]
      rw [e2]
      exact q1 _ (Ex.new hp)
  · exact Evl.s_ret (ev_I (K := K) (Evl.ev_var rfl) Evl.ev_c (.inr (by decide))) fun H2 e2 => kk _ H2 (e1.trans e2)
  · have hn : 0 < ns.length := by
      cases ns with
      | nil => cases hb
      | cons _ _ => simp
    have hS1 : SqL K H1 a (ns.map V.int) := Evl.ex_l e1 hS
    have lenE : ∀ {H2 : Hp}, SqL K H2 a (ns.map V.int) → Ev (tCB (Evl.rLenS K) (tCons (tVar 0) tNil)) [some (V.ref a), some (V.int k)] H2 (.int (ns.length : Int)) := fun {H2} h2 => Evl.ev_is (Evl.ev_len (Evl.ev_var rfl) h2) (by rw [List.length_map])
    obtain ⟨j, hj⟩ : ∃ j : Nat, k % (ns.length : Int) = (j : Int) := ⟨(k % (ns.length : Int)).toNat, by have := Int.emod_nonneg k (b := (ns.length : Int)) (by omega); omega⟩
    have hjl : j < ns.length := by have := Int.emod_lt_of_pos k (b := (ns.length : Int)) (by omega); omega
    refine Evl.s_ret (v := .int (ns[j] + k / (ns.length : Int) * 104729)) (ev_I0 (i := ns[j]) (Evl.ev_op (Evl.ev_var rfl) (Evl.ev_is (ev_I (K := K) (Evl.ev_var rfl) (lenE hS1) (by omega)) (by rw [hj])) (Evl.rv_ixL hS1 (atI_nat (by simp [hjl])))) (ev_I (K := K) (ev_I (K := K) (Evl.ev_var rfl) (lenE hS1) ⟨by omega, by omega⟩) Evl.ev_c (.inr (by decide)))) fun H2 e2 => kk _ H2 (e1.trans e2)
end
end Lk
set_option Elab.async false
set_option linter.all false
set_option maxRecDepth 100000
set_option maxHeartbeats 4000000
namespace Lk
open PySem PySem.Spec PyProof.Rows L2 HotX L2H LamX
open Evl (Ev EvL EvA EvT Ex EvU)
abbrev sNeedT : Stmt := topS 24
abbrev sDeep : Stmt := topS 25
abbrev sNeedTerm : Stmt := topS 26
/-- a tuple of the written part -/
def KTup (K : PySem.W.Frag) (a : Addr) (xs : List V) : Prop := ∃ (o : Obj) (its : Array Value) (n : Nat), K.lookup a = some o ∧ o.cls = .type "tuple" ∧ o.data = .seq its n ∧ its.size ≤ sizeLine ∧ Vals xs its.toList
def readW : List Str := ["at", "there", "sum", "many"]
def twoW : List Str := ["plus", "less", "times", "same", "below"]
structure Tt (K : PySem.W.Frag) (mg : Str → Option Value) (aR aT : Addr) : Prop where
  mnum : ∃ u, mg "MOST_NUMBER" = some u ∧ RelV (.int 1000000000) u
  mwith : ∃ u, mg "MOST_WITHIN" = some u ∧ RelV (.int 8) u
  gR : mg "READING" = some (.ref aR)
  kR : KTup K aR (readW.map V.str)
  gT : mg "TWO" = some (.ref aT)
  kT : KTup K aT (twoW.map V.str)
section
variable {K : PySem.W.Frag} {σ : St} {H H' : Hp} {ta tb te : TE} {tr : TA} {d e : PyData} {ds : List PyData} {v : V} {b c : Bool} {i j : Int} {D : Ends} {tz : TS} {E : XK} {C : Addr}
theorem in_any {z : Str} {ws : List Str} : inV (.str z) (ws.map V.str) = decide (z ∈ ws) := by
  unfold inV
  rw [List.any_map]
  rw [Bool.eq_iff_iff, List.any_eq_true, decide_eq_true_iff]
  constructor
  · rintro ⟨y, hy, e⟩
    have e' : y = z := eq_of_beq (show (y == z) = true from e)
    rw [← e']
    exact hy
  · intro hz
    exact ⟨z, hz, show (z == z) = true from beq_self_eq_true z⟩
/-- z in a tuple of texts that the module holds -/
theorem ed_inK {a : Addr} {z : Str} {ws : List Str} (h1 : EvD ta σ H (.str z)) (hk : KTup K a (ws.map V.str)) : EvD (tOp (rIn K false) ta (tC (.ref a))) σ H (.bool (decide (z ∈ ws))) := fun H1 e Q q =>
  h1.ts H1 e _ fun H2 e2 => ⟨a, _, rfl, .inr (.inr hk), rfl, by simp [flatV], by
    have hh : (if false = true then !inV (.str z) (ws.map V.str) else inV (.str z) (ws.map V.str)) = decide (z ∈ ws) := in_any
    rw [hh]
    exact q _ H2 e2 (.bl _)⟩
/-- for x in t[1:] -/
theorem s_forTail {x0 : PyData} {r : List PyData} {jx : Nat} {tu : TS} (h : EvD ta σ H (.tuple (x0 :: r))) (hr : r ≠ []) (In : Nat → St → Hp → Prop) (h0 : ∀ H1, Ex H H1 → In 0 σ H1)
    (hs : ∀ H1 (n : Nat) x d σ' H', Ex H H1 → r[n]? = some d → R H1 x d → ExtN H1 H' → In n σ' H' → tu { D with nx := fun σ2 H2 => In (n + 1) σ2 H2 ∧ ExtN H1 H2, ct := fun σ2 H2 => In (n + 1) σ2 H2 ∧ ExtN H1 H2, bk := D.nx } (σ'.set jx (some x)) H')
    (hd : ∀ σ' H', In r.length σ' H' → D.nx σ' H') : tFor (iTup K (tSl (rSlA K) ta (tPart (tC (.int 1))) tNoPart)) (gName jx) tu D σ H :=
  h H (Ex.refl H) _ fun v H1 e1 rv => by
    cases rv with
    | @tup p xs _ hp rs =>
      cases rs with
      | @cons y ys _ _ r1 rs1 =>
        have hl : ys.length = r.length := rs1.length
        have hpos : 0 < r.length := List.length_pos_iff.mpr hr
        refine ⟨1, rfl, p, y :: ys, rfl, .inl (.inl hp), fun hw => ?_, fun _ q hq => ?_⟩
        · exfalso
          have z := hw.1
          have e7 : (1 : Int) = ((1 : Nat) : Int) := rfl
          rw [e7, HT.sIx_nat, List.length_cons] at z
          omega
        · have ecut : cutV (y :: ys) (some 1) none = ys := by
            have e7 : (1 : Int) = ((1 : Nat) : Int) := rfl
            unfold cutV
            rw [e7, HT.sIx_nat, HT.sIx_none, List.length_cons, Nat.min_eq_left (by omega)]
            simp
          rw [ecut]
          have hx := Ex.new (o := .tup ys) hq
          refine ⟨q, rfl, ⟨ys, .inl (.inl upd_same)⟩, for_tup (K := K) (a := q) (xs := ys) (fun n σ' H' => In n σ' H' ∧ ExtN (upd H1 q (.tup ys)) H') ⟨h0 _ (e1.trans hx), ExtN.refl _⟩ (fun n σ' H' _ hh => .inl (.inl (hh.2 _ _ upd_same (fun _ z => nomatch z)))) (fun n x σ' H' hxx hh => ?_) (fun σ' H' hh => hd σ' H' (by rw [← hl]; exact hh.1))⟩
          obtain ⟨d, hd', rx⟩ := rs1.get' hxx
          exact hs _ n x d σ' H' (e1.trans hx) hd' (rx.ext (exN hx)) hh.2 hh.1
end
def deepOk : Nat → PyData → Bool
  | n + 1, .tuple (.str z :: x :: r) =>
    if z = "num" then decide (((r.length + 2 : Nat) : Int) = 2) && isNumber 1000000000 x
    else if z ∈ readW then decide (((r.length + 2 : Nat) : Int) = 2) && isPath x
    else if z = "look" then decide (((r.length + 2 : Nat) : Int) = 2) && isWord x
    else ((decide (z ∈ twoW) && decide (((r.length + 2 : Nat) : Int) = 3)) || (decide (z = "when") && decide (((r.length + 2 : Nat) : Int) = 4))) && (x :: r).all (deepOk n)
  | _, _ => false
def headT : PyData → Bool
  | .tuple (.str _ :: _ :: _) => true
  | _ => false
def spDeep (C : Addr) (n : Nat) : Sp := fun vs H Q E => ∃ v d, vs = [v, .int (8 - (n : Int))] ∧ R H v d ∧ (deepOk n d = true → ∀ H', Same H H' → Q .non H') ∧ (deepOk n d = false → ∀ H', Same H H' → E (.ref C) none H')
section
variable {P : Program} {w : World} {K : PySem.W.Frag} {mg : Str → Option Value} {base : Heap}
theorem scNeedT : FnScope ["good"] ["good"] (defScope sNeedT) := ⟨rfl, rfl, rfl, by decide +kernel, rfl, by decide +kernel, by decide +kernel⟩
/-- a def that stands under another name too -/
theorem df_as {x y qual : Str} {st : Stmt} {f : Addr} {fd : FuncData} {N ps : List Str} {k : Nat} {sp : Sp} (F : L2.Fun K x qual st f fd) (hm : mg y = some (.ref f)) (hb : Binds K fd ps [])
    (S : FnScope N ps (defScope st)) (len : ∀ vs H Q E, sp vs H Q E → vs.length = ps.length)
    (hbody : ∀ (cdv : Value) (A : Around) (outer : List Env) (s : Shared) (H : Hp) (vs : List V) (Q : VK) (E : XK), Room k (A.deeper (envOfC qual (defScope st) s.heap.objs.size f cdv)) → sp vs H Q E →
      ∃ t, PSs (cxOf (L2N.CX P w) P w K mg base N qual (defScope st) f cdv A outer s H E) (defBody st) t ∧ t { nx := fun _ H' => Q .non H', rt := Q } (start N vs) H) : Df P w K mg base y (k + 1) ps sp :=
  ⟨f, fd, hm, F.kp, hb, okN F S len hbody⟩
theorem ok_needT {f C : Addr} {fd : FuncData} (F : L2.Fun K "need" "need" sNeedT f fd) (hm : mg "need" = some (.ref f)) (hb : Binds K fd ["good"] []) (X : Xc K mg "BadLook" C) : Df P w K mg base "need" 1 ["good"] (spNeed C) := by
  refine df_as F hm hb scNeedT (fun vs H Q E h => by obtain ⟨_, rfl, _⟩ := h; rfl) (fun cdv A outer s H vs Q E hr h => ?_)
  obtain ⟨b, rfl, k1, k2⟩ := h
  refine ⟨_, pss_one (ps_if (pt_not (pt_val (pv 0))) (pss_one (L2N.ps_raise rfl (L2N.takes_of rfl rfl rfl rfl) (L2N.pmk_own PySem.F.excBase_ValueError X.x X.g X.kp (raises_own X.sb X.ty) (by rfl)))) pss_nil), ?_⟩
  refine ⟨_, rfl, b, rfl, ?_⟩
  cases b with
  | true => exact iteF (k1 rfl)
  | false => exact iteT (k2 rfl)
theorem scDeep : FnScope ["term", "deep", "word", "one"] ["term", "deep"] (defScope sDeep) := ⟨rfl, rfl, rfl, by decide +kernel, rfl, by decide +kernel, by decide +kernel⟩
/-- the first question of need_deep -/
theorem ed_headT {σ : St} {H : Hp} {v : V} {d : PyData} {n : Nat} (h0 : σ[0]? = some (some v)) (h1 : σ[1]? = some (some (.int (8 - (n : Int))))) (rd : R H v d) :
    EvD (tAndV (tCB (rIsD "tuple") (tCons (tVar 0) (tCons (tC (.ty "tuple")) tNil))) (tAndV (tOp (rI0 fun i j => V.bl (decide (j < i))) (tCB (Evl.rLenS K) (tCons (tVar 0) tNil)) (tC (.int 1))) (tAndV (tCB (rIsD "str") (tCons (tOp (rIxT K) (tVar 0) (tC (.int 0))) (tCons (tC (.ty "str")) tNil))) (tOp (rI0 fun i j => V.bl (decide (i < j))) (tVar 1) (tC (.int 8)))))) σ H (.bool (headT d && decide (0 < n))) := by
  refine ed_is (ed_and (c := headT d && decide (0 < n)) (ed_isi (ed_var h0 rd) (kit_tup d)) fun hs => ?_) (by cases d <;> simp [isTup, headT])
  cases rd with
  | @tup a xs ds hp rs' =>
    have rt : R H (.ref a) (.tuple ds) := .tup hp rs'
    refine ed_is (ed_and (c := headT (.tuple ds) && decide (0 < n)) (ed_I0 (i := (ds.length : Int)) (j := 1) (ed_lenQ (ed_var h0 rt) (.inl rfl)) (ed_c (.int 1)) (.bl _)) fun hlen => ?_) ?_
    · have hl : 1 < ds.length := by
        have := of_decide_eq_true hlen
        omega
      match ds, hl, rt with
      | x :: p :: r, _, rt =>
        refine ed_is (ed_and (c := headT (.tuple (x :: p :: r)) && decide (0 < n)) (ed_isi (ed_ixT (k := 0) (ed_var h0 rt) (ed_c (.int 0)) rfl) (kit_str x)) fun hstr => ?_) (by cases x <;> simp [isStr, headT])
        cases x with
        | str z =>
          refine ed_is (ed_I0 (i := 8 - (n : Int)) (j := 8) (ed_var h1 (.int _)) (ed_c (.int 8)) (.bl _)) ?_
          show PyData.bool _ = .bool (true && decide (0 < n))
          rw [Bool.true_and]
          congr 1
          rw [decide_eq_decide]
          omega
        | _ => cases hstr
    · match ds with
      | [] => rfl
      | [x] => cases x <;> rfl
      | _ :: _ :: _ =>
        show PyData.bool (decide ((1 : Int) < ((_ + 1 + 1 : Nat) : Int)) && _) = _
        rw [decide_eq_true (by omega), Bool.true_and]
  | _ => cases hs
theorem deep_head {n : Nat} {d : PyData} (h : (headT d && decide (0 < n)) = false) : deepOk n d = false := by
  cases n with
  | zero => rfl
  | succ n =>
    have h' : headT d = false := by simpa using h
    cases d with
    | tuple ds =>
      match ds, h' with
      | [], _ => rfl
      | [x], _ => cases x <;> rfl
      | x :: _ :: _, h' => cases x <;> first | rfl | cases h'
    | _ => rfl
theorem ok_deep0 {f C aR aT : Addr} {fd : FuncData} (F : L2.Fun K "need_deep" "need_deep" sDeep f fd) (hm : mg "need_deep" = some (.ref f)) (hb : Binds K fd ["term", "deep"] []) (T : Tx K mg) (TT : Tt K mg aR aT) (D0 : Df P w K mg base "need" 1 ["good"] (spNeed C)) :
    Df P w K mg base "need_deep" 3 ["term", "deep"] (spDeep C 0) := by
  refine df_of F hm hb scDeep (fun vs H Q E h => by obtain ⟨_, _, rfl, _⟩ := h; rfl) (fun cdv A outer s H vs Q E hr h => ?_)
  obtain ⟨v, d, rfl, rd, k1, k2⟩ := h
  have tk := L2N.takes_of (X := cxOf (L2N.CX P w) P w K mg base ["term", "deep", "word", "one"] "need_deep" (defScope sDeep) f cdv A outer s H E) (E := E) (E₁ := fun e' s'' => L2N.CX P w outer H s E e' s'') rfl rfl rfl rfl
  refine ⟨_, pss_cons (ps_expr (pe_df D0 hr (by decide) (by rfl) (taken tk fun _ _ _ _ h => h) (pa_cons (pe_and (pe_callB (call_isD (T := "tuple")) (by rfl) T.isi boot_isinstance (pa_cons (pv 0) (pa_cons (pe_bltn (v := .ty "tuple") (by rfl) T.tup boot_tuple rfl) pa_nil)))
      (pe_and (pe_cmpR op_gt (pe_callB call_len_seq (by rfl) T.len PySem.boot_len (pa_cons (pv 0) pa_nil)) pe_int (nomark _))
      (pe_and (pe_callB (call_isD (T := "str")) (by rfl) T.isi boot_isinstance (pa_cons (pe_ix ix_tup (pv 0) pe_int (fun _ _ => rfl)) (pa_cons (pe_bltn (v := .ty "str") (by rfl) T.str boot_str rfl) pa_nil)))
      (pe_one (pe_cmpR op_lt (pv 1) (C8.pe_gc (by rfl) TT.mwith) (nomark _)))))) pa_nil))) pss_never, ?_⟩
  refine q_need (ed_headT (n := 0) rfl rfl rd) (fun hb H1 e1 => ?_) (fun hb H1 e1 => ?_)
  · simp at hb
  · exact k2 rfl H1 e1
theorem ok_deep {f C aR aT : Addr} {fd : FuncData} (F : L2.Fun K "need_deep" "need_deep" sDeep f fd) (hm : mg "need_deep" = some (.ref f)) (hb : Binds K fd ["term", "deep"] []) (T : Tx K mg) (TT : Tt K mg aR aT) (D0 : Df P w K mg base "need" 1 ["good"] (spNeed C))
    (Dw : Df P w K mg base "is_word" 1 ["thing"] (spF 1 (f1 isWord))) (Dp : Df P w K mg base "is_path" 2 ["thing"] (spF 1 (f1 isPath))) (Dn : Df P w K mg base "is_number" 1 ["thing", "most"] spNumber) :
    ∀ n, Df P w K mg base "need_deep" (n + 3) ["term", "deep"] (spDeep C n)
  | 0 => ok_deep0 F hm hb T TT D0
  | n + 1 => by
    have ih := ok_deep F hm hb T TT D0 Dw Dp Dn n
    refine df_of F hm hb scDeep (fun vs H Q E h => by obtain ⟨_, _, rfl, _⟩ := h; rfl) (fun cdv A outer s H vs Q E hr h => ?_)
    obtain ⟨v, d, rfl, rd, k1, k2⟩ := h
    have tk := L2N.takes_of (X := cxOf (L2N.CX P w) P w K mg base ["term", "deep", "word", "one"] "need_deep" (defScope sDeep) f cdv A outer s H E) (E := E) (E₁ := fun e' s'' => L2N.CX P w outer H s E e' s'') rfl rfl rfl rfl
    refine ⟨_, pss_cons (ps_expr (pe_df D0 hr (by omega) (by rfl) (taken tk fun _ _ _ _ h => h) (pa_cons (pe_and (pe_callB (call_isD (T := "tuple")) (by rfl) T.isi boot_isinstance (pa_cons (pv 0) (pa_cons (pe_bltn (v := .ty "tuple") (by rfl) T.tup boot_tuple rfl) pa_nil)))
      (pe_and (pe_cmpR op_gt (pe_callB call_len_seq (by rfl) T.len PySem.boot_len (pa_cons (pv 0) pa_nil)) pe_int (nomark _))
      (pe_and (pe_callB (call_isD (T := "str")) (by rfl) T.isi boot_isinstance (pa_cons (pe_ix ix_tup (pv 0) pe_int (fun _ _ => rfl)) (pa_cons (pe_bltn (v := .ty "str") (by rfl) T.str boot_str rfl) pa_nil)))
      (pe_one (pe_cmpR op_lt (pv 1) (C8.pe_gc (by rfl) TT.mwith) (nomark _)))))) pa_nil)))
      (pss_cons (ps_set (i := 2) scDeep.nd rfl (Or.inl rfl) (pe_ix ix_tup (pv 0) pe_int (fun _ _ => rfl)))
      (pss_one (ps_if (pt_cmpR op_eq (pv 2) pe_str (nomark _))
        (pss_one (ps_expr (pe_df D0 hr (by omega) (by rfl) (taken tk fun _ _ _ _ h => h) (pa_cons (pe_and (pe_cmpR op_eq (pe_callB call_len_seq (by rfl) T.len PySem.boot_len (pa_cons (pv 0) pa_nil)) pe_int (nomark _)) (pe_one (pe_df Dn hr (by omega) (by rfl) passN (pa_cons (pe_ix ix_tup (pv 0) pe_int (fun _ _ => rfl)) (pa_cons (C8.pe_gc (by rfl) TT.mnum) pa_nil))))) pa_nil))))
      (pss_one (ps_if (pt_cmpR op_in_seq (pv 2) (C8.pe_gc (v := .ref aR) (by rfl) ⟨_, TT.gR, rfl⟩) rfl)
        (pss_one (ps_expr (pe_df D0 hr (by omega) (by rfl) (taken tk fun _ _ _ _ h => h) (pa_cons (pe_and (pe_cmpR op_eq (pe_callB call_len_seq (by rfl) T.len PySem.boot_len (pa_cons (pv 0) pa_nil)) pe_int (nomark _)) (pe_one (pe_df Dp hr (by omega) (by rfl) passN (pa_cons (pe_ix ix_tup (pv 0) pe_int (fun _ _ => rfl)) pa_nil)))) pa_nil))))
      (pss_one (ps_if (pt_cmpR op_eq (pv 2) pe_str (nomark _))
        (pss_one (ps_expr (pe_df D0 hr (by omega) (by rfl) (taken tk fun _ _ _ _ h => h) (pa_cons (pe_and (pe_cmpR op_eq (pe_callB call_len_seq (by rfl) T.len PySem.boot_len (pa_cons (pv 0) pa_nil)) pe_int (nomark _)) (pe_one (pe_df Dw hr (by omega) (by rfl) passN (pa_cons (pe_ix ix_tup (pv 0) pe_int (fun _ _ => rfl)) pa_nil)))) pa_nil))))
      (pss_cons (ps_expr (pe_df D0 hr (by omega) (by rfl) (taken tk fun _ _ _ _ h => h) (pa_cons (pe_or (pe_and (pe_cmpR op_in_seq (pv 2) (C8.pe_gc (v := .ref aT) (by rfl) ⟨_, TT.gT, rfl⟩) rfl) (pe_one (pe_cmpR op_eq (pe_callB call_len_seq (by rfl) T.len PySem.boot_len (pa_cons (pv 0) pa_nil)) pe_int (nomark _)))) (pe_one (pe_and (pe_cmpR op_eq (pv 2) pe_str (nomark _)) (pe_one (pe_cmpR op_eq (pe_callB call_len_seq (by rfl) T.len PySem.boot_len (pa_cons (pv 0) pa_nil)) pe_int (nomark _)))))) pa_nil)))
      (pss_one (ps_for (passes_of (K := fun e s'' => L2N.CX P w outer H s E e s'') (E₁ := fun e s'' => L2N.CX P w outer H s E e s'') rfl) rfl (pi_tup (pe_slice sl_tupA (pv 0) (po_some pe_int) po_none)) (pg_name (i := 3) scDeep.nd rfl (Or.inl rfl))
        (pss_one (ps_expr (pe_df ih hr (by omega) (by rfl) (taken tk fun _ _ _ _ h => h) (pa_cons (pv 3) (pa_cons (pe_op op_add (pv 1) pe_int) pa_nil))))))))))))))), ?_⟩
    refine q_need (ed_headT (n := n + 1) rfl rfl rd) (fun hb H1 e1 => ?_) (fun hb H1 e1 => k2 (deep_head hb) H1 e1)
    have hh : headT d = true := (Bool.and_eq_true .. ▸ hb).1
    cases rd with
    | @tup a xs ds hp rs' =>
      match ds, hh, hp, rs' with
      | .str z :: x :: r, _, hp, rs' =>
        have rt : R H (.ref a) (.tuple (.str z :: x :: r)) := .tup hp rs'
        have rt1 : R H1 (.ref a) (.tuple (.str z :: x :: r)) := rt.ext (exN e1)
        refine q_asgD (d := .str z) (ed_ixT (k := 0) (ed_var rfl rt1) (ed_c (.int 0)) rfl) fun vz H2 e2 rz => ?_
        cases rz with
        | str _ hz =>
        have rt2 : R H2 (.ref a) (.tuple (.str z :: x :: r)) := rt1.ext (exN e2)
        show tIfS _ _ _ _ [some (.ref a), some (.int (8 - ((n + 1 : Nat) : Int))), some (.str z), none] H2
        have elen : ∀ {H3 : Hp} (m : Int), Ex H2 H3 → EvD (tOp rEq (tCB (Evl.rLenS K) (tCons (tVar 0) tNil)) (tC (.int m))) [some (.ref a), some (.int (8 - ((n + 1 : Nat) : Int))), some (.str z), none] H3 (.bool (decide (((r.length + 2 : Nat) : Int) = m))) := fun {H3} m e3 => ed_eqI (i := ((r.length + 2 : Nat) : Int)) (ed_is (ed_lenQ (ed_var rfl (rt2.ext (exN e3))) (.inl rfl)) rfl) (ed_c (.int m))
        have e12 : Ex H H2 := e1.trans e2
        refine Evl.s_if (b := decide (z = "num")) (et_b (ed_eqS (ed_var rfl (.str z hz)) (ed_c (.str _ (by decide +kernel)))) |> fun q => q) (fun c1 H3 e3 => ?_) (fun c1 H3 e3 => ?_)
        · have c1' := of_decide_eq_true c1
          have hk : deepOk (n + 1) (.tuple (.str z :: x :: r)) = (decide (((r.length + 2 : Nat) : Int) = 2) && isNumber 1000000000 x) := by
            rw [deepOk, if_pos c1']
          exact s_need (ed_and (elen 2 e3) fun _ => ed_num (eds_cons (ed_ixT (k := 1) (ed_var rfl (rt2.ext (exN e3))) (ed_c (.int 1)) rfl) (eds_cons (ed_c (.int _)) eds_nil))) (fun h4 H4 e4 => k1 (hk.trans h4) H4 ((e12.trans e3).trans e4)) (fun h4 H4 e4 => k2 (hk.trans h4) H4 ((e12.trans e3).trans e4))
        · have c1' := of_decide_eq_false c1
          refine Evl.s_if (b := decide (z ∈ readW)) (et_b (ed_inK (ed_var rfl (.str z hz)) TT.kR)) (fun c2 H4 e4 => ?_) (fun c2 H4 e4 => ?_)
          · have c2' := of_decide_eq_true c2
            have hk : deepOk (n + 1) (.tuple (.str z :: x :: r)) = (decide (((r.length + 2 : Nat) : Int) = 2) && isPath x) := by
              rw [deepOk, if_neg c1', if_pos c2']
            exact s_need (ed_and (elen 2 (e3.trans e4)) fun _ => ed_call (eds_cons (ed_ixT (k := 1) (ed_var rfl (rt2.ext (exN (e3.trans e4)))) (ed_c (.int 1)) rfl) eds_nil) rfl rfl) (fun h5 H5 e5 => k1 (hk.trans h5) H5 ((e12.trans (e3.trans e4)).trans e5)) (fun h5 H5 e5 => k2 (hk.trans h5) H5 ((e12.trans (e3.trans e4)).trans e5))
          · have c2' := of_decide_eq_false c2
            refine Evl.s_if (b := decide (z = "look")) (et_b (ed_eqS (ed_var rfl (.str z hz)) (ed_c (.str _ (by decide +kernel))))) (fun c3 H5 e5 => ?_) (fun c3 H5 e5 => ?_)
            · have c3' := of_decide_eq_true c3
              have hk : deepOk (n + 1) (.tuple (.str z :: x :: r)) = (decide (((r.length + 2 : Nat) : Int) = 2) && isWord x) := by
                rw [deepOk, if_neg c1', if_neg c2', if_pos c3']
              have e25 := (e3.trans e4).trans e5
              exact s_need (ed_and (elen 2 e25) fun _ => ed_call (eds_cons (ed_ixT (k := 1) (ed_var rfl (rt2.ext (exN e25))) (ed_c (.int 1)) rfl) eds_nil) rfl rfl) (fun h6 H6 e6 => k1 (hk.trans h6) H6 ((e12.trans e25).trans e6)) (fun h6 H6 e6 => k2 (hk.trans h6) H6 ((e12.trans e25).trans e6))
            · have c3' := of_decide_eq_false c3
              have e25 := (e3.trans e4).trans e5
              generalize hg : ((decide (z ∈ twoW) && decide (((r.length + 2 : Nat) : Int) = 3)) || (decide (z = "when") && decide (((r.length + 2 : Nat) : Int) = 4))) = g
              have hk : deepOk (n + 1) (.tuple (.str z :: x :: r)) = (g && (x :: r).all (deepOk n)) := by
                rw [deepOk, if_neg c1', if_neg c2', if_neg c3', hg]
              refine q_need (b := g) (ed_is (ed_or (ed_and (ed_inK (ed_var rfl (.str z hz)) TT.kT) fun _ => elen 3 e25) fun _ => ed_and (ed_eqS (ed_var rfl (.str z hz)) (ed_c (.str _ (by decide +kernel)))) fun _ => elen 4 e25) (by rw [hg])) (fun h6 H6 e6 => ?_) (fun h6 H6 e6 => k2 (by rw [hk, h6]; rfl) H6 ((e12.trans e25).trans e6))
              have e06 := (e12.trans e25).trans e6
              have rt6 := rt2.ext (exN (e25.trans e6))
              refine s_forTail (ed_var rfl rt6) (by simp) (fun i σ' H' => (∃ o, σ' = [some (.ref a), some (.int (8 - ((n + 1 : Nat) : Int))), some (.str z), o]) ∧ Ex H H' ∧ ∀ (j : Nat) p, j < i → (x :: r)[j]? = some p → deepOk n p = true) (fun H7 e7 => ⟨⟨_, rfl⟩, e06.trans e7, fun j p hj => absurd hj (Nat.not_lt_zero _)⟩) (fun H7 i y d' σ' H8 e7 hd' ry x8 ⟨⟨o, e⟩, e8, hall⟩ => ?_) (fun σ' H7 ⟨⟨o, e⟩, e7, hall⟩ => ?_)
              · subst e
                refine ⟨_, rfl, _, rfl, _, _, rfl, rfl, y, d', ?_, ry.ext x8, fun hd1 H9 s9 => ?_, fun hd1 H9 s9 => ?_⟩
                · show [y, V.int (8 - ((n + 1 : Nat) : Int) + 1)] = [y, V.int (8 - (n : Int))]
                  congr 3
                  omega
                · refine ⟨⟨⟨_, rfl⟩, e8.trans s9, fun j p hj hp' => ?_⟩, x8.trans (exN s9)⟩
                  rcases Nat.lt_succ_iff_lt_or_eq.mp hj with hj | rfl
                  · exact hall j p hj hp'
                  · rw [hd'] at hp'
                    cases hp'
                    exact hd1
                · refine k2 ?_ H9 (e8.trans s9)
                  have : (x :: r).all (deepOk n) = false := by
                    rw [List.all_eq_false]
                    exact ⟨d', List.mem_of_getElem? hd', by rw [hd1]; exact Bool.false_ne_true⟩
                  rw [hk, this, Bool.and_false]
              · refine k1 ?_ H7 e7
                have : (x :: r).all (deepOk n) = true := by
                  rw [List.all_eq_true]
                  intro p hp'
                  obtain ⟨j, hj, e9⟩ := List.getElem_of_mem hp'
                  exact hall j p hj (by rw [← e9]; exact List.getElem?_eq_getElem hj)
                rw [hk, h6, this]
                rfl
    | _ => cases hh
theorem scNeedTerm : FnScope ["term"] ["term"] (defScope sNeedTerm) := ⟨rfl, rfl, rfl, by decide +kernel, rfl, by decide +kernel, by decide +kernel⟩
theorem ok_needTerm {f C : Addr} {fd : FuncData} (F : L2.Fun K "need_term" "need_term" sNeedTerm f fd) (hm : mg "need_term" = some (.ref f)) (hb : Binds K fd ["term"] []) (D : Df P w K mg base "need_deep" 11 ["term", "deep"] (spDeep C 8)) :
    Df P w K mg base "need_term" 12 ["term"] (spRef C (deepOk 8)) := by
  refine df_of F hm hb scNeedTerm (fun vs H Q E h => by obtain ⟨_, _, rfl, _⟩ := h; rfl) (fun cdv A outer s H vs Q E hr h => ?_)
  obtain ⟨v, d, rfl, rd, k1, k2⟩ := h
  have tk := L2N.takes_of (X := cxOf (L2N.CX P w) P w K mg base ["term"] "need_term" (defScope sNeedTerm) f cdv A outer s H E) (E := E) (E₁ := fun e' s'' => L2N.CX P w outer H s E e' s'') rfl rfl rfl rfl
  refine ⟨_, pss_one (ps_expr (pe_df D hr (Nat.le_refl _) (by rfl) (taken tk fun _ _ _ _ h => h) (pa_cons (pv 0) (pa_cons pe_int pa_nil)))), ?_⟩
  exact ⟨_, rfl, v, d, rfl, rd, k1, k2⟩
end
end Lk
set_option Elab.async false
set_option linter.all false
set_option maxRecDepth 100000
set_option maxHeartbeats 4000000
/-! Texts: what the defs of texts.py come to, plainly. -/
namespace Lk
open PySem PySem.Spec PyProof.Rows L2 HotX L2H LamX
open Evl (Ev EvL EvA EvT Ex EvU)
open TL
def strOf : PyData → Str
  | .str x => x
  | _ => Str.empty
def strsOf : PyData → List Str
  | .tuple ds => ds.map strOf
  | _ => []
def dotS : Str := "."
def pathText (d : PyData) : Str := if strsOf d = [] then dotS else Txt.join dotS (strsOf d)
def pathIn (z : Str) : PyData := if z = dotS then .tuple [] else .tuple ((Txt.split z dotS).map PyData.str)
def minusS : Str := "-"
def figS : Str := "0123456789"
def figs (z : Str) : Str := if cutS z none (some 1) = minusS then cutS z (some 1) none else z
def okNum (z : Str) : Bool := (decide ((1 : Int) ≤ ((figs z).length : Int)) && decide (((figs z).length : Int) ≤ 10)) && (figs z).cps.toList.all fun c => decide (c ∈ figS.cps.toList)
def numVal (z : Str) : Int := (PySem.intText? z).getD 0
/-! ### lengths -/
theorem spl_len (S : List Nat) : ∀ (l : List Nat) (k : Nat) (acc p : List Nat), p ∈ spl S k acc l → p.length ≤ acc.length + l.length
  | [], k, acc, p, h => by
    rw [spl_nil] at h
    rw [List.mem_singleton.mp h]
    simp
  | c :: r, 0, acc, p, h => by
    rw [spl] at h
    split at h
    · rcases List.mem_cons.mp h with e | h
      · rw [e]; simp
      · have := spl_len S r _ _ _ h
        simp at this ⊢
        omega
    · have := spl_len S r _ _ _ h
      simp at this ⊢
      omega
  | c :: r, k + 1, acc, p, h => by
    rw [spl] at h
    have := spl_len S r _ _ _ h
    simp at this ⊢
    omega
theorem spl_many (S : List Nat) : ∀ (l : List Nat) (k : Nat) (acc : List Nat), (spl S k acc l).length ≤ l.length + 1
  | [], k, acc => by rw [spl_nil]; simp
  | c :: r, 0, acc => by
    rw [spl]
    split
    · have := spl_many S r (S.length - 1) []
      simp
      omega
    · have := spl_many S r 0 (acc ++ [c])
      simp
      omega
  | c :: r, k + 1, acc => by
    rw [spl]
    have := spl_many S r k acc
    simp
    omega
theorem split_len {z y : Str} (hy : tl y ≠ []) (hk : y.cps.all (· < 256) = true) : (∀ p ∈ Txt.split z y, p.length ≤ z.length) ∧ (Txt.split z y).length ≤ z.length + 1 := by
  have e := split_spl z y hy (kind_ok hk)
  refine ⟨fun p hp => ?_, ?_⟩
  · have h1 : tl p ∈ spl (tl y) 0 [] (tl z) := by rw [← e]; exact List.mem_map_of_mem hp
    have := spl_len _ _ _ _ _ h1
    rw [len_tl, len_tl]
    simpa using this
  · have h2 := spl_many (tl y) (tl z) 0 []
    rw [← e, List.length_map, ← len_tl] at h2
    exact h2
theorem rs_strs {H : Hp} : ∀ {zs : List Str}, (∀ z ∈ zs, z.length ≤ 100000) → Rs H (zs.map V.str) (zs.map PyData.str)
  | [], _ => .nil
  | z :: r, h => .cons (.str z (h z List.mem_cons_self)) (rs_strs fun y hy => h y (List.mem_cons_of_mem _ hy))
theorem rs_strs' {H : Hp} : ∀ {zs : List Str} {vs : List V}, Rs H vs (zs.map PyData.str) → vs = zs.map V.str ∧ ∀ z ∈ zs, z.length ≤ 100000
  | [], _, .nil => ⟨rfl, fun _ h => by cases h⟩
  | z :: r, _, .cons h t => by
    cases h with
    | str _ hz =>
      obtain ⟨e, k⟩ := rs_strs' t
      exact ⟨by rw [e]; rfl, fun y hy => (List.mem_cons.mp hy).elim (fun e => by rw [e]; exact hz) (k y)⟩
/-! ### numbers -/
theorem fig_digits {l : List Nat} (h : (l.all fun c => decide (c ∈ figS.cps.toList)) = true) : NumText.AllDigits l := by
  have key : ∀ c ∈ figS.cps.toList, 48 ≤ c ∧ c ≤ 57 := by decide +kernel
  intro c hc
  exact key c (of_decide_eq_true (List.all_eq_true.mp h c hc))
theorem cut_tail (z : Str) : (cutS z (some 1) none).cps.toList = z.cps.toList.drop 1 := by
  have e1 : (1 : Int) = ((1 : Nat) : Int) := rfl
  unfold cutS
  rw [e1, HT.sIx_nat, HT.sIx_none]
  show List.take _ _ = _
  have hl : z.length = z.cps.toList.length := by simp [Str.length]
  by_cases h : z.cps.toList.length = 0
  · have : z.cps.toList = [] := List.length_eq_zero_iff.mp h
    rw [this]; simp
  · rw [Nat.min_eq_left (by omega)]
    apply List.take_of_length_le
    rw [List.length_drop]
    omega
theorem cut_head (z : Str) : (cutS z none (some 1)).cps.toList = z.cps.toList.take 1 := by
  have e1 : (1 : Int) = ((1 : Nat) : Int) := rfl
  unfold cutS
  rw [e1, HT.sIx_nat, HT.sIx_none]
  show List.take _ _ = _
  have hl : z.length = z.cps.toList.length := by simp [Str.length]
  rw [List.drop_zero, Nat.sub_zero]
  by_cases h : z.cps.toList.length = 0
  · have : z.cps.toList = [] := List.length_eq_zero_iff.mp h
    rw [this]; simp
  · rw [Nat.min_eq_left (by omega)]
theorem num_ok {z : Str} (h : okNum z = true) : PySem.intText? z = some (numVal z) ∧ z.length ≤ 11 := by
  have key : ∃ n, PySem.intText? z = some n ∧ z.length ≤ 11 := by
    unfold okNum at h
    rw [Bool.and_eq_true, Bool.and_eq_true] at h
    obtain ⟨⟨h1, h2⟩, h3⟩ := h
    have h1 := of_decide_eq_true h1
    have h2 := of_decide_eq_true h2
    have hd := fig_digits h3
    unfold figs at h1 h2 hd
    by_cases hm : cutS z none (some 1) = minusS
    · rw [if_pos hm] at h1 h2 hd
      have e1 : z.cps.toList.take 1 = [45] := by rw [← cut_head, hm]; decide +kernel
      have ez : z.cps.toList = 45 :: z.cps.toList.drop 1 := by
        conv => lhs; rw [← List.take_append_drop 1 z.cps.toList]
        rw [e1]; rfl
      rw [cut_tail] at hd
      have hl : (cutS z (some 1) none).length = (z.cps.toList.drop 1).length := by rw [len_tl]; show (cutS z (some 1) none).cps.toList.length = _; rw [cut_tail]
      have hz : z.length = (z.cps.toList.drop 1).length + 1 := by
        rw [len_tl]
        show z.cps.toList.length = _
        conv => lhs; rw [ez]
        rfl
      refine ⟨_, intText_neg ez hd (fun e => ?_) (by omega), by omega⟩
      rw [hl, e] at h1
      simp at h1
    · rw [if_neg hm] at h1 h2 hd
      refine ⟨_, intText_digits hd (fun e => ?_) (by omega), by omega⟩
      rw [len_tl] at h1
      rw [show tl z = [] from e] at h1
      simp at h1
  obtain ⟨n, e, hl⟩ := key
  exact ⟨by unfold numVal; rw [e]; rfl, hl⟩
def numT (i : Int) : Str := Str.ofString (toString i)
theorem tl_numT (i : Int) : tl (numT i) = if i < 0 then 45 :: numL i.natAbs else numL i.natAbs := by
  unfold numT
  by_cases h : i < 0
  · rw [if_pos h, PyProof.Rows.toString_neg h]
    have e : (0 : Int) - i = ((i.natAbs : Nat) : Int) := by omega
    have q := tl_num i.natAbs
    rw [tl_ofString] at q ⊢
    rw [String.toList_append, List.map_append, e, q]
    rfl
  · rw [if_neg h]
    have e : i = ((i.natAbs : Nat) : Int) := by omega
    have q := tl_num i.natAbs
    rw [← e] at q
    exact q
theorem numT_len {i : Int} (h : i.natAbs ≤ 1000000000) : (numT i).length ≤ 11 := by
  have h1 := numL_len (n := i.natAbs) (k := 10) (by decide) (by omega)
  rw [len_tl, tl_numT]
  split
  · simp; omega
  · omega
/-! ### paths -/
theorem path_strs {d : PyData} (h : isPath d = true) : ∃ zs : List Str, d = .tuple (zs.map PyData.str) ∧ strsOf d = zs ∧ zs.length ≤ 4 ∧ ∀ z ∈ zs, isWord (.str z) = true := by
  cases d with
  | tuple ds =>
    simp only [isPath, Bool.and_eq_true] at h
    have h4 : ds.length ≤ 4 := by have := of_decide_eq_true h.1; omega
    have key : ∀ l : List PyData, l.all isWord = true → l = (l.map strOf).map PyData.str ∧ ∀ z ∈ l.map strOf, isWord (.str z) = true := by
      intro l
      induction l with
      | nil => intro _; exact ⟨rfl, fun _ h => by cases h⟩
      | cons x r ih =>
        intro hl
        rw [List.all_cons, Bool.and_eq_true] at hl
        obtain ⟨e, k⟩ := ih hl.2
        cases x with
        | str y => exact ⟨by simp only [List.map_cons, strOf]; rw [← e], fun z hz => (List.mem_cons.mp hz).elim (fun e => by rw [e]; exact hl.1) (k z)⟩
        | _ => simp [isWord] at hl
    obtain ⟨e, k⟩ := key ds h.2
    exact ⟨ds.map strOf, by rw [← e], rfl, by simpa using h4, k⟩
  | _ => simp [isPath] at h
theorem word_len {z : Str} (h : isWord (.str z) = true) : 1 ≤ z.length ∧ z.length ≤ 6 := by
  simp only [isWord, Bool.and_eq_true] at h
  have h1 := of_decide_eq_true h.1.1
  have h2 := of_decide_eq_true h.1.2
  omega
theorem sum_le {zs : List Str} {k : Nat} (h : ∀ z ∈ zs, z.length ≤ k) : (zs.map (·.length)).sum ≤ zs.length * k := by
  induction zs with
  | nil => simp
  | cons z r ih =>
    have h1 := h z List.mem_cons_self
    have h2 := ih fun y hy => h y (List.mem_cons_of_mem _ hy)
    simp only [List.map_cons, List.sum_cons, List.length_cons, Nat.succ_mul]
    omega
theorem pathText_len {d : PyData} (h : isPath d = true) : (pathText d).length ≤ 27 := by
  obtain ⟨zs, e, es, h4, hw⟩ := path_strs h
  unfold pathText
  rw [es]
  by_cases hz : zs = []
  · rw [if_pos hz]; decide +kernel
  · rw [if_neg hz]
    show (Builtin.Str.glued dotS zs).length ≤ 27
    rw [size_glued]
    have h1 := sum_le fun z hz => (word_len (hw z hz)).2
    have h2 : dotS.length = 1 := by decide +kernel
    rw [h2]
    omega
section
variable {K : PySem.W.Frag} {σ : St} {H H' : Hp} {ta tb te to : TE} {tr : TA} {d e d1 d2 : PyData} {ds : List PyData} {v : V} {b c : Bool} {i j : Int}
theorem ed_if {t : TT} (h : EvT t σ H b) (h1 : b = true → EvD ta σ H d) (h2 : b = false → EvD tb σ H d) : EvD (tIf t ta tb) σ H d := fun H1 e Q q => h H1 e _ fun H2 e2 => by
  cases b with
  | true => exact iteT (h1 rfl H2 (e.trans e2) Q fun v H3 e3 r => q v H3 (e2.trans e3) r)
  | false => exact iteF (h2 rfl H2 (e.trans e2) Q fun v H3 e3 r => q v H3 (e2.trans e3) r)
theorem ed_m1 {r : V → List V → Hp → VK → Prop} {z : Str} (h1 : EvD to σ H (.str z)) (h2 : EvD te σ H d2) (hr : ∀ v2 H1, Ex H H1 → R H1 v2 d2 → ∀ Q : VK, (∀ v H2, Ex H1 H2 → R H2 v d → Q v H2) → r (.str z) [v2] H1 Q) : EvD (tM1 r to te) σ H d := fun H1 e Q q =>
  h1.ts H1 e _ fun H2 e2 => ⟨⟨z, rfl⟩, h2 H2 (e.trans e2) _ fun v2 H3 e3 r2 => hr v2 H3 ((e.trans e2).trans e3) r2 Q fun v H4 e4 r4 => q v H4 ((e2.trans e3).trans e4) r4⟩
theorem ed_op {r : R2} (h1 : EvD ta σ H d1) (h2 : EvD tb σ H d2) (hr : ∀ v1 v2 H1, Ex H H1 → R H1 v1 d1 → R H1 v2 d2 → ∀ Q : VK, (∀ v H2, Ex H1 H2 → R H2 v d → Q v H2) → r v1 v2 H1 Q) : EvD (tOp r ta tb) σ H d := fun H1 e Q q =>
  h1 H1 e _ fun v1 H2 e2 r1 => h2 H2 (e.trans e2) _ fun v2 H3 e3 r2 => hr v1 v2 H3 ((e.trans e2).trans e3) (r1.ext (exN e3)) r2 Q fun v H4 e4 r4 => q v H4 ((e2.trans e3).trans e4) r4
/-- s + t -/
theorem ed_addS {x y : Str} (h1 : EvD ta σ H (.str x)) (h2 : EvD tb σ H (.str y)) (hl : x.length + y.length ≤ 100000) : EvD (tOp (fun x y H Q => ∃ i j, x = V.str i ∧ y = V.str j ∧ i.length + j.length ≤ sizeLine ∧ Q (V.str (i ++ j)) H) ta tb) σ H (.str (x ++ y)) :=
  ed_op h1 h2 fun v1 v2 H1 e1 r1 r2 Q q => by
    cases r1; cases r2
    exact ⟨x, y, rfl, rfl, Evl.sz_of hl, q _ H1 (Ex.refl _) (.str _ (by rw [len_tl, tl_append, List.length_append, ← len_tl, ← len_tl]; exact hl))⟩
/-- x != y of two texts -/
theorem ed_neS {x y : Str} (h1 : EvD ta σ H (.str x)) (h2 : EvD tb σ H (.str y)) : EvD (tOp rNe ta tb) σ H (.bool (!decide (x = y))) :=
  Ev.db (Evl.ev_is (Evl.ev_op h1.ts h2.ts (Evl.rv_ne rfl)) (by simp))
/-- str(n) -/
theorem ed_strI (h : EvD ta σ H (.int i)) (hi : i.natAbs ≤ 1000000000) : EvD (tCB (fun xs H Q => ∃ i, xs = [V.int i] ∧ i.natAbs.log2 < 1920 ∧ Q (V.str (Str.ofString (toString i))) H) (tCons ta tNil)) σ H (.str (Str.ofString (toString i))) := fun H1 e Q q =>
  h.ti H1 e _ fun H2 e2 => ⟨i, rfl, by
    rcases Nat.eq_zero_or_pos i.natAbs with h0 | h0
    · rw [h0]; decide +kernel
    · exact (Nat.log2_lt (by omega)).mpr (Nat.lt_of_le_of_lt hi (by decide +kernel)), q _ H2 e2 (.str _ (by have := numT_len hi; unfold numT at this; omega))⟩
/-- tuple([..]) -/
theorem ed_tupOf (h : EvD ta σ H (.list ds)) : EvD (tCB (fun xs H Q => ∃ p ys, xs = [V.ref p] ∧ ((SqL K H p ys ∧ ∀ (l : Addr), H l = none → Q (V.ref l) (upd H l (HO.tup ys))) ∨ SqT K H p ys ∧ Q (V.ref p) H)) (tCons ta tNil)) σ H (.tuple ds) := fun H1 e Q q =>
  h H1 e _ fun v H2 e2 r => by
    cases r with
    | @lst p xs _ hp rs => exact ⟨p, xs, rfl, .inl ⟨.inl (.inl hp), fun l hl => q _ _ (e2.trans (Ex.new hl)) (.tup upd_same (rs.ext (exN (Ex.new hl))))⟩⟩
/-- z.split(y) -/
theorem ed_split {z y : Str} (h1 : EvD to σ H (.str z)) (h2 : EvD te σ H (.str y)) (hy : tl y ≠ []) (hk : y.cps.all (· < 256) = true) (h0 : (y.length == 0) = false) (hz : z.length ≤ 300000) (hp : ∀ p ∈ Txt.split z y, p.length ≤ 100000) :
    EvD (tM1 (fun x xs H Q => ∃ a b, x = .str a ∧ xs = [.str b] ∧ (b.length == 0) = false ∧ a.length + 2 ≤ sizeLine ∧ rNewStrs (Txt.split a b) H Q) to te) σ H (.list ((Txt.split z y).map PyData.str)) :=
  ed_m1 h1 h2 fun v2 H1 e1 r2 Q q => by
    cases r2
    exact ⟨z, y, rfl, rfl, h0, Nat.le_trans (Nat.add_le_add_right hz 2) (by decide +kernel), fun p hn => q _ _ (Ex.new hn) (.lst upd_same (rs_strs hp))⟩
/-- y.join(zs), a tuple or list of texts -/
theorem ed_join {y : Str} {zs : List Str} {X : Cx} (h1 : EvD to σ H (.str y)) (h2 : EvD te σ H d2) (hd : d2 = .tuple (zs.map PyData.str) ∨ d2 = .list (zs.map PyData.str)) (hl : (zs.map (·.length)).sum + zs.length * y.length ≤ 100000) :
    EvD (tM1 (fun x xs H Q => ∃ a p, ∃ ys : List Str, x = .str a ∧ xs = [.ref p] ∧ (SqL K H p (ys.map V.str) ∨ SqT K H p (ys.map V.str)) ∧ (ys.map (·.length)).sum + ys.length * a.length ≤ 16777216 ∧ Q (.str (Txt.join a ys)) H) to te) σ H (.str (Txt.join y zs)) :=
  ed_m1 h1 h2 fun v2 H1 e1 r2 Q q => by
    have hlen : (Txt.join y zs).length ≤ 100000 := by
      show (Builtin.Str.glued y zs).length ≤ _
      rw [size_glued]
      have : (zs.length - 1) * y.length ≤ zs.length * y.length := Nat.mul_le_mul_right _ (Nat.sub_le _ _)
      omega
    have h16 : (zs.map (·.length)).sum + zs.length * y.length ≤ 16777216 := by omega
    rcases hd with rfl | rfl
    · cases r2 with
      | @tup p xs _ hp rs =>
        obtain ⟨e, _⟩ := rs_strs' rs
        subst e
        exact ⟨y, p, zs, rfl, rfl, .inr (.inl (.inl hp)), h16, q _ H1 (Ex.refl _) (.str _ hlen)⟩
    · cases r2 with
      | @lst p xs _ hp rs =>
        obtain ⟨e, _⟩ := rs_strs' rs
        subst e
        exact ⟨y, p, zs, rfl, rfl, .inl (.inl (.inl hp)), h16, q _ H1 (Ex.refl _) (.str _ hlen)⟩
end
end Lk
set_option Elab.async false
set_option linter.all false
set_option maxRecDepth 100000
set_option maxHeartbeats 4000000
namespace Lk
open PySem PySem.Spec PyProof.Rows L2 HotX L2H LamX
open Evl (Ev EvL EvA EvT Ex EvU)
open TL
abbrev sNeedText : Stmt := topS 30
abbrev sPathText : Stmt := topS 31
abbrev sPathIn : Stmt := topS 32
abbrev sNumberIn : Stmt := topS 33
structure Tb (K : PySem.W.Frag) (mg : Str → Option Value) : Prop where
  fig : ∃ u, mg "FIGURES" = some u ∧ RelV (.str figS) u
  mfig : ∃ u, mg "MOST_FIGURES" = some u ∧ RelV (.int 10) u
  srt : mg "sorted" = none
section
variable {P : Program} {w : World} {K : PySem.W.Frag} {mg : Str → Option Value} {base : Heap}
theorem scNeedText : FnScope ["good"] ["good"] (defScope sNeedText) := ⟨rfl, rfl, rfl, by decide +kernel, rfl, by decide +kernel, by decide +kernel⟩
theorem ok_needText {f C : Addr} {fd : FuncData} (F : L2.Fun K "need_text" "need_text" sNeedText f fd) (hm : mg "need_text" = some (.ref f)) (hb : Binds K fd ["good"] []) (X : Xc K mg "BadText" C) : Df P w K mg base "need_text" 1 ["good"] (spNeed C) := by
  refine df_of F hm hb scNeedText (fun vs H Q E h => by obtain ⟨_, rfl, _⟩ := h; rfl) (fun cdv A outer s H vs Q E hr h => ?_)
  obtain ⟨b, rfl, k1, k2⟩ := h
  refine ⟨_, pss_one (ps_if (pt_not (pt_val (pv 0))) (pss_one (L2N.ps_raise rfl (L2N.takes_of rfl rfl rfl rfl) (L2N.pmk_own PySem.F.excBase_ValueError X.x X.g X.kp (raises_own X.sb X.ty) (by rfl)))) pss_nil), ?_⟩
  refine ⟨_, rfl, b, rfl, ?_⟩
  cases b with
  | true => exact iteF (k1 rfl)
  | false => exact iteT (k2 rfl)
/-! ### paths -/
def spPathT : Sp := fun vs H Q _ => ∃ v d, vs = [v] ∧ R H v d ∧ isPath d = true ∧ ∀ H', Same H H' → Q (.str (pathText d)) H'
theorem ed_pathT {σ : St} {H : Hp} {E : XK} {ta : TE} {d : PyData} (h : EvD ta σ H d) (hd : isPath d = true) : EvD (tCall spPathT [] E (tCons ta tNil)) σ H (.str (pathText d)) := fun H1 e Q q =>
  h H1 e _ fun v H2 e2 r => ⟨v, d, rfl, r, hd, fun H3 s3 => q _ H3 (e2.trans s3) (.str _ (Nat.le_trans (pathText_len hd) (by decide)))⟩
theorem scPathText : FnScope ["path"] ["path"] (defScope sPathText) := ⟨rfl, rfl, rfl, by decide +kernel, rfl, by decide +kernel, by decide +kernel⟩
theorem ok_pathText {f : Addr} {fd : FuncData} (F : L2.Fun K "path_text" "path_text" sPathText f fd) (hm : mg "path_text" = some (.ref f)) (hb : Binds K fd ["path"] []) : Df P w K mg base "path_text" 1 ["path"] spPathT := by
  refine df_of F hm hb scPathText (fun vs H Q E h => by obtain ⟨_, _, rfl, _⟩ := h; rfl) (fun cdv A outer s H vs Q E hr h => ?_)
  obtain ⟨v, d, rfl, rd, hp, k⟩ := h
  refine ⟨_, pss_one (ps_ret (pe_ifExp (pt_cmpR (op_neD hr.units) (pv 0) (pe_tup pa_nil) (nomark _)) (pe_join pe_str (pv 0)) pe_str)), ?_⟩
  obtain ⟨zs, e, es, h4, hw⟩ := path_strs hp
  refine s_retD (d := .str (pathText d)) ?_ fun v1 H1 e1 r1 => by cases r1; exact k H1 e1
  have hne : PyData.eqv d (.tuple []) = decide (zs = []) := by
    rw [e]
    cases zs <;> simp [PyData.eqv, PyData.eqvAll]
  refine ed_if (b := !PyData.eqv d (.tuple [])) (Evl.et_test (ed_ne (ed_var rfl rd) (ed_tup eds_nil (by decide)) (shaped_path hp) (by decide +kernel)).vb) (fun hb1 => ?_) (fun hb1 => ?_)
  · have hz : ¬ zs = [] := by rw [hne] at hb1; simpa using hb1
    refine ed_is (ed_join (X := cxOf (L2N.CX P w) P w K mg base ["path"] "path_text" (defScope sPathText) f cdv A outer s H E) (y := dotS) (zs := zs) (ed_c (v := .str dotS) (.str _ (by decide +kernel))) (ed_var rfl rd) (.inl e) ?_) ?_
    · have h1 := sum_le fun z hz => (word_len (hw z hz)).2
      have h2 : dotS.length = 1 := by decide +kernel
      rw [h2]
      omega
    · unfold pathText
      rw [es, if_neg hz]
  · have hz : zs = [] := by rw [hne] at hb1; simpa using hb1
    refine ed_is (ed_c (v := .str dotS) (.str _ (by decide +kernel))) ?_
    unfold pathText
    rw [es, if_pos hz]
def spPathI : Sp := fun vs H Q _ => ∃ z : Str, vs = [.str z] ∧ z.length ≤ 100000 ∧ ∀ v H', Same H H' → R H' v (pathIn z) → Q v H'
theorem ed_pathI {σ : St} {H : Hp} {E : XK} {ta : TE} {z : Str} (h : EvD ta σ H (.str z)) : EvD (tCall spPathI [] E (tCons ta tNil)) σ H (pathIn z) := fun H1 e Q q =>
  h H1 e _ fun v H2 e2 r => by
    cases r with
    | str _ hz => exact ⟨z, rfl, hz, fun v H3 s3 r3 => q _ H3 (e2.trans s3) r3⟩
theorem scPathIn : FnScope ["word"] ["word"] (defScope sPathIn) := ⟨rfl, rfl, rfl, by decide +kernel, rfl, by decide +kernel, by decide +kernel⟩
theorem ok_pathIn {f : Addr} {fd : FuncData} (F : L2.Fun K "path_in" "path_in" sPathIn f fd) (hm : mg "path_in" = some (.ref f)) (hb : Binds K fd ["word"] []) (T : Tx K mg) : Df P w K mg base "path_in" 1 ["word"] spPathI := by
  refine df_of F hm hb scPathIn (fun vs H Q E h => by obtain ⟨_, rfl, _⟩ := h; rfl) (fun cdv A outer s H vs Q E hr h => ?_)
  obtain ⟨z, rfl, hz, k⟩ := h
  refine ⟨_, pss_one (ps_ret (pe_ifExp (pt_cmpR op_ne (pv 0) pe_str (nomark _)) (pe_callTy call_tuple_of (by rfl) T.tup boot_tuple (pa_cons (pe_split (pv 0) pe_str) pa_nil)) (pe_tup pa_nil))), ?_⟩
  refine s_retD (d := pathIn z) ?_ fun v1 H1 e1 r1 => k v1 H1 e1 r1
  refine ed_if (b := !decide (z = dotS)) (Evl.et_test (ed_neS (ed_var rfl (.str z hz)) (ed_c (v := .str dotS) (.str _ (by decide +kernel)))).vb) (fun hb1 => ?_) (fun hb1 => ?_)
  · have hd : ¬ z = dotS := by simpa using hb1
    have hs := split_len (z := z) (y := dotS) (by decide +kernel) (by decide +kernel)
    refine ed_is (ed_tupOf (ed_split (z := z) (y := dotS) (ed_var rfl (.str z hz)) (ed_c (v := .str dotS) (.str _ (by decide +kernel))) (by decide +kernel) (by decide +kernel) (by decide +kernel) (by omega) (fun p hp => Nat.le_trans (hs.1 p hp) hz))) ?_
    unfold pathIn
    rw [if_neg hd]
  · have hd : z = dotS := by simpa using hb1
    refine ed_is (ed_tup eds_nil (by decide)) ?_
    unfold pathIn
    rw [if_pos hd]
/-! ### numbers -/
def spNumI (C : Addr) : Sp := fun vs H Q E => ∃ z : Str, vs = [.str z] ∧ z.length ≤ 100000 ∧ (okNum z = true → ∀ H', Same H H' → Q (.int (numVal z)) H') ∧ (okNum z = false → ∀ H', Same H H' → E (.ref C) none H')
theorem scNumberIn : FnScope ["word", "figures", "sign"] ["word"] (defScope sNumberIn) := ⟨rfl, rfl, rfl, by decide +kernel, rfl, by decide +kernel, by decide +kernel⟩
theorem cut_len (z : Str) (lo hi : Option Int) : (cutS z lo hi).length ≤ z.length := by
  rw [len_tl, len_tl]
  show (List.take _ (List.drop _ z.cps.toList)).length ≤ z.cps.toList.length
  rw [List.length_take, List.length_drop]
  omega
theorem ed_cutS {σ : St} {H : Hp} {ta : TE} {z : Str} {tl th : TO} {lo hi : Option Int} (h : EvD ta σ H (.str z)) (h1 : Evl.EvO tl σ H lo) (h2 : Evl.EvO th σ H hi) : EvD (tSl rSlS ta tl th) σ H (.str (cutS z lo hi)) := fun H1 e Q q =>
  h H1 e _ fun v H2 e2 r => by
    cases r with
    | str _ hz => exact h1 H2 (e.trans e2) _ fun H3 e3 => h2 H3 ((e.trans e2).trans e3) _ fun H4 e4 => ⟨z, rfl, Evl.sz_of hz, q _ H4 ((e2.trans e3).trans e4) (.str _ (Nat.le_trans (cut_len z lo hi) hz))⟩
theorem ok_numberIn {f C : Addr} {fd : FuncData} (F : L2.Fun K "number_in" "number_in" sNumberIn f fd) (hm : mg "number_in" = some (.ref f)) (hb : Binds K fd ["word"] []) (T : Tx K mg) (B : Tb K mg) (D0 : Df P w K mg base "need_text" 1 ["good"] (spNeed C)) : Df P w K mg base "number_in" 2 ["word"] (spNumI C) := by
  refine df_of F hm hb scNumberIn (fun vs H Q E h => by obtain ⟨_, rfl, _⟩ := h; rfl) (fun cdv A outer s H vs Q E hr h => ?_)
  obtain ⟨z, rfl, hz, k1, k2⟩ := h
  have tk := L2N.takes_of (X := cxOf (L2N.CX P w) P w K mg base ["word", "figures", "sign"] "number_in" (defScope sNumberIn) f cdv A outer s H E) (E := E) (E₁ := fun e' s'' => L2N.CX P w outer H s E e' s'') rfl rfl rfl rfl
  refine ⟨_, pss_cons (ps_set (i := 1) scNumberIn.nd rfl (Or.inl rfl) (pe_ifExp (pt_cmpR op_eq (pe_slice sl_str (pv 0) po_none (po_some pe_int)) pe_str (nomark _)) (pe_slice sl_str (pv 0) (po_some pe_int) po_none) (pv 0)))
    (pss_cons (ps_expr (pe_df D0 hr (by decide) (by rfl) (taken tk fun _ _ _ _ h => h) (pa_cons (pe_and (pe_chain op_le op_le pe_int (pe_callB call_len_str (by rfl) T.len PySem.boot_len (pa_cons (pv 1) pa_nil)) (C8.pe_gc (by rfl) B.mfig))
      (pe_one (pe_callB (cr_all rfl) (by rfl) T.all boot_all (pa_cons (pe_lc (own := [("sign", 2)]) (g := gName 2) (tt := tYes) rfl scNumberIn.nd (pi_str (pv 1)) (blkOk_by (own := [("sign", 2)]) (N := ["word", "figures", "sign"]) (sc := defScope sNumberIn) (by decide +kernel))
        (fun _ _ _ _ _ => pg_name (i := 2) scNumberIn.nd rfl (Or.inl rfl)) (fun _ _ _ _ _ => pts_nil) (fun _ _ _ _ _ => pe_cmpR op_in_sign (pv 2) (C8.pe_gc (by rfl) B.fig) rfl)) pa_nil)))) pa_nil)))
    (pss_one (ps_ret (pe_callTy call_int_str (by rfl) T.int boot_int (pa_cons (pv 0) pa_nil))))), ?_⟩
  refine q_asgD (d := .str (figs z)) ?g1 fun v1 H1 e1 r1 => ?_
  case g1 =>
    refine ed_if (b := decide (cutS z none (some 1) = minusS)) (Evl.et_test (ed_eqS (ed_cutS (ed_var rfl (.str z hz)) Evl.eo_none (Evl.eo_some Evl.ev_c)) (ed_c (v := .str minusS) (.str _ (by decide +kernel)))).vb) (fun hb1 => ?_) (fun hb1 => ?_)
    · refine ed_is (ed_cutS (ed_var rfl (.str z hz)) (Evl.eo_some Evl.ev_c) Evl.eo_none) ?_
      unfold figs
      rw [if_pos (of_decide_eq_true hb1)]
    · refine ed_is (ed_var rfl (.str z hz)) ?_
      unfold figs
      rw [if_neg (of_decide_eq_false hb1)]
  generalize hg : figs z = g at r1
  cases r1 with
  | str _ hz1 =>
  show tSeq _ _ _ [some (.str z), some (.str g), none] H1
  refine q_need (b := okNum z) (ed_is (ed_and (ed_chain (i := 1) (j := (g.length : Int)) (k := 10) (ed_c (.int 1)) (ed_lenS (ed_var rfl (.str g hz1))) (ed_c (.int 10))) fun hc =>
      ed_all (bs := g.cps.toList.map fun c => decide (c ∈ figS.cps.toList)) (el_lcS (z := g) (Evl.ev_var rfl) _ (by simp) ?_ (fun x => rfl) fun i c H2 _ hc => ?_)) ?_) (fun hb2 H2 e2 => ?_) (fun hb2 H2 e2 => k2 hb2 H2 (e1.trans e2))
  · have : g.cps.size = g.length := rfl
    have h6 : (g.length : Int) ≤ 10 := of_decide_eq_true (Bool.and_eq_true .. ▸ hc).2
    omega
  · refine Evl.ev_is (Evl.ev_op (Evl.ev_var rfl) Evl.ev_c (Evl.rv_val fun H3 _ Q q => ⟨c, figS, rfl, rfl, q⟩)) ?_
    have hc' : g.cps.toList[i]? = some c := by rw [Array.getElem?_toList]; exact hc
    simp [hc']
  · rw [List.all_map]
    unfold okNum
    rw [hg]
    rfl
  · obtain ⟨n1, n2⟩ := num_ok hb2
    exact ⟨_, rfl, z, numVal z, rfl, n1, by omega, k1 hb2 H2 (e1.trans e2)⟩
end
end Lk
set_option Elab.async false
set_option linter.all false
set_option maxRecDepth 100000
set_option maxHeartbeats 4000000
namespace Lk
open PySem PySem.Spec PyProof.Rows L2 HotX L2H LamX
open Evl (Ev EvL EvA EvT Ex EvU)
open TL
abbrev sTextOf : Stmt := topS 36
abbrev sTermText : Stmt := topS 37
def intOf : PyData → Int
  | .int i => i
  | _ => 0
def blS : Str := " "
def opS : Str := "("
def clS : Str := ")"
def whS : Str := "(when "
def thS : Str := " then "
def elS : Str := " else "
def textOf : Nat → PyData → Str
  | n + 1, .tuple (.str z :: x :: r) =>
    if z = "num" then numT (intOf x)
    else if z ∈ readW then z ++ blS ++ pathText x
    else if z = "look" then z ++ blS ++ strOf x
    else if z = "when" then whS ++ textOf n x ++ thS ++ textOf n (r.headD .none) ++ elS ++ textOf n ((r.drop 1).headD .none) ++ clS
    else opS ++ textOf n x ++ blS ++ z ++ blS ++ textOf n (r.headD .none) ++ clS
  | _, _ => Str.empty
def lenB : Nat → Nat
  | 0 => 0
  | 1 => 33
  | n + 2 => 3 * lenB (n + 1) + 19
theorem lenB_le : ∀ n ≤ 8, lenB n ≤ 92938 := by decide
theorem len_app (x y : Str) : (x ++ y).length = x.length + y.length := by rw [len_tl, tl_append, List.length_append, ← len_tl, ← len_tl]
theorem read_len : ∀ z ∈ readW, z.length ≤ 5 := by decide +kernel
theorem two_len : ∀ z ∈ twoW, z.length ≤ 5 := by decide +kernel
theorem two_when : ∀ z ∈ twoW, ¬ z = "when" := by decide +kernel
/-- a term by its head -/
inductive DeepT (n : Nat) : PyData → Str → Prop
  | num {x : PyData} (h : isNumber 1000000000 x = true) : DeepT n (.tuple [.str "num", x]) (numT (intOf x))
  | read {z : Str} {x : PyData} (hz : z ∈ readW) (h0 : ¬ z = "num") (h : isPath x = true) : DeepT n (.tuple [.str z, x]) (z ++ blS ++ pathText x)
  | look {x : PyData} (h : isWord x = true) : DeepT n (.tuple [.str "look", x]) ("look" ++ blS ++ strOf x)
  | when {x y w : PyData} (hx : deepOk n x = true) (hy : deepOk n y = true) (hw : deepOk n w = true) : DeepT n (.tuple [.str "when", x, y, w]) (whS ++ textOf n x ++ thS ++ textOf n y ++ elS ++ textOf n w ++ clS)
  | two {z : Str} {x y : PyData} (hz : z ∈ twoW) (h0 : ¬ z = "num") (h1 : ¬ z ∈ readW) (h2 : ¬ z = "look") (hx : deepOk n x = true) (hy : deepOk n y = true) : DeepT n (.tuple [.str z, x, y]) (opS ++ textOf n x ++ blS ++ z ++ blS ++ textOf n y ++ clS)
theorem deepT_of {n : Nat} {d : PyData} (h : deepOk (n + 1) d = true) : DeepT n d (textOf (n + 1) d) := by
  cases d with
  | tuple ds =>
    match ds, h with
    | .str z :: x :: r, h =>
      have hl : ∀ {m : Nat}, decide (((r.length + 2 : Nat) : Int) = ((m + 2 : Nat) : Int)) = true → r.length = m := fun e => by have := of_decide_eq_true e; omega
      rw [deepOk] at h
      by_cases c1 : z = "num"
      · rw [if_pos c1, Bool.and_eq_true] at h
        have hr : r = [] := List.length_eq_zero_iff.mp (hl (m := 0) h.1)
        subst hr c1
        exact .num h.2
      · rw [if_neg c1] at h
        by_cases c2 : z ∈ readW
        · rw [if_pos c2, Bool.and_eq_true] at h
          have hr : r = [] := List.length_eq_zero_iff.mp (hl (m := 0) h.1)
          subst hr
          rw [textOf, if_neg c1, if_pos c2]
          exact .read c2 c1 h.2
        · rw [if_neg c2] at h
          by_cases c3 : z = "look"
          · rw [if_pos c3, Bool.and_eq_true] at h
            have hr : r = [] := List.length_eq_zero_iff.mp (hl (m := 0) h.1)
            subst hr
            rw [textOf, if_neg c1, if_neg c2, if_pos c3, c3]
            exact .look h.2
          · rw [if_neg c3, Bool.and_eq_true, Bool.or_eq_true, Bool.and_eq_true, Bool.and_eq_true] at h
            rw [textOf, if_neg c1, if_neg c2, if_neg c3]
            rcases h.1 with ⟨g1, g2⟩ | ⟨g1, g2⟩
            · have hr := hl (m := 1) g2
              match r, hr, h.2 with
              | [y], _, ha =>
                rw [if_neg (two_when z (of_decide_eq_true g1))]
                simp only [List.all_cons, List.all_nil, Bool.and_true, Bool.and_eq_true] at ha
                exact .two (of_decide_eq_true g1) c1 c2 c3 ha.1 ha.2
            · have hr := hl (m := 2) g2
              match r, hr, h.2 with
              | [y, w], _, ha =>
                have c4 := of_decide_eq_true g1
                rw [if_pos c4, c4]
                simp only [List.all_cons, List.all_nil, Bool.and_true, Bool.and_eq_true] at ha
                exact .when ha.1 ha.2.1 ha.2.2
    | [], h => cases h
    | [_], h => simp [deepOk] at h
    | .none :: _ :: _, h => cases h
    | .bool _ :: _ :: _, h => cases h
    | .int _ :: _ :: _, h => cases h
    | .list _ :: _ :: _, h => cases h
    | .tuple _ :: _ :: _, h => cases h
    | .dict _ :: _ :: _, h => cases h
  | _ => cases h
theorem num_int {x : PyData} (h : isNumber 1000000000 x = true) : x = .int (intOf x) ∧ (intOf x).natAbs ≤ 1000000000 := by
  cases x with
  | int i =>
    refine ⟨rfl, ?_⟩
    have := of_decide_eq_true h
    show i.natAbs ≤ 1000000000
    omega
  | _ => cases h
theorem word_str {x : PyData} (h : isWord x = true) : x = .str (strOf x) := by
  cases x with
  | str z => rfl
  | _ => cases h
theorem textOf_len : ∀ (n : Nat) (d : PyData), deepOk n d = true → (textOf n d).length ≤ lenB n
  | 0, d, h => by cases h
  | n + 1, d, h => by
    have hB : 33 ≤ lenB (n + 1) := by
      cases n with
      | zero => exact Nat.le_refl _
      | succ n =>
        have : ∀ m, 33 ≤ lenB (m + 1) := by
          intro m
          induction m with
          | zero => exact Nat.le_refl _
          | succ m ih => show 33 ≤ 3 * lenB (m + 1) + 19; omega
        exact this _
    have dt := deepT_of h
    generalize textOf (n + 1) d = tx at dt
    have l0 : blS.length = 1 ∧ opS.length = 1 ∧ clS.length = 1 ∧ whS.length = 6 ∧ thS.length = 6 ∧ elS.length = 6 := by decide +kernel
    cases dt with
    | num hx => exact Nat.le_trans (numT_len (num_int hx).2) (by omega)
    | read hz h0 hx =>
      have h1 := read_len _ hz
      have h2 := pathText_len hx
      rw [len_app, len_app, l0.1]
      omega
    | @look x hx =>
      have h2 : (strOf x).length ≤ 6 := by
        have e := word_str hx
        rw [e] at hx
        exact (word_len hx).2
      have h1 : ("look" : Str).length = 4 := by decide +kernel
      rw [len_app, len_app, l0.1, h1]
      omega
    | when hx hy hw =>
      cases n with
      | zero => cases hx
      | succ n =>
        have h1 := textOf_len _ _ hx
        have h2 := textOf_len _ _ hy
        have h3 := textOf_len _ _ hw
        have hb : lenB (n + 1 + 1) = 3 * lenB (n + 1) + 19 := rfl
        simp only [len_app]
        omega
    | two hz h0 h1' h2' hx hy =>
      cases n with
      | zero => cases hx
      | succ n =>
        have h1 := textOf_len _ _ hx
        have h2 := textOf_len _ _ hy
        have h3 := two_len _ hz
        have hb : lenB (n + 1 + 1) = 3 * lenB (n + 1) + 19 := rfl
        simp only [len_app]
        omega
def spTextOf (n : Nat) : Sp := fun vs H Q _ => ∃ v d, vs = [v] ∧ R H v d ∧ deepOk n d = true ∧ ∀ H', Same H H' → Q (.str (textOf n d)) H'
theorem ed_textOf {σ : St} {H : Hp} {E : XK} {ta : TE} {d : PyData} {n : Nat} (h : EvD ta σ H d) (hd : deepOk n d = true) (hn : n ≤ 8) : EvD (tCall (spTextOf n) [] E (tCons ta tNil)) σ H (.str (textOf n d)) := fun H1 e Q q =>
  h H1 e _ fun v H2 e2 r => ⟨v, d, rfl, r, hd, fun H3 s3 => q _ H3 (e2.trans s3) (.str _ (Nat.le_trans (textOf_len n d hd) (Nat.le_trans (lenB_le n hn) (by decide))))⟩
section
variable {P : Program} {w : World} {K : PySem.W.Frag} {mg : Str → Option Value} {base : Heap}
theorem scTextOf : FnScope ["term", "word"] ["term"] (defScope sTextOf) := ⟨rfl, rfl, rfl, by decide +kernel, rfl, by decide +kernel, by decide +kernel⟩
theorem ok_textOf {f aR aT : Addr} {fd : FuncData} (F : L2.Fun K "text_of" "text_of" sTextOf f fd) (hm : mg "text_of" = some (.ref f)) (hb : Binds K fd ["term"] []) (T : Tx K mg) (TT : Tt K mg aR aT) (Dp : Df P w K mg base "path_text" 1 ["path"] spPathT) :
    ∀ n ≤ 8, Df P w K mg base "text_of" (n + 1) ["term"] (spTextOf n)
  | 0, _ => by
    refine df_of F hm hb scTextOf (fun vs H Q E h => by obtain ⟨_, _, rfl, _⟩ := h; rfl) (fun cdv A outer s H vs Q E hr h => ?_)
    obtain ⟨v, d, rfl, rd, hd, k⟩ := h
    cases hd
  | n + 1, hn => by
    have ih := ok_textOf F hm hb T TT Dp n (by omega)
    refine df_of F hm hb scTextOf (fun vs H Q E h => by obtain ⟨_, _, rfl, _⟩ := h; rfl) (fun cdv A outer s H vs Q E hr h => ?_)
    obtain ⟨v, d, rfl, rd, hd, k⟩ := h
    have ix : ∀ {m : Int} {t : Nat} {q : Pos} {q2 : Pos} {q3 : Pos}, PE (cxOf (L2N.CX P w) P w K mg base ["term", "word"] "text_of" (defScope sTextOf) f cdv A outer s H E) (.Subscript (.Name "term" q) (.Constant (.int m) t q2) q3) (tOp (rIxT K) (tVar 0) (tC (.int m))) := pe_ix ix_tup (pv 0) pe_int (fun _ _ => rfl)
    have call : ∀ {e : Expr} {q1 q2 : Pos} {te : TE}, PE (cxOf (L2N.CX P w) P w K mg base ["term", "word"] "text_of" (defScope sTextOf) f cdv A outer s H E) e te → starEach [e] (cxOf (L2N.CX P w) P w K mg base ["term", "word"] "text_of" (defScope sTextOf) f cdv A outer s H E).env = [(false, eval e (cxOf (L2N.CX P w) P w K mg base ["term", "word"] "text_of" (defScope sTextOf) f cdv A outer s H E).env)] → PE (cxOf (L2N.CX P w) P w K mg base ["term", "word"] "text_of" (defScope sTextOf) f cdv A outer s H E) (.Call (.Name "text_of" q1) [e] [] q2) (tCall (spTextOf n) [] E0 (tCons te tNil)) :=
      fun h hs => pe_df ih hr (Nat.le_refl _) (by rfl) passN (pa_cons h pa_nil hs) (by decide) hs
    have dt := deepT_of hd
    generalize htx : textOf (n + 1) d = tx at dt k
    have lB := lenB_le (n + 1) hn
    have lt := textOf_len _ _ hd
    rw [htx] at lt
    refine ⟨_, pss_cons (ps_set (i := 1) scTextOf.nd rfl (Or.inl rfl) ix)
      (pss_cons (ps_if (pt_cmpR op_eq (pv 1) pe_str (nomark _)) (pss_one (ps_ret (pe_callTy call_str_int (by rfl) T.str boot_str (pa_cons ix pa_nil)))) pss_nil)
      (pss_cons (ps_if (pt_cmpR op_in_seq (pv 1) (C8.pe_gc (v := .ref aR) (by rfl) ⟨_, TT.gR, rfl⟩) rfl) (pss_one (ps_ret (pe_op op_add_str (pe_op op_add_str (pv 1) pe_str) (pe_df Dp hr (by omega) (by rfl) passN (pa_cons ix pa_nil))))) pss_nil)
      (pss_cons (ps_if (pt_cmpR op_eq (pv 1) pe_str (nomark _)) (pss_one (ps_ret (pe_op op_add_str (pe_op op_add_str (pv 1) pe_str) ix))) pss_nil)
      (pss_cons (ps_if (pt_cmpR op_eq (pv 1) pe_str (nomark _)) (pss_one (ps_ret (pe_op op_add_str (pe_op op_add_str (pe_op op_add_str (pe_op op_add_str (pe_op op_add_str (pe_op op_add_str pe_str (call ix rfl)) pe_str) (call ix rfl)) pe_str) (call ix rfl)) pe_str))) pss_nil)
      (pss_one (ps_ret (pe_op op_add_str (pe_op op_add_str (pe_op op_add_str (pe_op op_add_str (pe_op op_add_str (pe_op op_add_str pe_str (call ix rfl)) pe_str) (pv 1)) pe_str) (call ix rfl)) pe_str))))))), ?_⟩
    have l0 : blS.length = 1 ∧ opS.length = 1 ∧ clS.length = 1 ∧ whS.length = 6 ∧ thS.length = 6 ∧ elS.length = 6 := by decide +kernel
    have fin : ∀ {te : TE} {σ : St} {H1 : Hp}, Ex H H1 → EvD te σ H1 (.str tx) → tRet te { nx := fun _ H' => Q .non H', rt := Q } σ H1 := fun e1 h => s_retD h fun v H2 e2 r => by cases r; exact k H2 (e1.trans e2)
    cases dt with
    | @num x hx =>
      obtain ⟨ex, hi⟩ := num_int hx
      refine q_asgD (d := .str "num") (ed_ixT (k := 0) (ed_var rfl rd) (ed_c (.int 0)) rfl) fun v1 H1 e1 r1 => ?_
      refine Evl.q_when (b := true) (Evl.et_is (Evl.et_test (ed_eqS (ed_var rfl r1) (ed_c (v := .str "num") (.str _ (by decide +kernel)))).vb) (by decide +kernel)) (fun _ H2 e2 => ?_) (fun z => by cases z)
      exact fin (e1.trans e2) (ed_strI (ed_ixT (k := 1) (ds := [.str "num", x]) (ed_var rfl (rd.ext (exN (e1.trans e2)))) (ed_c (.int 1)) (by rw [← ex]; rfl)) hi)
    | @read z x hz h0 hx =>
      refine q_asgD (d := .str z) (ed_ixT (k := 0) (ed_var rfl rd) (ed_c (.int 0)) rfl) fun v1 H1 e1 r1 => ?_
      refine Evl.q_when (b := false) (Evl.et_is (Evl.et_test (ed_eqS (ed_var rfl r1) (ed_c (v := .str "num") (.str _ (by decide +kernel)))).vb) (decide_eq_false h0)) (fun z => by cases z) (fun _ H2 e2 => ?_)
      refine Evl.q_when (b := true) (Evl.et_is (Evl.et_test (ed_inK (ed_var rfl (r1.ext (exN e2))) TT.kR).vb) (decide_eq_true hz)) (fun _ H3 e3 => ?_) (fun z => by cases z)
      have e13 := e2.trans e3
      have h5 := read_len z hz
      have h27 := pathText_len hx
      exact fin (e1.trans e13) (ed_addS (ed_addS (ed_var rfl (r1.ext (exN e13))) (ed_c (v := .str blS) (.str _ (by decide +kernel))) (by rw [l0.1]; omega)) (ed_pathT (ed_ixT (k := 1) (ds := [.str z, x]) (ed_var rfl (rd.ext (exN (e1.trans e13)))) (ed_c (.int 1)) rfl) hx) (by rw [len_app, l0.1]; omega))
    | @look x hx =>
      refine q_asgD (d := .str "look") (ed_ixT (k := 0) (ed_var rfl rd) (ed_c (.int 0)) rfl) fun v1 H1 e1 r1 => ?_
      refine Evl.q_when (b := false) (Evl.et_is (Evl.et_test (ed_eqS (ed_var rfl r1) (ed_c (v := .str "num") (.str _ (by decide +kernel)))).vb) (by decide +kernel)) (fun z => by cases z) (fun _ H2 e2 => ?_)
      refine Evl.q_when (b := false) (Evl.et_is (Evl.et_test (ed_inK (ed_var rfl (r1.ext (exN e2))) TT.kR).vb) (by decide +kernel)) (fun z => by cases z) (fun _ H3 e3 => ?_)
      have e13 := e2.trans e3
      refine Evl.q_when (b := true) (Evl.et_is (Evl.et_test (ed_eqS (ed_var rfl (r1.ext (exN e13))) (ed_c (v := .str "look") (.str _ (by decide +kernel)))).vb) (by decide +kernel)) (fun _ H4 e4 => ?_) (fun z => by cases z)
      have e14 := e13.trans e4
      have ex := word_str hx
      have hlw : (strOf x).length ≤ 6 := by rw [ex] at hx; exact (word_len hx).2
      have h4 : ("look" : Str).length = 4 := by decide +kernel
      exact fin (e1.trans e14) (ed_addS (ed_addS (ed_var rfl (r1.ext (exN e14))) (ed_c (v := .str blS) (.str _ (by decide +kernel))) (by rw [l0.1, h4]; omega)) (ed_ixT (k := 1) (ds := [.str "look", x]) (ed_var rfl (rd.ext (exN (e1.trans e14)))) (ed_c (.int 1)) (by rw [← ex]; rfl)) (by rw [len_app, l0.1, h4]; omega))
    | @when x y w hx hy hw =>
      refine q_asgD (d := .str "when") (ed_ixT (k := 0) (ed_var rfl rd) (ed_c (.int 0)) rfl) fun v1 H1 e1 r1 => ?_
      refine Evl.q_when (b := false) (Evl.et_is (Evl.et_test (ed_eqS (ed_var rfl r1) (ed_c (v := .str "num") (.str _ (by decide +kernel)))).vb) (by decide +kernel)) (fun z => by cases z) (fun _ H2 e2 => ?_)
      refine Evl.q_when (b := false) (Evl.et_is (Evl.et_test (ed_inK (ed_var rfl (r1.ext (exN e2))) TT.kR).vb) (by decide +kernel)) (fun z => by cases z) (fun _ H3 e3 => ?_)
      have e13 := e2.trans e3
      refine Evl.q_when (b := false) (Evl.et_is (Evl.et_test (ed_eqS (ed_var rfl (r1.ext (exN e13))) (ed_c (v := .str "look") (.str _ (by decide +kernel)))).vb) (by decide +kernel)) (fun z => by cases z) (fun _ H4 e4 => ?_)
      have e14 := e13.trans e4
      refine Evl.q_when (b := true) (Evl.et_is (Evl.et_test (ed_eqS (ed_var rfl (r1.ext (exN e14))) (ed_c (v := .str "when") (.str _ (by decide +kernel)))).vb) (by decide +kernel)) (fun _ H5 e5 => ?_) (fun z => by cases z)
      have e05 := e1.trans (e14.trans e5)
      have rt := rd.ext (exN e05)
      simp only [len_app] at lt
      have tx1 := fun (m : Nat) (c : PyData) (hc : deepOk n c = true) (hg : ([.str "when", x, y, w] : List PyData)[m]? = some c) => ed_textOf (E := E0) (n := n) (ed_ixT (K := K) (k := m) (tb := tC (.int m)) (ed_var (k := 0) (σ := [some v, some v1]) rfl rt) (ed_c (.int m)) hg) hc (by omega)
      exact fin e05 (ed_addS (ed_addS (ed_addS (ed_addS (ed_addS (ed_addS (ed_c (v := .str whS) (.str _ (by decide +kernel))) (tx1 1 x hx rfl) (by omega)) (ed_c (v := .str thS) (.str _ (by decide +kernel))) (by simp only [len_app]; omega)) (tx1 2 y hy rfl) (by simp only [len_app]; omega)) (ed_c (v := .str elS) (.str _ (by decide +kernel))) (by simp only [len_app]; omega)) (tx1 3 w hw rfl) (by simp only [len_app]; omega)) (ed_c (v := .str clS) (.str _ (by decide +kernel))) (by simp only [len_app]; omega))
    | @two z x y hz h0 h1 h2 hx hy =>
      refine q_asgD (d := .str z) (ed_ixT (k := 0) (ed_var rfl rd) (ed_c (.int 0)) rfl) fun v1 H1 e1 r1 => ?_
      refine Evl.q_when (b := false) (Evl.et_is (Evl.et_test (ed_eqS (ed_var rfl r1) (ed_c (v := .str "num") (.str _ (by decide +kernel)))).vb) (decide_eq_false h0)) (fun z => by cases z) (fun _ H2 e2 => ?_)
      refine Evl.q_when (b := false) (Evl.et_is (Evl.et_test (ed_inK (ed_var rfl (r1.ext (exN e2))) TT.kR).vb) (decide_eq_false h1)) (fun z => by cases z) (fun _ H3 e3 => ?_)
      have e13 := e2.trans e3
      refine Evl.q_when (b := false) (Evl.et_is (Evl.et_test (ed_eqS (ed_var rfl (r1.ext (exN e13))) (ed_c (v := .str "look") (.str _ (by decide +kernel)))).vb) (decide_eq_false h2)) (fun z => by cases z) (fun _ H4 e4 => ?_)
      have e14 := e13.trans e4
      refine Evl.q_when (b := false) (Evl.et_is (Evl.et_test (ed_eqS (ed_var rfl (r1.ext (exN e14))) (ed_c (v := .str "when") (.str _ (by decide +kernel)))).vb) (decide_eq_false (two_when z hz))) (fun z => by cases z) (fun _ H5 e5 => ?_)
      have e05 := e1.trans (e14.trans e5)
      have rt := rd.ext (exN e05)
      have r5 := r1.ext (exN (e14.trans e5))
      simp only [len_app] at lt
      have tx1 := fun (m : Nat) (c : PyData) (hc : deepOk n c = true) (hg : ([.str z, x, y] : List PyData)[m]? = some c) => ed_textOf (E := E0) (n := n) (ed_ixT (K := K) (k := m) (tb := tC (.int m)) (ed_var (k := 0) (σ := [some v, some v1]) rfl rt) (ed_c (.int m)) hg) hc (by omega)
      exact fin e05 (ed_addS (ed_addS (ed_addS (ed_addS (ed_addS (ed_addS (ed_c (v := .str opS) (.str _ (by decide +kernel))) (tx1 1 x hx rfl) (by omega)) (ed_c (v := .str blS) (.str _ (by decide +kernel))) (by simp only [len_app]; omega)) (ed_var rfl r5) (by simp only [len_app]; omega)) (ed_c (v := .str blS) (.str _ (by decide +kernel))) (by simp only [len_app]; omega)) (tx1 2 y hy rfl) (by simp only [len_app]; omega)) (ed_c (v := .str clS) (.str _ (by decide +kernel))) (by simp only [len_app]; omega))
def spTermT (C : Addr) : Sp := fun vs H Q E => ∃ v d, vs = [v] ∧ R H v d ∧ (deepOk 8 d = true → ∀ H', Same H H' → Q (.str (textOf 8 d)) H') ∧ (deepOk 8 d = false → ∀ H', Same H H' → E (.ref C) none H')
theorem scTermText : FnScope ["term"] ["term"] (defScope sTermText) := ⟨rfl, rfl, rfl, by decide +kernel, rfl, by decide +kernel, by decide +kernel⟩
theorem ok_termText {f C : Addr} {fd : FuncData} (F : L2.Fun K "term_text" "term_text" sTermText f fd) (hm : mg "term_text" = some (.ref f)) (hb : Binds K fd ["term"] []) (Dn : Df P w K mg base "need_term" 12 ["term"] (spRef C (deepOk 8))) (Dt : Df P w K mg base "text_of" 9 ["term"] (spTextOf 8)) :
    Df P w K mg base "term_text" 13 ["term"] (spTermT C) := by
  refine df_of F hm hb scTermText (fun vs H Q E h => by obtain ⟨_, _, rfl, _⟩ := h; rfl) (fun cdv A outer s H vs Q E hr h => ?_)
  obtain ⟨v, d, rfl, rd, k1, k2⟩ := h
  have tk := L2N.takes_of (X := cxOf (L2N.CX P w) P w K mg base ["term"] "term_text" (defScope sTermText) f cdv A outer s H E) (E := E) (E₁ := fun e' s'' => L2N.CX P w outer H s E e' s'') rfl rfl rfl rfl
  refine ⟨_, pss_cons (ps_expr (pe_df Dn hr (Nat.le_refl _) (by rfl) (taken tk fun _ _ _ _ h => h) (pa_cons (pv 0) pa_nil))) (pss_one (ps_ret (pe_df Dt hr (by decide) (by rfl) passN (pa_cons (pv 0) pa_nil)))), ?_⟩
  refine q_ref (ed_var rfl rd) (fun z H1 e1 => ?_) (fun z H1 e1 => k2 z H1 e1)
  exact s_retD (ed_textOf (ed_var rfl (rd.ext (exN e1))) z (by decide)) fun v1 H2 e2 r1 => by cases r1; exact k1 z H2 (e1.trans e2)
end
end Lk
set_option Elab.async false
set_option linter.all false
set_option maxRecDepth 100000
set_option maxHeartbeats 4000000
/-! The class Reading: words of a text, and how far they were read. -/
namespace Lk
open PySem PySem.Spec PyProof.Rows L2 HotX L2H LamX
open Evl (Ev EvL EvA EvT Ex EvU)
open TL
abbrev sRInit : Stmt := inClass (topS 38) 0
abbrev sRNext : Stmt := inClass (topS 38) 1
abbrev sRTake : Stmt := inClass (topS 38) 2
abbrev sRTerm : Stmt := inClass (topS 38) 3
abbrev sRInner : Stmt := inClass (topS 38) 4
/-! ### the mirror -/
def takeW (due : Str) : List Str → Option (List Str)
  | [] => none
  | w :: r => if w = due then some r else none
def headW : List Str → Option (Str × List Str)
  | [] => none
  | z :: r => some (z, r)
abbrev PT := List Str → Option (PyData × List Str)
def parseW (pt : PT) (r : List Str) : Option (PyData × List Str) := (takeW "when" r).bind fun r0 => (pt r0).bind fun p1 => (takeW "then" p1.2).bind fun r2 => (pt r2).bind fun p3 => (takeW "else" p3.2).bind fun r4 => (pt r4).bind fun p5 =>
  some (.tuple [.str "when", p1.1, p3.1, p5.1], p5.2)
def parse2 (pt : PT) (r : List Str) : Option (PyData × List Str) := (pt r).bind fun p1 => (headW p1.2).bind fun h => if h.1 ∈ twoW then (pt h.2).bind fun p3 => some (.tuple [.str h.1, p1.1, p3.1], p3.2) else none
def parseI (pt : PT) (r : List Str) : Option (PyData × List Str) := if r.take 1 = [("when" : Str)] then parseW pt r else parse2 pt r
def stepT (pi : PT) (z : Str) (r : List Str) : Option (PyData × List Str) :=
  if z ∈ readW then (headW r).bind fun p => some (.tuple [.str z, pathIn p.1], p.2)
  else if z = "look" then (headW r).bind fun p => some (.tuple [.str z, .str p.1], p.2)
  else if z ≠ "(" then (if okNum z = true then some (.tuple [.str "num", .int (numVal z)], r) else none)
  else (pi r).bind fun p => (takeW ")" p.2).bind fun r2 => some (p.1, r2)
def parseT : Nat → List Str → Option (PyData × List Str)
  | 0, _ => none
  | n + 1, ws => (headW ws).bind fun p => stepT (parseI (parseT n)) p.1 p.2
def wordsOf (z : Str) : List Str := Txt.split (Txt.replace (Txt.replace z "(" "( ") ")" " )") " "
/-! ### how it lies in the heap -/
def rdF (l : Addr) (k : Nat) : List (Str × V) := [("words", .ref l), ("spot", .int k)]
structure RdAt (C : Addr) (H : Hp) (x dx l : Addr) (ws : List Str) (k : Nat) : Prop where
  i : H x = some (.ins C dx (rdF l k))
  w : H l = some (.lst (ws.map V.str))
  z : ∀ y ∈ ws, y.length ≤ 100000
  o : ∀ y ∈ ws, PyData.strOk y = true
  b : k ≤ ws.length
theorem lk_here {k : Str} {v : V} {r : List (Str × V)} : List.lookup k ((k, v) :: r) = some v := by
  have e : (k == k) = true := beq_self_eq_true k
  simp only [List.lookup, e]
theorem lk_past {k g : Str} {v : V} {r : List (Str × V)} (h : (k == g) = false) : List.lookup k ((g, v) :: r) = List.lookup k r := by
  simp only [List.lookup, h]
theorem put_here {f : Str} {v x : V} {r : List (Str × V)} : putF f v ((f, x) :: r) = (f, v) :: r := if_pos rfl
theorem put_past {f g : Str} {v x : V} {r : List (Str × V)} (h : ¬ g = f) : putF f v ((g, x) :: r) = (g, x) :: putF f v r := if_neg h
theorem rd_words {l : Addr} {k : Nat} : (rdF l k).lookup ("words" : Str) = some (.ref l) := lk_here
theorem rd_spot {l : Addr} {k : Nat} : (rdF l k).lookup ("spot" : Str) = some (.int k) := (lk_past (by decide +kernel)).trans lk_here
theorem rd_no {l : Addr} {k : Nat} {m : Str} (h1 : (m == ("words" : Str)) = false) (h2 : (m == ("spot" : Str)) = false) : (rdF l k).lookup m = none := (lk_past h1).trans ((lk_past h2).trans rfl)
theorem rd_put {l : Addr} {k j : Nat} : putF "spot" (.int j) (rdF l k) = rdF l j := (put_past (by decide +kernel)).trans (congrArg _ put_here)
/-- all but x stays -/
def But (x : Addr) (H H' : Hp) : Prop := ∀ b o, H b = some o → b ≠ x → H' b = some o
theorem But.refl {x : Addr} (H : Hp) : But x H H := fun _ _ h _ => h
theorem But.ofEx {x : Addr} {H H' : Hp} (e : Ex H H') : But x H H' := fun b o h _ => e b o h
theorem But.trans {x : Addr} {H H1 H2 : Hp} (a : But x H H1) (b : But x H1 H2) : But x H H2 := fun c o h n => b c o (a c o h n) n
mutual
theorem R.ins {H H' : Hp} {x C dx : Addr} {fs : List (Str × V)} (hx : H x = some (.ins C dx fs)) (e : But x H H') : ∀ {v : V} {d : PyData}, R H v d → R H' v d
  | _, _, .non => .non
  | _, _, .bl b => .bl b
  | _, _, .int i => .int i
  | _, _, .str x h => .str x h
  | _, _, .lst h r => .lst (e _ _ h (ne_of h hx (fun z => nomatch z))) (Rs.ins hx e r)
  | _, _, .tup h r => .tup (e _ _ h (ne_of h hx (fun z => nomatch z))) (Rs.ins hx e r)
  | _, _, .dT h kb k r => .dT (e _ _ h (ne_of h hx (fun z => nomatch z))) kb k (Rs.ins hx e r)
  | _, _, .dK h kb k r => .dK (e _ _ h (ne_of h hx (fun z => nomatch z))) kb k (Rs.ins hx e r)
theorem Rs.ins {H H' : Hp} {x C dx : Addr} {fs : List (Str × V)} (hx : H x = some (.ins C dx fs)) (e : But x H H') : ∀ {vs : List V} {ds : List PyData}, Rs H vs ds → Rs H' vs ds
  | _, _, .nil => .nil
  | _, _, .cons r t => .cons (R.ins hx e r) (Rs.ins hx e t)
end
theorem RdAt.ext {C : Addr} {H H' : Hp} {x dx l : Addr} {ws : List Str} {k : Nat} (h : RdAt C H x dx l ws k) (e : Ex H H') : RdAt C H' x dx l ws k := ⟨e _ _ h.i, e _ _ h.w, h.z, h.o, h.b⟩
theorem RdAt.rs {C : Addr} {H : Hp} {x dx l : Addr} {ws : List Str} {k : Nat} (h : RdAt C H x dx l ws k) : R H (.ref l) (.list (ws.map PyData.str)) := .lst h.w (rs_strs h.z)
/-- what the module's class is -/
structure Rc (K : PySem.W.Frag) (mg : Str → Option Value) (C : Addr) : Prop where
  cl : Cls K C
  nW : NoAttr K C "words"
  nS : NoAttr K C "spot"
  gC : mg "Reading" = some (.ref C)
/-! ### methods -/
structure Md (P : Program) (w : World) (K : PySem.W.Frag) (mg : Str → Option Value) (base : Heap) (C : Addr) (m : Str) (k : Nat) (ps : List Str) (sp : Sp) : Prop where
  ex : ∃ (f : Addr) (fd : FuncData), Meth K C m f ∧ Binds K fd ps [] ∧ FnOk P w K mg base (L2N.CX P w) k f fd ps sp
section
variable {X : Cx} {k j : Nat} {m : Str} {C : Addr} {ps : List Str} {sp : Sp} {E : XK} {apos pos : Pos} {o e : Expr} {es : List Expr} {ta : TE} {t : TA}
theorem pe_md {pl : Sem Bool} (he : PE X o ta) (c : Cls X.K C) (F : Md X.prog X.w X.K X.mg X.base C m k ps sp) (hr : Room j X.A) (hk : k ≤ j) (hx : Passes (L2N.CX X.prog X.w) X E) (ha : PA X (e :: es) t)
    (hst : starEach (e :: es) X.env = (false, eval e X.env) :: starEach es X.env := by rfl) (hpl : (backTo pos (starEach es X.env)).any (·.1) = false := by rfl)
    (ht : eval (.Call (.Attribute o m apos) (e :: es) [] pos) X.env = (do
      let ov ← eval o X.env
      standAt apos.atName
      let (f, first) ← holding [ov] (getMethod ov m pl)
      callWith pos f first (backTo pos (starEach (e :: es) X.env)) (backToKw pos (keywordEach [] X.env))) := by rfl) :
    PE X (.Call (.Attribute o m apos) (e :: es) [] pos) (tMeth C m sp [] E ta t) := by
  obtain ⟨f, fd, hm, hb, F⟩ := F.ex
  exact pe_meth he c hm F (hr.mono hk) hb .nil hx ha hst hpl ht
theorem pe_md0 {pl : Sem Bool} (he : PE X o ta) (c : Cls X.K C) (F : Md X.prog X.w X.K X.mg X.base C m k ps sp) (hr : Room j X.A) (hk : k ≤ j) (hx : Passes (L2N.CX X.prog X.w) X E)
    (ht : eval (.Call (.Attribute o m apos) [] [] pos) X.env = (do
      let ov ← eval o X.env
      standAt apos.atName
      let (f, first) ← holding [ov] (getMethod ov m pl)
      callWith pos f first (backTo pos (starEach [] X.env)) (backToKw pos (keywordEach [] X.env))) := by rfl) :
    PE X (.Call (.Attribute o m apos) [] [] pos) (tMeth C m sp [] E ta tNil) := by
  obtain ⟨f, fd, hm, hb, F⟩ := F.ex
  exact pe_meth0 he c hm F (hr.mono hk) hb .nil hx ht
end
/-! ### the promises: what the rest of the words comes to -/
def spNext (C CT : Addr) : Sp := fun vs H Q E => ∃ x dx l ws k, vs = [.ref x] ∧ RdAt C H x dx l ws k ∧
  (∀ z r, ws.drop k = z :: r → ∀ H', But x H H' → RdAt C H' x dx l ws (k + 1) → Q (.str z) H') ∧ (ws.drop k = [] → ∀ H', But x H H' → E (.ref CT) none H')
def spTake (C CT : Addr) : Sp := fun vs H Q E => ∃ x dx l ws k due, vs = [.ref x, .str due] ∧ due.length ≤ 100000 ∧ RdAt C H x dx l ws k ∧
  (∀ r, takeW due (ws.drop k) = some r → ∀ H', But x H H' → RdAt C H' x dx l ws (k + 1) → Q .non H') ∧ (takeW due (ws.drop k) = none → ∀ H', But x H H' → E (.ref CT) none H')
def spParse (C CT : Addr) (n : Int) (pt : List Str → Option (PyData × List Str)) : Sp := fun vs H Q E => ∃ x dx l ws k, vs = [.ref x, .int n] ∧ RdAt C H x dx l ws k ∧
  (∀ d r, pt (ws.drop k) = some (d, r) → ∀ v H' k', But x H H' → RdAt C H' x dx l ws k' → ws.drop k' = r → R H' v d → Q v H') ∧ (pt (ws.drop k) = none → ∀ H', But x H H' → E (.ref CT) none H')
theorem drop_next {ws : List Str} {k : Nat} {z : Str} {r : List Str} (h : ws.drop k = z :: r) : ws[k]? = some z ∧ ws.drop (k + 1) = r ∧ k < ws.length := by
  have hk : k < ws.length := by
    by_cases hk : k < ws.length
    · exact hk
    · rw [List.drop_eq_nil_of_le (by omega)] at h; cases h
  rw [List.drop_eq_getElem_cons hk] at h
  injection h with h1 h2
  exact ⟨by rw [List.getElem?_eq_getElem hk, h1], h2, hk⟩
section
variable {K : PySem.W.Frag} {σ : St} {H : Hp} {Q : VK} {E : XK} {C CT x dx l : Addr} {ws : List Str} {k i : Nat} {d : PyData} {t : TA}
theorem ed_words {mg : Str → Option Value} (L : Rc K mg C) (h : RdAt C H x dx l ws k) (h0 : σ[i]? = some (some (.ref x))) : EvD (tFld K (tVar i) "words") σ H (.list (ws.map PyData.str)) := fun H1 e Q q =>
  ⟨_, h0, x, C, dx, _, .ref l, rfl, (h.ext e).i, L.cl, L.nW, rd_words, q _ H1 (Ex.refl _) (h.ext e).rs⟩
theorem ed_spot {mg : Str → Option Value} (L : Rc K mg C) (h : RdAt C H x dx l ws k) (h0 : σ[i]? = some (some (.ref x))) : EvD (tFld K (tVar i) "spot") σ H (.int k) := fun H1 e Q q =>
  ⟨_, h0, x, C, dx, _, .int k, rfl, (h.ext e).i, L.cl, L.nS, rd_spot, q _ H1 (Ex.refl _) (.int _)⟩
/-- self.next_word() -/
theorem m_next (h : RdAt C H x dx l ws k) (h0 : σ[i]? = some (some (.ref x))) (q : ∀ z r, ws.drop k = z :: r → ∀ H', But x H H' → RdAt C H' x dx l ws (k + 1) → Q (.str z) H') (n : ws.drop k = [] → ∀ H', But x H H' → E (.ref CT) none H') : tMeth C "next_word" (spNext C CT) [] E (tVar i) tNil σ H Q :=
  ⟨_, h0, x, dx, _, rfl, h.i, rd_no (by decide +kernel) (by decide +kernel), x, dx, l, ws, k, rfl, h, q, n⟩
theorem m_take {due : Str} (h : RdAt C H x dx l ws k) (h0 : σ[i]? = some (some (.ref x))) (hd : due.length ≤ 100000) (q : ∀ r, takeW due (ws.drop k) = some r → ∀ H', But x H H' → RdAt C H' x dx l ws (k + 1) → ws.drop (k + 1) = r → Q .non H') (n : takeW due (ws.drop k) = none → ∀ H', But x H H' → E (.ref CT) none H') :
    tMeth C "take" (spTake C CT) [] E (tVar i) (tCons (tC (.str due)) tNil) σ H Q :=
  ⟨_, h0, x, dx, _, rfl, h.i, rd_no (by decide +kernel) (by decide +kernel), x, dx, l, ws, k, due, rfl, hd, h, (fun r e H' b h' => q r e H' b h' (by
    cases hw : ws.drop k with
    | nil => rw [hw] at e; cases e
    | cons z r0 =>
      rw [hw] at e
      obtain ⟨_, h2, _⟩ := drop_next hw
      have e' : (if z = due then some r0 else none) = some r := e
      by_cases hz : z = due
      · rw [if_pos hz] at e'; cases e'; exact h2
      · rw [if_neg hz] at e'; cases e')), n⟩
theorem m_parse {m : Str} {n : Int} {pt : List Str → Option (PyData × List Str)} {te : TE} (hm1 : (m == ("words" : Str)) = false) (hm2 : (m == ("spot" : Str)) = false) (h : RdAt C H x dx l ws k) (h0 : σ[i]? = some (some (.ref x))) (ht : Ev te σ H (.int n))
    (q : ∀ d r, pt (ws.drop k) = some (d, r) → ∀ v H' k', But x H H' → RdAt C H' x dx l ws k' → ws.drop k' = r → R H' v d → Q v H') (nn : pt (ws.drop k) = none → ∀ H', But x H H' → E (.ref CT) none H') :
    tMeth C m (spParse C CT n pt) [] E (tVar i) (tCons te tNil) σ H Q :=
  ⟨_, h0, x, dx, _, rfl, h.i, rd_no hm1 hm2, ht H (Ex.refl _) _ fun H1 e1 => ⟨x, dx, l, ws, k, rfl, h.ext e1, fun d r e v H' k' b h' hr rv => q d r e v H' k' ((But.ofEx e1).trans b) h' hr rv, fun e H' b => nn e H' ((But.ofEx e1).trans b)⟩⟩
end
section
variable {P : Program} {w : World} {K : PySem.W.Frag} {mg : Str → Option Value} {base : Heap} {C CT : Addr}
theorem scRNext : FnScope ["self"] ["self"] (defScope sRNext) := ⟨rfl, rfl, rfl, by decide +kernel, rfl, by decide +kernel, by decide +kernel⟩
theorem ok_next {f : Addr} {fd : FuncData} (F : L2.Fun K "next_word" "Reading.next_word" sRNext f fd) (hmt : Meth K C "next_word" f) (hb : Binds K fd ["self"] []) (T : Tx K mg) (L : Rc K mg C) (D0 : Df P w K mg base "need_text" 1 ["good"] (spNeed CT)) :
    Md P w K mg base C "next_word" 2 ["self"] (spNext C CT) := by
  refine ⟨f, fd, hmt, hb, okN F scRNext (fun vs H Q E h => by obtain ⟨_, _, _, _, _, rfl, _⟩ := h; rfl) (fun cdv A outer s H vs Q E hr h => ?_)⟩
  obtain ⟨x, dx, l, ws, k, rfl, la, k1, k2⟩ := h
  have tk := L2N.takes_of (X := cxOf (L2N.CX P w) P w K mg base ["self"] "Reading.next_word" (defScope sRNext) f cdv A outer s H E) (E := E) (E₁ := fun e' s'' => L2N.CX P w outer H s E e' s'') rfl rfl rfl rfl
  refine ⟨_, pss_cons (ps_expr (pe_df D0 hr (by decide) (by rfl) (taken tk fun _ _ _ _ h => h) (pa_cons (pe_cmpR op_lt (pe_fld (pv 0) rfl) (pe_callB call_len_seq (by rfl) T.len PySem.boot_len (pa_cons (pe_fld (pv 0) rfl) pa_nil)) (nomark _)) pa_nil)))
    (pss_cons (ps_fld (pv 0) (pe_op op_add (pe_fld (pv 0) rfl) pe_int) rfl)
    (pss_one (ps_ret (pe_ix ix_list (pe_fld (pv 0) rfl) (pe_op op_sub (pe_fld (pv 0) rfl) pe_int) (fun _ _ => rfl))))), ?_⟩
  have hlen : (ws.map PyData.str).length = ws.length := List.length_map ..
  refine q_need (b := decide ((k : Int) < (ws.length : Int))) (ed_I0 (i := (k : Int)) (j := (ws.length : Int)) (ed_spot L la rfl) (ed_is (ed_lenQ (ed_words L la rfl) (.inr rfl)) (by rw [hlen])) (.bl _)) (fun hb1 H1 e1 => ?_) (fun hb1 H1 e1 => ?_)
  · have hk : k < ws.length := by have := of_decide_eq_true hb1; omega
    obtain ⟨z, r, hz⟩ : ∃ z r, ws.drop k = z :: r := ⟨ws[k], ws.drop (k + 1), List.drop_eq_getElem_cons hk⟩
    obtain ⟨g1, g2, _⟩ := drop_next hz
    have la1 := la.ext e1
    refine (ed_I0 (d := .int ((k : Int) + 1)) (ed_spot L la1 rfl) (ed_c (.int 1)) (.int _)).ti H1 (Ex.refl _) _ fun H2 e2 => ?_
    have la2 := la1.ext e2
    refine ⟨_, rfl, x, C, dx, _, rfl, la2.i, L.cl, L.nS, by simp [rdF], ?_⟩
    have e1k : ((k : Int) + 1) = ((k + 1 : Nat) : Int) := by omega
    rw [e1k, rd_put]
    have b3 : But x H (upd H2 x (.ins C dx (rdF l (k + 1)))) := fun b o hb hne => by rw [upd_ne hne]; exact e2 _ _ (e1 _ _ hb)
    have la3 : RdAt C (upd H2 x (.ins C dx (rdF l (k + 1)))) x dx l ws (k + 1) := ⟨upd_same, by rw [upd_ne (ne_of la2.w la2.i (fun z => nomatch z))]; exact la2.w, la.z, la.o, by omega⟩
    generalize upd H2 x (.ins C dx (rdF l (k + 1))) = H3 at b3 la3
    have hz' : z.length ≤ 100000 := la.z z (List.mem_of_getElem? g1)
    refine s_retD (d := .str z) (ed_ixL (k := k) (ds := ws.map PyData.str) (ed_words L la3 rfl) (ed_is (ed_I0 (i := ((k + 1 : Nat) : Int)) (j := 1) (d := .int (((k + 1 : Nat) : Int) - 1)) (ed_spot L la3 rfl) (ed_c (.int 1)) (.int _)) (by congr 1; omega)) (by rw [List.getElem?_map, g1]; rfl)) fun v H4 e4 r4 => ?_
    cases r4
    exact k1 z r hz H4 (b3.trans (But.ofEx e4)) (la3.ext e4)
  · refine k2 (List.drop_eq_nil_of_le ?_) H1 (But.ofEx e1)
    have := of_decide_eq_false hb1
    omega
theorem scRTake : FnScope ["self", "due"] ["self", "due"] (defScope sRTake) := ⟨rfl, rfl, rfl, by decide +kernel, rfl, by decide +kernel, by decide +kernel⟩
theorem ok_take {f : Addr} {fd : FuncData} (F : L2.Fun K "take" "Reading.take" sRTake f fd) (hmt : Meth K C "take" f) (hb : Binds K fd ["self", "due"] []) (L : Rc K mg C) (D0 : Df P w K mg base "need_text" 1 ["good"] (spNeed CT)) (Dx : Md P w K mg base C "next_word" 2 ["self"] (spNext C CT)) :
    Md P w K mg base C "take" 3 ["self", "due"] (spTake C CT) := by
  refine ⟨f, fd, hmt, hb, okN F scRTake (fun vs H Q E h => by obtain ⟨_, _, _, _, _, _, rfl, _⟩ := h; rfl) (fun cdv A outer s H vs Q E hr h => ?_)⟩
  obtain ⟨x, dx, l, ws, k, due, rfl, hdue, la, k1, k2⟩ := h
  have tk := L2N.takes_of (X := cxOf (L2N.CX P w) P w K mg base ["self", "due"] "Reading.take" (defScope sRTake) f cdv A outer s H E) (E := E) (E₁ := fun e' s'' => L2N.CX P w outer H s E e' s'') rfl rfl rfl rfl
  refine ⟨_, pss_one (ps_expr (pe_df D0 hr (by decide) (by rfl) (taken tk fun _ _ _ _ h => h) (pa_cons (pe_cmpR op_eq (pe_md0 (pv 0) L.cl Dx hr (by decide) (taken tk fun _ _ _ _ h => h)) (pv 1) (nomark _)) pa_nil))), ?_⟩
  refine m_next la rfl (fun z r hz H1 b1 la1 => ?_) (fun hz H1 b1 => k2 (by rw [hz]; rfl) H1 b1)
  refine ⟨_, rfl, rfl, decide (V.str z = V.str due), rfl, fun e => ?_, fun e => ?_⟩
  · have ez : z = due := V.str.inj (of_decide_eq_true e)
    exact k1 r (by rw [hz, ez]; exact if_pos rfl) H1 b1 la1
  · have ez : ¬ z = due := fun y => of_decide_eq_false e (by rw [y])
    exact k2 (by rw [hz]; exact if_neg ez) H1 b1
end
end Lk
set_option Elab.async false
set_option linter.all false
set_option maxRecDepth 100000
set_option maxHeartbeats 4000000
namespace Lk
open PySem PySem.Spec PyProof.Rows L2 HotX L2H LamX
open Evl (Ev EvL EvA EvT Ex EvU)
open TL
theorem bl_len : (")" : Str).length ≤ 100000 ∧ ("when" : Str).length ≤ 100000 ∧ ("then" : Str).length ≤ 100000 ∧ ("else" : Str).length ≤ 100000 := by decide +kernel
theorem cut_one (ws : List V) (k : Nat) (hk : k ≤ ws.length) : cutV ws (some (k : Int)) (some ((k : Int) + 1)) = (ws.drop k).take 1 := by
  have e1 : (k : Int) + 1 = ((k + 1 : Nat) : Int) := by omega
  unfold cutV
  rw [e1, HT.sIx_nat, HT.sIx_nat, Nat.min_eq_left hk]
  by_cases h : k + 1 ≤ ws.length
  · rw [Nat.min_eq_left h]
    congr 1
    omega
  · have : k = ws.length := by omega
    rw [this, List.drop_length]
    simp
theorem shaped_strs {zs : List Str} (h : ∀ z ∈ zs, PyData.strOk z = true) : SeqAt.shaped (.list (zs.map PyData.str)) = true := by
  have c : ∀ l : List Str, (∀ z ∈ l, PyData.strOk z = true) → PyData.canLayAll0 (l.map PyData.str) = true ∧ PyData.depthAll (l.map PyData.str) = 0 := by
    intro l
    induction l with
    | nil => intro _; exact ⟨rfl, rfl⟩
    | cons x r ih =>
      intro hl
      obtain ⟨c1, c2⟩ := ih fun z hz => hl z (List.mem_cons_of_mem _ hz)
      have hx := hl x List.mem_cons_self
      exact ⟨by simp only [List.map_cons, PyData.canLayAll0, PyData.canLay0, hx, c1, Bool.and_self], by simp only [List.map_cons, PyData.depthAll, PyData.depth, c2]; rfl⟩
  obtain ⟨c1, c2⟩ := c zs h
  simp [SeqAt.shaped, PyData.canLay0, c1, PyData.depth, c2]
theorem eqv_strs : ∀ a b : List Str, PyData.eqvAll (a.map PyData.str) (b.map PyData.str) = decide (a = b)
  | [], [] => by simp [PyData.eqvAll]
  | [], _ :: _ => by simp [PyData.eqvAll]
  | _ :: _, [] => by simp [PyData.eqvAll]
  | x :: a, y :: b => by
    simp only [List.map_cons, PyData.eqvAll, PyData.eqv, eqv_strs a b, List.cons.injEq]
    by_cases h1 : x = y <;> by_cases h2 : a = b <;> simp [h1, h2]
section
variable {P : Program} {w : World} {K : PySem.W.Frag} {mg : Str → Option Value} {base : Heap} {C CT : Addr}
theorem scRTerm : FnScope ["self", "deep", "word", "found"] ["self", "deep"] (defScope sRTerm) := ⟨rfl, rfl, rfl, by decide +kernel, rfl, by decide +kernel, by decide +kernel⟩
theorem scRInner : FnScope ["self", "deep", "one", "other", "word"] ["self", "deep"] (defScope sRInner) := ⟨rfl, rfl, rfl, by decide +kernel, rfl, by decide +kernel, by decide +kernel⟩
theorem ok_term0 {f aR aT : Addr} {fd : FuncData} (F : L2.Fun K "term" "Reading.term" sRTerm f fd) (hmt : Meth K C "term" f) (hb : Binds K fd ["self", "deep"] []) (TT : Tt K mg aR aT) (D0 : Df P w K mg base "need_text" 1 ["good"] (spNeed CT)) :
    Md P w K mg base C "term" 4 ["self", "deep"] (spParse C CT 8 (parseT 0)) := by
  refine ⟨f, fd, hmt, hb, okN F scRTerm (fun vs H Q E h => by obtain ⟨_, _, _, _, _, rfl, _⟩ := h; rfl) (fun cdv A outer s H vs Q E hr h => ?_)⟩
  obtain ⟨x, dx, l, ws, k, rfl, la, k1, k2⟩ := h
  have tk := L2N.takes_of (X := cxOf (L2N.CX P w) P w K mg base ["self", "deep", "word", "found"] "Reading.term" (defScope sRTerm) f cdv A outer s H E) (E := E) (E₁ := fun e' s'' => L2N.CX P w outer H s E e' s'') rfl rfl rfl rfl
  refine ⟨_, pss_cons (ps_expr (pe_df D0 hr (by decide) (by rfl) (taken tk fun _ _ _ _ h => h) (pa_cons (pe_cmpR op_lt (pv 1) (C8.pe_gc (by rfl) TT.mwith) (nomark _)) pa_nil))) pss_never, ?_⟩
  exact q_need (b := false) (ed_is (ed_I0 (i := 8) (j := 8) (d := .bool (decide ((8 : Int) < 8))) (ed_var rfl (.int 8)) (ed_c (.int 8)) (.bl _)) rfl) (fun z => by cases z) (fun _ H1 e1 => k2 rfl H1 (But.ofEx e1))
theorem ok_term1 {f aR aT : Addr} {fd : FuncData} {n : Nat} (F : L2.Fun K "term" "Reading.term" sRTerm f fd) (hmt : Meth K C "term" f) (hb : Binds K fd ["self", "deep"] []) (T : Tx K mg) (TT : Tt K mg aR aT) (L : Rc K mg C) (D0 : Df P w K mg base "need_text" 1 ["good"] (spNeed CT)) (Dp : Df P w K mg base "path_in" 1 ["word"] spPathI) (Dn : Df P w K mg base "number_in" 2 ["word"] (spNumI CT))
    (Dx : Md P w K mg base C "next_word" 2 ["self"] (spNext C CT)) (Dt : Md P w K mg base C "take" 3 ["self", "due"] (spTake C CT)) (Di : Md P w K mg base C "inner" (2 * n + 5) ["self", "deep"] (spParse C CT (8 - ((n + 1 : Nat) : Int)) (parseI (parseT n)))) :
    Md P w K mg base C "term" (2 * (n + 1) + 4) ["self", "deep"] (spParse C CT (8 - ((n + 1 : Nat) : Int)) (parseT (n + 1))) := by
  refine ⟨f, fd, hmt, hb, okN F scRTerm (fun vs H Q E h => by obtain ⟨_, _, _, _, _, rfl, _⟩ := h; rfl) (fun cdv A outer s H vs Q E hr h => ?_)⟩
  obtain ⟨x, dx, l, ws, k, rfl, la, k1, k2⟩ := h
  have tk := L2N.takes_of (X := cxOf (L2N.CX P w) P w K mg base ["self", "deep", "word", "found"] "Reading.term" (defScope sRTerm) f cdv A outer s H E) (E := E) (E₁ := fun e' s'' => L2N.CX P w outer H s E e' s'') rfl rfl rfl rfl
  refine ⟨_, pss_cons (ps_expr (pe_df D0 hr (by omega) (by rfl) (taken tk fun _ _ _ _ h => h) (pa_cons (pe_cmpR op_lt (pv 1) (C8.pe_gc (by rfl) TT.mwith) (nomark _)) pa_nil)))
    (pss_cons (ps_set (i := 2) scRTerm.nd rfl (Or.inl rfl) (pe_md0 (pv 0) L.cl Dx hr (by omega) (taken tk fun _ _ _ _ h => h)))
    (pss_cons (ps_if (pt_cmpR op_in_seq (pv 2) (C8.pe_gc (v := .ref aR) (by rfl) ⟨_, TT.gR, rfl⟩) rfl) (pss_one (ps_ret (pe_tup (pa_cons (pv 2) (pa_cons (pe_df Dp hr (by omega) (by rfl) passN (pa_cons (pe_md0 (pv 0) L.cl Dx hr (by omega) (taken tk fun _ _ _ _ h => h)) pa_nil)) pa_nil))))) pss_nil)
    (pss_cons (ps_if (pt_cmpR op_eq (pv 2) pe_str (nomark _)) (pss_one (ps_ret (pe_tup (pa_cons (pv 2) (pa_cons (pe_md0 (pv 0) L.cl Dx hr (by omega) (taken tk fun _ _ _ _ h => h)) pa_nil))))) pss_nil)
    (pss_cons (ps_if (pt_cmpR op_ne (pv 2) pe_str (nomark _)) (pss_one (ps_ret (pe_tup (pa_cons pe_str (pa_cons (pe_df Dn hr (by omega) (by rfl) (taken tk fun _ _ _ _ h => h) (pa_cons (pv 2) pa_nil)) pa_nil))))) pss_nil)
    (pss_cons (ps_set (i := 3) scRTerm.nd rfl (Or.inl rfl) (pe_md (pv 0) L.cl Di hr (by omega) (taken tk fun _ _ _ _ h => h) (pa_cons (pv 1) pa_nil)))
    (pss_cons (ps_expr (pe_md (pv 0) L.cl Dt hr (by omega) (taken tk fun _ _ _ _ h => h) (pa_cons pe_str pa_nil)))
    (pss_one (ps_ret (pv 3))))))))), ?_⟩
  refine q_need (b := true) (ed_is (ed_I0 (i := 8 - ((n + 1 : Nat) : Int)) (j := 8) (ed_var rfl (.int _)) (ed_c (.int 8)) (.bl _)) (by congr 1; exact decide_eq_true (by omega))) (fun _ H1 e1 => ?_) (fun z => by cases z)
  have la1 := la.ext e1
  have b01 : But x H H1 := But.ofEx e1
  refine m_next la1 rfl (fun z r hz H2 b2 la2 => ?_) (fun hz H2 b2 => k2 (by rw [hz]; rfl) H2 (b01.trans b2))
  show tSeq _ _ _ [some (.ref x), some (.int (8 - ((n + 1 : Nat) : Int))), some (.str z), none] H2
  obtain ⟨g1, g2, g3⟩ := drop_next hz
  have hzl : z.length ≤ 100000 := la.z z (List.mem_of_getElem? g1)
  have b02 := b01.trans b2
  have pe : parseT (n + 1) (ws.drop k) = stepT (parseI (parseT n)) z r := by rw [hz]; rfl
  refine Evl.q_when (b := decide (z ∈ readW)) (Evl.et_test (ed_inK (ed_var rfl (.str z hzl)) TT.kR).vb) (fun c H3 e3 => ?_) (fun c H3 e3 => ?_)
  · have c' := of_decide_eq_true c
    have la3 := la2.ext e3
    have b03 := b02.trans (But.ofEx e3)
    refine ⟨_, rfl, m_next la3 rfl (fun p r1 hp H4 b4 la4 => ?_) (fun hp H4 b4 => k2 ?_ H4 (b03.trans b4))⟩
    · obtain ⟨q1, q2, q3⟩ := drop_next hp
      refine ⟨p, rfl, la.z p (List.mem_of_getElem? q1), fun v5 H5 s5 r5 => ⟨Evl.sz_of (by simp), fun t ht => ?_⟩⟩
      have e45 : Ex H4 (upd H5 t (.tup [.str z, v5])) := Evl.Ex.trans s5 (Ex.new ht)
      refine k1 (.tuple [.str z, pathIn p]) r1 ?_ (.ref t) _ (k + 1 + 1) ((b03.trans b4).trans (But.ofEx e45)) (la4.ext e45) q2 (.tup upd_same (.cons (.str z hzl) (.cons (r5.ext (exN (Ex.new ht))) .nil)))
      rw [pe, stepT, if_pos c', ← g2, hp]; rfl
    · rw [pe, stepT, if_pos c', ← g2, hp]; rfl
  · have c' := of_decide_eq_false c
    refine Evl.q_when (b := decide (z = "look")) (Evl.et_test (ed_eqS (ed_var rfl (.str z hzl)) (ed_c (v := .str "look") (.str _ (by decide +kernel)))).vb) (fun d4 H4 e4 => ?_) (fun d4 H4 e4 => ?_)
    · have d' := of_decide_eq_true d4
      have la4 := la2.ext (e3.trans e4)
      have b04 := b02.trans (But.ofEx (e3.trans e4))
      refine ⟨_, rfl, m_next la4 rfl (fun p r1 hp H5 b5 la5 => ?_) (fun hp H5 b5 => k2 ?_ H5 (b04.trans b5))⟩
      · obtain ⟨q1, q2, q3⟩ := drop_next hp
        refine ⟨Evl.sz_of (by simp), fun t ht => ?_⟩
        refine k1 (.tuple [.str z, .str p]) r1 ?_ (.ref t) _ (k + 1 + 1) ((b04.trans b5).trans (But.ofEx (Ex.new ht))) (la5.ext (Ex.new ht)) q2 (.tup upd_same (.cons (.str z hzl) (.cons (.str p (la.z p (List.mem_of_getElem? q1))) .nil)))
        rw [pe, stepT, if_neg c', if_pos d', ← g2, hp]; rfl
      · rw [pe, stepT, if_neg c', if_pos d', ← g2, hp]; rfl
    · have d' := of_decide_eq_false d4
      refine Evl.q_when (b := !decide (z = "(")) (Evl.et_test (ed_neS (ed_var rfl (.str z hzl)) (ed_c (v := .str "(") (.str _ (by decide +kernel)))).vb) (fun d5 H5 e5 => ?_) (fun d5 H5 e5 => ?_)
      · have d5' : z ≠ "(" := by simpa using d5
        have e25 := (e3.trans e4).trans e5
        have la5 := la2.ext e25
        have b05 := b02.trans (But.ofEx e25)
        refine ⟨_, rfl, z, rfl, hzl, fun ho H6 s6 => ⟨Evl.sz_of (by simp), fun t ht => ?_⟩, fun ho H6 s6 => k2 ?_ H6 (b05.trans (But.ofEx s6))⟩
        · have e56 : Ex H5 (upd H6 t (.tup [.str "num", .int (numVal z)])) := Evl.Ex.trans s6 (Ex.new ht)
          refine k1 (.tuple [.str "num", .int (numVal z)]) r ?_ (.ref t) _ (k + 1) (b05.trans (But.ofEx e56)) (la5.ext e56) g2 (.tup upd_same (.cons (.str _ (by decide +kernel)) (.cons (.int _) .nil)))
          rw [pe, stepT, if_neg c', if_neg d', if_pos d5', if_pos ho]
        · rw [pe, stepT, if_neg c', if_neg d', if_pos d5', if_neg (by rw [ho]; exact Bool.false_ne_true)]
      · have d5' : ¬ (z ≠ "(") := by
          have : z = "(" := by simpa using d5
          exact fun h => h this
        have e25 := (e3.trans e4).trans e5
        have la5 := la2.ext e25
        have b05 := b02.trans (But.ofEx e25)
        refine m_parse (m := "inner") (by decide +kernel) (by decide +kernel) la5 rfl (Evl.ev_var rfl) (fun d6 r6 h6 v6 H6 k6 b6 la6 hr6 rv6 => ?_) (fun h6 H6 b6 => k2 ?_ H6 (b05.trans b6))
        · show tSeq _ _ _ [some (.ref x), some (.int (8 - ((n + 1 : Nat) : Int))), some (.str z), some v6] H6
          rw [g2] at h6
          refine m_take la6 rfl bl_len.1 (fun r7 h7 H7 b7 la7 hr7 => ?_) (fun h7 H7 b7 => k2 ?_ H7 ((b05.trans b6).trans b7))
          · refine ⟨_, rfl, k1 d6 r7 ?_ v6 H7 _ ((b05.trans b6).trans b7) la7 hr7 (rv6.ins la6.i b7)⟩
            rw [hr6] at h7
            rw [pe, stepT, if_neg c', if_neg d', if_neg d5', h6]
            simp only [Option.bind_some, h7, Option.bind_none]
          · rw [hr6] at h7
            rw [pe, stepT, if_neg c', if_neg d', if_neg d5', h6]
            simp only [Option.bind_some, h7, Option.bind_none]
        · rw [g2] at h6
          rw [pe, stepT, if_neg c', if_neg d', if_neg d5', h6]
          rfl
theorem ok_inner {f aR aT : Addr} {fd : FuncData} {n : Nat} (F : L2.Fun K "inner" "Reading.inner" sRInner f fd) (hmt : Meth K C "inner" f) (hb : Binds K fd ["self", "deep"] []) (T : Tx K mg) (TT : Tt K mg aR aT) (L : Rc K mg C) (D0 : Df P w K mg base "need_text" 1 ["good"] (spNeed CT))
    (Dx : Md P w K mg base C "next_word" 2 ["self"] (spNext C CT)) (Dt : Md P w K mg base C "take" 3 ["self", "due"] (spTake C CT)) (Dr : Md P w K mg base C "term" (2 * n + 4) ["self", "deep"] (spParse C CT (8 - (n : Int)) (parseT n))) :
    Md P w K mg base C "inner" (2 * n + 5) ["self", "deep"] (spParse C CT (8 - ((n + 1 : Nat) : Int)) (parseI (parseT n))) := by
  refine ⟨f, fd, hmt, hb, okN F scRInner (fun vs H Q E h => by obtain ⟨_, _, _, _, _, rfl, _⟩ := h; rfl) (fun cdv A outer s H vs Q E hr h => ?_)⟩
  obtain ⟨x, dx, l, ws, k, rfl, la, k1, k2⟩ := h
  have hu := hr.units
  have tk := L2N.takes_of (X := cxOf (L2N.CX P w) P w K mg base ["self", "deep", "one", "other", "word"] "Reading.inner" (defScope sRInner) f cdv A outer s H E) (E := E) (E₁ := fun e' s'' => L2N.CX P w outer H s E e' s'') rfl rfl rfl rfl
  refine ⟨_, pss_cons (ps_if (pt_cmpR (op_eqD hr.units) (pe_slice sl_list (pe_fld (pv 0) rfl) (po_some (pe_fld (pv 0) rfl)) (po_some (pe_op op_add (pe_fld (pv 0) rfl) pe_int))) (pe_lst (pa_cons pe_str pa_nil)) (nomark _))
      (pss_cons (ps_expr (pe_md (pv 0) L.cl Dt hr (by omega) (taken tk fun _ _ _ _ h => h) (pa_cons pe_str pa_nil)))
      (pss_cons (ps_set (i := 2) scRInner.nd rfl (Or.inl rfl) (pe_md (pv 0) L.cl Dr hr (by omega) (taken tk fun _ _ _ _ h => h) (pa_cons (pe_op op_add (pv 1) pe_int) pa_nil)))
      (pss_cons (ps_expr (pe_md (pv 0) L.cl Dt hr (by omega) (taken tk fun _ _ _ _ h => h) (pa_cons pe_str pa_nil)))
      (pss_cons (ps_set (i := 3) scRInner.nd rfl (Or.inl rfl) (pe_md (pv 0) L.cl Dr hr (by omega) (taken tk fun _ _ _ _ h => h) (pa_cons (pe_op op_add (pv 1) pe_int) pa_nil)))
      (pss_cons (ps_expr (pe_md (pv 0) L.cl Dt hr (by omega) (taken tk fun _ _ _ _ h => h) (pa_cons pe_str pa_nil)))
      (pss_one (ps_ret (pe_tup (pa_cons pe_str (pa_cons (pv 2) (pa_cons (pv 3) (pa_cons (pe_md (pv 0) L.cl Dr hr (by omega) (taken tk fun _ _ _ _ h => h) (pa_cons (pe_op op_add (pv 1) pe_int) pa_nil)) pa_nil)))))))))))) pss_nil)
    (pss_cons (ps_set (i := 2) scRInner.nd rfl (Or.inl rfl) (pe_md (pv 0) L.cl Dr hr (by omega) (taken tk fun _ _ _ _ h => h) (pa_cons (pe_op op_add (pv 1) pe_int) pa_nil)))
    (pss_cons (ps_set (i := 4) scRInner.nd rfl (Or.inl rfl) (pe_md0 (pv 0) L.cl Dx hr (by omega) (taken tk fun _ _ _ _ h => h)))
    (pss_cons (ps_expr (pe_df D0 hr (by omega) (by rfl) (taken tk fun _ _ _ _ h => h) (pa_cons (pe_cmpR op_in_seq (pv 4) (C8.pe_gc (v := .ref aT) (by rfl) ⟨_, TT.gT, rfl⟩) rfl) pa_nil)))
    (pss_one (ps_ret (pe_tup (pa_cons (pv 4) (pa_cons (pv 2) (pa_cons (pe_md (pv 0) L.cl Dr hr (by omega) (taken tk fun _ _ _ _ h => h) (pa_cons (pe_op op_add (pv 1) pe_int) pa_nil)) pa_nil))))))))), ?_⟩
  have deep1 : ∀ {σ : St} {H1 : Hp}, σ[1]? = some (some (.int (8 - ((n + 1 : Nat) : Int)))) → Ev (tOp (rI0 fun i j => V.int (i + j)) (tVar 1) (tC (.int 1))) σ H1 (.int (8 - (n : Int))) := fun h => Evl.ev_is (Evl.ev_op (Evl.ev_var h) Evl.ev_c Evl.rv_I0) (by congr 1; omega)
  have hw1 : ∀ m : Str, m = "term" → (m == ("words" : Str)) = false ∧ (m == ("spot" : Str)) = false := by rintro m rfl; decide +kernel
  refine Evl.q_when (b := decide ((ws.drop k).take 1 = [("when" : Str)])) (Evl.et_is (Evl.et_test (ed_eq (d := .list (((ws.drop k).take 1).map PyData.str)) (e := .list ([("when" : Str)].map PyData.str)) ?g1 (ed_lst (eds_cons (ed_c (.str _ (by decide +kernel))) eds_nil) (by simp)) (shaped_strs fun z hz => la.o z (List.mem_of_mem_drop (List.mem_of_mem_take hz))) (by decide +kernel)).vb) (eqv_strs _ _)) (fun c H1 e1 => ?_) (fun c H1 e1 => ?_)
  case g1 =>
    intro H1 e1 Q1 q1
    have la1 := la.ext e1
    refine (ed_words L la1 rfl) H1 (Ex.refl _) _ fun v2 H2 e2 r2 => ?_
    have la2 := la1.ext e2
    refine (ed_spot L la2 rfl).ti H2 (Ex.refl _) _ fun H3 e3 => ⟨k, rfl, ?_⟩
    have la3 := la2.ext e3
    refine (ed_I0 (d := .int ((k : Int) + 1)) (ed_spot L la3 rfl) (ed_c (.int 1)) (.int _)).ti H3 (Ex.refl _) _ fun H4 e4 => ⟨(k : Int) + 1, rfl, ?_⟩
    have r4 := r2.ext (exN (e3.trans e4))
    cases r4 with
    | @lst p xs _ hp rs =>
      obtain ⟨exs, _⟩ := rs_strs' rs
      subst exs
      refine ⟨p, _, rfl, .inl (.inl hp), fun q hq => q1 _ _ ((e2.trans (e3.trans e4)).trans (Ex.new hq)) (.lst upd_same ?_)⟩
      rw [cut_one _ _ (by rw [List.length_map]; exact la.b), ← List.map_drop, ← List.map_take]
      exact rs_strs fun z hz => la.z z (List.mem_of_mem_drop (List.mem_of_mem_take hz))
  · have c' := of_decide_eq_true c
    have la1 := la.ext e1
    have b01 : But x H H1 := But.ofEx e1
    have pe : parseI (parseT n) (ws.drop k) = parseW (parseT n) (ws.drop k) := if_pos c'
    refine m_take la1 rfl bl_len.2.1 (fun r2 h2 H2 b2 la2 hr2 => ?_) (fun h2 H2 b2 => k2 (by rw [pe, parseW, h2]; rfl) H2 (b01.trans b2))
    have b02 := b01.trans b2
    show tSeq _ _ _ [some (.ref x), some (.int (8 - ((n + 1 : Nat) : Int))), none, none, none] H2
    refine m_parse (m := "term") (hw1 _ rfl).1 (hw1 _ rfl).2 la2 rfl (deep1 rfl) (fun d3 r3 h3 v3 H3 k3 b3 la3 hr3 rv3 => ?_) (fun h3 H3 b3 => k2 (by rw [hr2] at h3; rw [pe, parseW, h2]; simp only [Option.bind_some, h3, Option.bind_none]) H3 (b02.trans b3))
    rw [hr2] at h3
    have b03 := b02.trans b3
    show tSeq _ _ _ [some (.ref x), some (.int (8 - ((n + 1 : Nat) : Int))), some v3, none, none] H3
    refine m_take la3 rfl bl_len.2.2.1 (fun r4 h4 H4 b4 la4 hr4 => ?_) (fun h4 H4 b4 => k2 (by rw [hr3] at h4; rw [pe, parseW, h2]; simp only [Option.bind_some, h3, h4, Option.bind_none]) H4 (b03.trans b4))
    rw [hr3] at h4
    have b04 := b03.trans b4
    have rv4 := rv3.ins la3.i b4
    refine m_parse (m := "term") (hw1 _ rfl).1 (hw1 _ rfl).2 la4 rfl (deep1 rfl) (fun d5 r5 h5 v5 H5 k5 b5 la5 hr5 rv5 => ?_) (fun h5 H5 b5 => k2 (by rw [hr4] at h5; rw [pe, parseW, h2]; simp only [Option.bind_some, h3, h4, h5, Option.bind_none]) H5 (b04.trans b5))
    rw [hr4] at h5
    have b05 := b04.trans b5
    have rw5 := rv4.ins la4.i b5
    show tSeq _ _ _ [some (.ref x), some (.int (8 - ((n + 1 : Nat) : Int))), some v3, some v5, none] H5
    refine m_take la5 rfl bl_len.2.2.2 (fun r6 h6 H6 b6 la6 hr6 => ?_) (fun h6 H6 b6 => k2 (by rw [hr5] at h6; rw [pe, parseW, h2]; simp only [Option.bind_some, h3, h4, h5, h6, Option.bind_none]) H6 (b05.trans b6))
    rw [hr5] at h6
    have b06 := b05.trans b6
    have rx6 := rw5.ins la5.i b6
    have ry6 := rv5.ins la5.i b6
    refine ⟨_, rfl, _, rfl, m_parse (m := "term") (hw1 _ rfl).1 (hw1 _ rfl).2 la6 rfl (deep1 rfl) (fun d7 r7 h7 v7 H7 k7 b7 la7 hr7 rv7 => ?_) (fun h7 H7 b7 => k2 (by rw [hr6] at h7; rw [pe, parseW, h2]; simp only [Option.bind_some, h3, h4, h5, h6, h7, Option.bind_none]) H7 (b06.trans b7))⟩
    rw [hr6] at h7
    refine ⟨Evl.sz_of (by simp), fun t ht => ?_⟩
    exact k1 (.tuple [.str "when", d3, d5, d7]) r7 (by rw [pe, parseW, h2]; simp only [Option.bind_some, h3, h4, h5, h6, h7, Option.bind_none]) (.ref t) _ k7 ((b06.trans b7).trans (But.ofEx (Ex.new ht))) (la7.ext (Ex.new ht)) hr7 (.tup upd_same (.cons (.str _ (by decide +kernel)) (.cons ((rx6.ins la6.i b7).ext (exN (Ex.new ht))) (.cons ((ry6.ins la6.i b7).ext (exN (Ex.new ht))) (.cons (rv7.ext (exN (Ex.new ht))) .nil)))))
  · have c' := of_decide_eq_false c
    have la1 := la.ext e1
    have b01 : But x H H1 := But.ofEx e1
    have pe : parseI (parseT n) (ws.drop k) = parse2 (parseT n) (ws.drop k) := if_neg c'
    refine m_parse (m := "term") (hw1 _ rfl).1 (hw1 _ rfl).2 la1 rfl (deep1 rfl) (fun d3 r3 h3 v3 H3 k3 b3 la3 hr3 rv3 => ?_) (fun h3 H3 b3 => k2 (by rw [pe, parse2, h3]; rfl) H3 (b01.trans b3))
    have b03 := b01.trans b3
    show tSeq _ _ _ [some (.ref x), some (.int (8 - ((n + 1 : Nat) : Int))), some v3, none, none] H3
    refine m_next la3 rfl (fun z r4 hz H4 b4 la4 => ?_) (fun hz H4 b4 => k2 (by rw [hr3] at hz; rw [pe, parse2, h3]; simp only [Option.bind_some, hz, headW, Option.bind_none]) H4 (b03.trans b4))
    obtain ⟨g1, g2, g3⟩ := drop_next hz
    have hzl : z.length ≤ 100000 := la.z z (List.mem_of_getElem? g1)
    rw [hr3] at hz
    have b04 := b03.trans b4
    have rv4 := rv3.ins la3.i b4
    show tSeq _ _ _ [some (.ref x), some (.int (8 - ((n + 1 : Nat) : Int))), some v3, none, some (.str z)] H4
    refine q_need (b := decide (z ∈ twoW)) (ed_inK (ed_var rfl (.str z hzl)) TT.kT) (fun d5 H5 e5 => ?_) (fun d5 H5 e5 => k2 (by rw [pe, parse2, h3]; simp only [Option.bind_some, hz, headW]; rw [if_neg (of_decide_eq_false d5)]) H5 (b04.trans (But.ofEx e5)))
    have d5' := of_decide_eq_true d5
    have la5 := la4.ext e5
    have b05 := b04.trans (But.ofEx e5)
    have rv5 := rv4.ext (exN e5)
    refine ⟨_, rfl, _, rfl, m_parse (m := "term") (hw1 _ rfl).1 (hw1 _ rfl).2 la5 rfl (deep1 rfl) (fun d7 r7 h7 v7 H7 k7 b7 la7 hr7 rv7 => ?_) (fun h7 H7 b7 => k2 (by rw [g2] at h7; rw [pe, parse2, h3]; simp only [Option.bind_some, hz, headW]; rw [if_pos d5', h7]; rfl) H7 (b05.trans b7))⟩
    rw [g2] at h7
    refine ⟨Evl.sz_of (by simp), fun t ht => ?_⟩
    exact k1 (.tuple [.str z, d3, d7]) r7 (by rw [pe, parse2, h3]; simp only [Option.bind_some, hz, headW]; rw [if_pos d5', h7]; rfl) (.ref t) _ k7 ((b05.trans b7).trans (But.ofEx (Ex.new ht))) (la7.ext (Ex.new ht)) hr7 (.tup upd_same (.cons (.str z hzl) (.cons ((rv5.ins la5.i b7).ext (exN (Ex.new ht))) (.cons (rv7.ext (exN (Ex.new ht))) .nil))))
end
end Lk
set_option Elab.async false
set_option linter.all false
set_option maxRecDepth 100000
set_option maxHeartbeats 4000000
/-! While an exception is handled that may have a context, whose own context is None: a list's iterator at its end, sum of a list. -/
namespace Lz
open PySem PySem.Spec PyProof.Rows L2 HotX L2H
/-- the exception at x1 is handled; its context is None, or stands at m and has none itself -/
def HotZ (A : Around) (x1 : Addr) (m : Option Addr) (h : Heap) : Prop := A.handled = some (.ref x1) ∧ ∃ (o : Obj) (vs : Array Value), h.get? x1 = some o ∧ o.data = .fields vs ∧
  match m with
  | none => vs[2]? = some .none
  | some x2 => vs[2]? = some (.ref x2) ∧ x2 ≠ x1 ∧ ∃ (o2 : Obj) (vs2 : Array Value), h.get? x2 = some o2 ∧ o2.data = .fields vs2 ∧ vs2[2]? = some .none
theorem HotZ.keep {A : Around} {x1 : Addr} {m : Option Addr} {h h' : Heap} (z : HotZ A x1 m h) (k : ∀ b, (b = x1 ∨ m = some b) → ∀ o, h.get? b = some o → h'.get? b = some o) : HotZ A x1 m h' := by
  obtain ⟨hh, o, vs, h1, d1, c1⟩ := z
  refine ⟨hh, o, vs, k _ (.inl rfl) _ h1, d1, ?_⟩
  cases m with
  | none => exact c1
  | some x2 =>
    obtain ⟨c1, ne, o2, vs2, h2, d2, c2⟩ := c1
    exact ⟨c1, ne, o2, vs2, k _ (.inr rfl) _ h2, d2, c2⟩
theorem HotZ.lt1 {A : Around} {x1 : Addr} {m : Option Addr} {h : Heap} (z : HotZ A x1 m h) : x1 < h.objs.size := by
  obtain ⟨hh, o, vs, h1, d1, c1⟩ := z
  exact Heap.lt_size h1
theorem HotZ.lt2 {A : Around} {x1 x2 : Addr} {h : Heap} (z : HotZ A x1 (some x2) h) : x2 < h.objs.size := by
  obtain ⟨hh, o, vs, h1, d1, c1, ne, o2, vs2, h2, d2, c2⟩ := z
  exact Heap.lt_size h2
theorem HotZ.lt {A : Around} {x1 b : Addr} {m : Option Addr} {h : Heap} (z : HotZ A x1 m h) (hb : b = x1 ∨ m = some b) : b < h.objs.size := by
  rcases hb with rfl | rfl
  · exact z.lt1
  · exact z.lt2
section
variable {prog : Program} {w : World} {A : Around} {E : Value → Shared → Prop} {s : Shared}
theorem unchainedZ {x1 a : Addr} {m : Option Addr} {Q : Value → Shared → Prop} (hot : HotZ A x1 m s.heap) (hne : ∀ x2, m = some x2 → x2 ≠ a) (q : Q .none s) :
    wpAny (model prog w) A (holding [Value.ref a] (runValue (.builtin "proto.unchain" ⟨[.ref a, .ref x1, .ref x1, .bool false], []⟩))) Q E s := by
  obtain ⟨hh, o1, vs1, h1, d1, c1⟩ := hot
  cases m with
  | none => exact unchained h1 d1 c1 q
  | some x2 =>
    obtain ⟨c1, ne, o2, vs2, h2, d2, c2⟩ := c1
    refine wpAny_holding (wpAny_runValue (codeAny_builtin entry_unchain ?_))
    show wpAny _ _ (field (.ref x1) 2 >>= _) _ _ s
    refine wpAny_bind (wpAny_field h1 d1 c1 ?_)
    rw [if_neg (show ¬ ((Value.ref x2 == Value.none) = true) from Bool.false_ne_true)]
    have n1 : ¬ ((Value.ref x2 == Value.ref a) = true) := fun z => hne x2 rfl (Value.ref.inj (eq_of_beq z))
    have n2 : ¬ ((Value.ref x2 == Value.ref x1) = true) := fun z => ne (Value.ref.inj (eq_of_beq z))
    rw [if_neg n1, if_neg n2]
    show wpAny _ _ (do let slow ← pure (Value.ref x1); again (Code.builtin "proto.unchain" ⟨[Value.ref a, Value.ref x2, slow, Value.bool !false], []⟩)) _ _ s
    refine wpAny_bind (wpAny_pure ?_)
    refine wpAny_pure ⟨(by first | kernel_rfl | decide +kernel), codeAny_builtin entry_unchain ?_⟩
    show wpAny _ _ (field (.ref x2) 2 >>= _) _ _ s
    refine wpAny_bind (wpAny_field h2 d2 c2 ?_)
    rw [if_pos (show (Value.none == Value.none) = true from rfl)]
    first
    | exact wpAny_bind (wpAny_pure (wpAny_pure q))
    | exact wpAny_pure q
theorem raiseNew_hotZ {α : Type} {a x1 : Addr} {m : Option Addr} {oe : Obj} {vs : Array Value} {Q : α → Shared → Prop} (hot : HotZ A x1 m s.heap) (hne : ∀ b, (b = x1 ∨ m = some b) → b ≠ a) (ha : s.heap.get? a = some oe) (da : oe.data = .fields vs) (hi : 2 < vs.size)
    (hE : E (.ref a) { s with heap := s.heap.update a (Obj.mapFields (·.setIfInBounds 2 (.ref x1))) }) : wpAny (model prog w) A (raiseNew (.ref a) : Sem α) Q E s := by
  have hh := hot.1
  unfold raiseNew
  refine wpAny_bind (wpAny_handled ?_)
  rw [hh]
  have hb : (Value.ref x1 != Value.ref a) = true := ref_bne (hne x1 (.inl rfl))
  have h2 : ∀ x2, m = some x2 → x2 ≠ a := fun x2 e => hne x2 (.inr e)
  first
  | (show wpAny _ _ (if (Value.ref x1 != Value.ref a) = true then _ else _) _ _ _
     rw [if_pos hb]
     first
     | exact wpAny_bind (unchainedZ hot h2 (wpAny_bind (chained ha da hi (wpAny_throw hE))))
     | exact wpAny_bind (wpAny_bind (unchainedZ hot h2 (chained ha da hi (wpAny_throw hE)))))
  | (refine wpAny_bind ?_
     show wpAny _ _ (if (Value.ref x1 != Value.ref a) = true then _ else _) _ _ _
     rw [if_pos hb]
     exact wpAny_bind (unchainedZ hot h2 (chained ha da hi (wpAny_throw hE))))
theorem hot_end {it l x1 : Addr} {m : Option Addr} {i : Nat} {items : Array Value} {Q : Option Value → Shared → Prop} (hot : HotZ A x1 m s.heap) (hne : ∀ b, (b = x1 ∨ m = some b) → b ≠ it)
    (hit : s.heap.IsListIter it l i) (hl : s.heap.IsList l items) (hx : items[i]? = none)
    (hQ : ∀ h', Heap.ExtBut it s.heap h' → Q none { s with heap := h' }) : wpAny (model prog w) A (pyNext (.ref it)) Q E s := by
  obtain ⟨oi, hoi, hci, hdi⟩ := id hit
  obtain ⟨oL, hoL, _, nL, hdL⟩ := hl
  unfold pyNext
  refine wpAny_bind (wpAny_attempt (wpAny_callSpecial?_slot (name := Str.ofString "__next__") hit.typeIs slot_listiter_next
    (wpAny_call_entry slot_listiter_next hit.typeIs entry_listiter_next ?g (args_listiter_next _))))
  case g =>
    show wpAny _ _ (field (.ref it) 0 >>= _) _ _ s
    refine wpAny_bind (wpAny_field hoi hdi (x := .ref l) rfl ?_)
    show wpAny _ _ (if (Value.ref l == Value.none) = true then _ else _) _ _ s
    rw [if_neg (show ¬ ((Value.ref l == Value.none) = true) from Bool.false_ne_true)]
    show wpAny _ _ (field (.ref it) 1 >>= _) _ _ s
    refine wpAny_bind (wpAny_field hoi hdi (x := .int i 0) rfl ?_)
    show wpAny _ _ (seqItems? (.ref l) >>= _) _ _ s
    refine wpAny_bind (wpAny_seqItems hoL hdL ?_)
    simp only [Int.toNat_natCast, hx]
    refine wpAny_bind (wpAny_rule (wpAny_bind (wpAny_setField hoi hdi (by simp) ?_)))
    generalize hg : s.heap.update it (Obj.mapFields (·.setIfInBounds 0 Value.none)) = g
    have g1 : HotZ A x1 m g := hot.keep fun b hb o e => by rw [← hg, Heap.get?_update_other _ _ (Ne.symm (hne b hb))]; exact e
    show wpAny _ _ (newExc (.type "StopIteration") [] >>= _) _ _ _
    refine wpAny_bind ?_
    simp only [newExc, newTuple]
    refine wpAny_bind (wpAny_newObj_type ?_ (by size_fits))
    refine wpAny_bind (m := firstArgMember _ _) (wpAny_of_eq (a := Value.none) (by first | rfl | (simp only [firstArgMember]; rfl)) ?_)
    refine wpAny_newObj_type ?_ (by size_fits)
    have p1 : HotZ A x1 m (g.push ({ cls := .type "tuple", data := .seq #[] } : Obj)) := g1.keep fun b _ o e => Heap.get?_push_of_some _ e
    refine raiseNew_hotZ (x1 := x1) (p1.keep fun b _ o e => Heap.get?_push_of_some _ e) (fun b hb => Nat.ne_of_lt (p1.lt hb)) (Heap.get?_push_size _ rfl) rfl (by first | (simp; done) | (simp only [Array.size_append]; simp; omega)) ?_
    refine wpAny_bind (wpAny_isInstance (T := "StopIteration") (b := true) ⟨_, Heap.get?_update_self _ (Heap.get?_push_size _ rfl) rfl, rfl⟩ isSubtype_stop ?_)
    refine wpAny_pure (hQ _ fun b o hb e => ?_)
    have e1 : g.get? b = some o := by rw [← hg, Heap.get?_update_other _ _ (Ne.symm hb)]; exact e
    have e2 := Heap.get?_push_of_some ({ cls := .type "tuple", data := .seq #[] } : Obj) e1
    rw [Heap.get?_update_other _ _ (Nat.ne_of_gt (Heap.lt_size e2))]
    exact Heap.get?_push_of_some _ e2
/-- a list's walk while the exception at x1 is handled -/
theorem hot_walk {x1 : Addr} {m : Option Addr} (it ax : Addr) (hne : ax ≠ it) (hx1 : ∀ b, (b = x1 ∨ m = some b) → b ≠ it) (items : Array Value) :
    Walks prog w A it (it :: ax :: x1 :: m.toList) [it] items.size (fun i v => items[i]? = some v) (fun i h => (h.IsListIter it ax i ∧ h.IsList ax items) ∧ HotZ A x1 m h) where
  sub := fun b hb => by
    have e : b = it := by simpa using hb
    rw [e]; simp
  frame := fun _ _ _ st hk => by
    obtain ⟨⟨s1, s2⟩, hz⟩ := st
    exact ⟨⟨s1.at fun o e => hk it (by simp) o e, s2.at fun o e => hk ax (by simp) o e⟩, hz.keep fun b hb o e => hk b (by rcases hb with rfl | rfl <;> simp) o e⟩
  item := fun i s Q E hi st hQ => by
    obtain ⟨⟨s1, s2⟩, hz⟩ := st
    refine wpAny_pyNext_list_item s1 s2 (x := items[i]) (by simp [hi]) fun h' hit' hs' => ?_
    refine hQ _ h' s.toks (by simp [hi]) ⟨⟨hit', s2.extBut hs'.extBut hne⟩, hz.keep fun b hb o e => hs'.extBut b o (hx1 b hb) e⟩ fun b o hb e => hs'.extBut b o (fun z => hb (by simp [z])) e
  done := fun s Q E st hQ => hot_end st.2 hx1 st.1.1 st.1.2 (by simp) fun h' he' => hQ h' s.toks fun b o hb e => he' b o (fun z => hb (by simp [z])) e
  self := fun _ _ _ _ st hQ => wpAny_pyIter_listiter st.1.1 hQ
theorem hot_sum {x1 l : Addr} {m : Option Addr} {its : List Value} {ns : List Int} {Q : Value → Shared → Prop} (hot : HotZ A x1 m s.heap) (hl : s.heap.IsList l its.toArray) (hi : IntsAre its ns)
    (h : ∀ h' tk t', (∀ b o, s.heap.get? b = some o → h'.get? b = some o) → Q (.int ns.sum t') { s with heap := h', toks := tk }) : wpAny (model prog w) A (call (.builtin "sum") [.ref l]) Q E s := by
  obtain ⟨xs, e⟩ := hi.allInts.items
  have hn : numsOf (intItems xs).toList = ns := by rw [← e]; exact hi.numsOf
  rw [nums_intItems] at hn
  rw [e] at hl
  refine call_sum_walkG (iter_intList hl fun s₂ e₂ st hfp hlI => ?_)
  subst e₂
  have k1 : HotZ A.in1 x1 m (s.heap.push ({ cls := .type "list_iterator", data := .fields #[.ref l, .int 0 0] } : Obj)) := HotZ.keep (A := A.in1) (show HotZ A.in1 x1 m s.heap from hot) fun b _ o e => Heap.get?_push_of_some _ e
  refine ⟨_, _, _, _, _, _, numAt xs, rfl, hot_walk (A := A.in1) (x1 := x1) (m := m) s.heap.objs.size l hlI (fun b hb => Nat.ne_of_lt (hot.lt hb)) (intItems xs), ⟨st, k1⟩, fun b hb => ?_, (fun _ _ => intItems_at), fun h' tk t' hk => ?_⟩
  · rcases List.mem_cons.mp hb with z | hb
    · exact hfp b (by rw [z]; simp)
    · rcases List.mem_cons.mp hb with z | hb
      · exact hfp b (by rw [z]; simp)
      · rcases List.mem_cons.mp hb with z | hb
        · exact k1.lt (.inl z)
        · exact k1.lt (.inr (by cases m <;> simp_all))
  · have q := h h' tk t' (old_kept hk)
    have e3 : preSum (numAt xs) (intItems xs).size = ns.sum := by
      have e4 : (intItems xs).size = xs.size := by simp [intItems]
      rw [e4, preSum_eq, List.take_of_length_le (by simp), hn]
    rw [e3]
    exact q
end
/-- the context bears the handled exception and its context -/
def HotP (A : Around) (p : Addr × Obj) (m : Option (Addr × Obj)) : Prop := A.handled = some (.ref p.1) ∧ ∃ vs : Array Value, p.2.data = .fields vs ∧
  match m with
  | none => vs[2]? = some .none
  | some q => vs[2]? = some (.ref q.1) ∧ q.1 ≠ p.1 ∧ ∃ vs2 : Array Value, q.2.data = .fields vs2 ∧ vs2[2]? = some .none
def HotC (X : Cx) : Prop := ∃ (p : Addr × Obj) (m : Option (Addr × Obj)), HotP X.A p m ∧ p ∈ X.pn ∧ ∀ q, m = some q → q ∈ X.pn
theorem HotC.at {X : Cx} {pins : List (Addr × Obj)} {σ : L2.St} {H : Hp} {s : Shared} (c : HotC X) (I : Inv X pins σ H s) : ∃ x1 m, HotZ X.A x1 m s.heap := by
  obtain ⟨p, m, ⟨hh, v1, e1, c1⟩, hp, hm⟩ := c
  cases m with
  | none => exact ⟨p.1, none, hh, p.2, v1, (I.pin p (List.mem_append_left _ hp)).1, e1, c1⟩
  | some q =>
    obtain ⟨c1, ne, v2, e2, c2⟩ := c1
    exact ⟨p.1, some q.1, hh, p.2, v1, (I.pin p (List.mem_append_left _ hp)).1, e1, c1, ne, q.2, v2, (I.pin q (List.mem_append_left _ (hm q rfl))).1, e2, c2⟩
/-- sum(xs), ints, an exception being handled -/
theorem cr_sumH {X : Cx} (hc : HotC X) : CallR X (.builtin "sum") (rSum X.K) := by
  intro pins s σ H xs us Q I r h
  obtain ⟨a, ns, rfl, hS, q⟩ := h
  cases r with
  | cons r1 rr =>
    cases rr
    cases (show _ = Value.ref a from r1)
    obtain ⟨its, rv, hl, _⟩ := I.list hS
    obtain ⟨x1, m, hot⟩ := hc.at I
    exact hot_sum hot hl.isList rv.ints fun h' tk t' hk => ⟨.int _, H, I.kept hk, ⟨_, rfl⟩, q⟩
end Lz
set_option Elab.async false
set_option linter.all false
set_option maxRecDepth 100000
set_option maxHeartbeats 4000000
namespace Lz
open PySem PySem.Spec PyProof.Rows L2 HotX
section
variable {X : Cx} {pins : List (Addr × Obj)} {σ : L2.St} {H : Hp} {s : Shared}
theorem HotP.at {A : Around} {p : Addr × Obj} {m : Option (Addr × Obj)} {h : Heap} (hot : HotP A p m) (k : ∀ q ∈ p :: m.toList, h.get? q.1 = some q.2) : HotZ A p.1 (m.map (·.1)) h := by
  obtain ⟨hh, vs, d1, c1⟩ := hot
  refine ⟨hh, p.2, vs, k p List.mem_cons_self, d1, ?_⟩
  cases m with
  | none => exact c1
  | some q =>
    obtain ⟨c1, ne, vs2, d2, c2⟩ := c1
    exact ⟨c1, ne, q.2, vs2, k q (by simp), d2, c2⟩
/-- .. or stops, the exception of the pin p being handled -/
theorem it_done {a it : Addr} {i : Nat} {E : Value → Shared → Prop} {p : Addr × Obj} {m : Option (Addr × Obj)} (I : Inv X pins σ H s) (hp : ∀ q ∈ p :: m.toList, q ∈ X.pn ++ pins) (hot : HotP X.A p m) (hf : FpOk X pins H it) (st : s.heap.IsListIter it a i) (hg : (Itl X.K a).stop i H) :
    wpAny (model X.prog X.w) X.A (pyNext (.ref it)) (fun r s1 => r = none ∧ Inv X pins σ H s1) E s := by
  obtain ⟨xs, hq, hx⟩ := hg
  obtain ⟨its, rv, pl, hz⟩ := I.list hq
  obtain ⟨f0, f1, f2, f3, f4, f5⟩ := hf
  have hl := rv.length
  have hz : HotZ X.A p.1 (m.map (·.1)) s.heap := hot.at fun q hq => (I.pin q (hp q hq)).1
  refine hot_end hz (fun b hb => ?_) st pl.isList (by simp; omega) fun h' eb => ⟨rfl, I.turned (t' := s.toks) (fun b o hb e => eb b o hb e) f0 f1 f3 f4 f5⟩
  rcases hb with rfl | hb
  · exact f5 p (hp p List.mem_cons_self)
  · cases m with
    | none => cases hb
    | some q => cases hb; exact f5 q (hp q (by simp))
end
section
variable {X : Cx}
/-- [elt for tg in l if ..], l a list, while an exception is handled -/
theorem pe_lcH {elt tg l : Expr} {ifs : List Expr} {scope : Scope} {own : List (Str × Nat)} {pos : Pos} {tl : TE} {g : TG} {tt : TT} {te : TE} (hc : HotC X) (hN : X.N.Nodup) (hl : PE X l tl) (ok : BlkOk X.N X.env.scope scope own)
    (hg : ∀ (s : Shared) (H : Hp) (C : Addr) (cl : List (Str × Addr)) (fp : List Addr), PG (X.blk s H scope (compEnvC scope cl C X.env) fp) tg g)
    (ht : ∀ (s : Shared) (H : Hp) (C : Addr) (cl : List (Str × Addr)) (fp : List Addr), PTs (X.blk s H scope (compEnvC scope cl C X.env) fp) ifs tt)
    (he : ∀ (s : Shared) (H : Hp) (C : Addr) (cl : List (Str × Addr)) (fp : List Addr), PE (X.blk s H scope (compEnvC scope cl C X.env) fp) elt te) (hs : ∀ x, foldedSetIterable l X.env x = pure x := by intro _; rfl) :
    PE X (.ListComp elt [⟨tg, l, ifs, 0⟩] scope pos) (tLc (iList X.K tl) g tt te (own.map (·.2))) := by
  refine ⟨fun pins s σ H Q I h => ?_⟩
  obtain ⟨p, mc, hot, hp0, hm0⟩ := hc
  have hp : ∀ q ∈ p :: mc.toList, q ∈ X.pn := fun q hq => by
    rcases List.mem_cons.mp hq with e | h
    · rw [e]; exact hp0
    · exact hm0 q (by cases mc <;> simp_all)
  rw [eval_ListComp]
  have hfree : ∀ y ∈ scope.names, y.2 = .free → ∃ c, X.env.cells.lookup y.1 = some c := fun y hy e =>
    (ok.free y hy e).elim (fun k => I.ok.has _ (.inl k)) (fun k => I.ok.has _ (.inr k))
  refine wpAny_comprehension_free (use := none) rfl hs (closure_ok hfree) ok.kind (fun y hy e => by rw [ok.uniq y hy, e])
    (thn (hl.run pins s σ H _ I h) fun xv s1 ⟨x1, H1, I1, r1, a, ea, ⟨xs, hq⟩, q⟩ => ?_)
  subst ea
  cases (show xv = Value.ref a from r1)
  obtain ⟨its, rv, pl, hz⟩ := I1.list hq
  refine wpAny_pyIter_list pl.isList ?_
  -- the iterator
  generalize hit : s1.heap.objs.size = it
  generalize hs2 : ({ s1 with heap := s1.heap.push { cls := .type "list_iterator", data := .fields #[.ref a, .int 0 0] } } : Shared) = s2
  have I2 : Inv X pins σ H1 s2 := by rw [← hs2]; exact I1.kept (t' := s1.toks) fun b o e => Heap.get?_push_of_some _ e
  have st2 : s2.heap.IsListIter it a 0 := by rw [← hs2, ← hit]; exact ⟨_, Heap.get?_push_size _ rfl, rfl, rfl⟩
  have f2 : FpOk X pins H1 it := I1.fpOk (Nat.le_of_eq hit) (I1.hok.fresh (Nat.le_of_eq hit))
  have lt2 : it < s2.heap.objs.size := by obtain ⟨o, e, _⟩ := st2; exact Heap.lt_size e
  refine wpAny_newObj_type (newEnv_comp ?_) (by show 0 ≤ sizeLine; decide)
  -- the new list
  generalize hD : s2.heap.objs.size = D
  have hDn : H1 D = none := I2.hok.fresh (Nat.le_of_eq hD)
  obtain ⟨W, ⟨m0, w0⟩, turn⟩ := q D hDn
  generalize hs3 : ({ s2 with heap := s2.heap.push { cls := .type "list", data := .seq ([] : List Value).toArray } } : Shared) = s3
  have h3 : s3.heap = s2.heap.push { cls := .type "list", data := .seq ([] : List Value).toArray } := by rw [← hs3]
  have I3 : Inv X pins σ (upd H1 D (.lst [])) s3 := by
    rw [← hs3]
    refine I2.laid (t' := s2.toks) (fun b o e => Heap.get?_push_of_some _ e) (Nat.le_of_eq hD) ⟨Nat.zero_le _, [], 0, .nil, ?_⟩
    rw [← hD]
    exact Heap.get?_push_size _ rfl
  generalize hH3 : upd H1 D (.lst []) = H3 at I3 w0
  have n3 : H3 it = none := by
    rw [← hH3, upd_ne (by rw [← hD]; exact Nat.ne_of_lt lt2)]
    exact f2.1
  have f3 : ∀ b ∈ [it], FpOk X pins H3 b ∧ b < s3.heap.objs.size := fun b hb => by
    have e : b = it := by simpa using hb
    rw [e]
    exact ⟨⟨n3, f2.2⟩, by rw [h3, Heap.size_push]; exact Nat.lt_succ_of_lt lt2⟩
  have st3 : s3.heap.IsListIter it a 0 := st2.at fun o e => by rw [h3]; exact Heap.get?_push_of_some _ e
  have I4 := block_start I3 ok hN f3
  have pg := hg s3 H3 s3.heap.objs.size (cellsFrom (s3.heap.objs.size + 1) scope.names (cloFrom X.env.cells scope.names [])) [it]
  have pt := ht s3 H3 s3.heap.objs.size (cellsFrom (s3.heap.objs.size + 1) scope.names (cloFrom X.env.cells scope.names [])) [it]
  have pe := he s3 H3 s3.heap.objs.size (cellsFrom (s3.heap.objs.size + 1) scope.names (cloFrom X.env.cells scope.names [])) [it]
  generalize hce : compEnvC scope (cellsFrom (s3.heap.objs.size + 1) scope.names (cloFrom X.env.cells scope.names [])) s3.heap.objs.size X.env = ce at I4 pg pt pe
  have cL : ce.locals = s3.heap.objs.size := by subst hce; rfl
  generalize hs4 : ({ s3 with heap := pushCells (s3.heap.push { cls := .type "dict", data := .dict #[] }) scope.names } : Shared) = s4 at I4
  have kp4 : ∀ b o, s3.heap.get? b = some o → s4.heap.get? b = some o := fun b o e => by rw [← hs4]; exact pushCells_keeps _ _ _ _ (Heap.get?_push_of_some _ e)
  have st4 : s4.heap.IsListIter it a 0 := st3.at fun o e => kp4 _ _ e
  have I5 : Inv (X.blk s3 H3 scope ce [it]) (p :: mc.toList) (wipe σ (own.map (·.2))) H3 s4 := I4.pins_of fun r hr => by
    have P3 := I3.pin r (List.mem_append_left _ (hp r hr))
    refine ⟨kp4 _ _ P3.1, P3.2.1, ?_, fun z => ?_, P3.2.2.2.2⟩
    · show r.1 ≠ ce.locals
      rw [cL]; exact Nat.ne_of_lt (Heap.lt_size P3.1)
    · exact (List.mem_cons.mp (I3.stkSub r.1 z)).elim P3.2.2.1 P3.2.2.2.1
  have nip : ∀ r ∈ p :: mc.toList, r.1 ≠ it := fun r hr => f2.2.2.2.2.2 r (List.mem_append_left _ (hp r hr))
  have stat : ∀ {σ' : L2.St} {H' : Hp} {s' : Shared}, Inv (X.blk s3 H3 scope ce [it]) (p :: mc.toList) σ' H' s' → H' it = none → FpOk (X.blk s3 H3 scope ce [it]) (p :: mc.toList) H' it := fun {σ' H' s'} J hn =>
    ⟨hn, (J.ok.exf it (by simp)).1, J.ok.exfs it (by simp), .inl (by simp), fun x c e => (J.ok.exf it (by simp)).2 x c e, fun r hr => by
      exact nip r (show r ∈ ([] : List (Addr × Obj)) ++ (p :: mc.toList) from hr)⟩
  show codeAny _ _ (.compStart (.ListComp elt [⟨tg, l, ifs, 0⟩] scope pos) 0 (.ref it) (.ref D) (compEnvC scope (cellsFrom (s3.heap.objs.size + 1) scope.names (cloFrom X.env.cells scope.names [])) s3.heap.objs.size X.env)) _ _
  rw [hce]
  have fin : codeAny (model X.prog X.w) X.A (.compLoop (.ListComp elt [⟨tg, l, ifs, 0⟩] scope pos) 0 (.ref it) (.ref D) ce) (compPost (model X.prog X.w) X.A X.xe none (EP X pins σ Q) (.ref D) s3.heap.objs.size) s4 := by
    refine compLoop_any (fun n s' => ∃ i H', Inv (X.blk s3 H3 scope ce [it]) (p :: mc.toList) (wipe σ (own.map (·.2))) H' s' ∧ s'.heap.IsListIter it a i ∧ H' it = none ∧ W i n H') ?_ m0 ⟨0, H3, I5, st4, n3, w0⟩
    rintro n s5 ⟨i, H5, J5, st5, n5, w5⟩
    rcases turn i n H5 w5 with ⟨stop, qq⟩ | ⟨go, Nx, hNx, step⟩
    · refine thnF (it_done (X := X.blk s3 H3 scope ce [it]) J5 (fun q hq => (show q ∈ ([] : List (Addr × Obj)) ++ (p :: mc.toList) from hq)) hot (stat J5 n5) st5 stop) fun r s6 ⟨hr, J6⟩ => ?_
      subst hr
      have J7 : Inv X pins σ H5 s6 := I3.call' (ch := [it]) J6.os J6.base J6.hok J6.bare fun b hb => by
        obtain ⟨⟨_, z1, _, z2, z3, z4⟩, _⟩ := f3 b hb
        exact ⟨z2, z1, z3, z4⟩
      have nC : H5 s3.heap.objs.size = none := by
        have z : H5 ce.locals = none := J6.free
        rw [cL] at z
        exact z
      obtain ⟨m, hn, _⟩ := J6.loc
      have hn : s6.heap.Ns ce.locals m := hn
      rw [cL] at hn
      obtain ⟨f0, f1, _, f4, f5, f6⟩ := I3.fpOk (H' := H5) (Nat.le_refl _) nC
      exact ⟨m, hn, fun h'' sb => ⟨.ref D, H5, J7.turned (t' := s6.toks) (fun b o hb e => (sb.2 b hb).trans e) f0 f1 f4 f5 f6, rfl, qq⟩⟩
    · refine thnF (Lk.it_item (X := X.blk s3 H3 scope ce [it]) (tg := tg) J5 (stat J5 n5) st5 go) fun r s6 ⟨u, hr, h6⟩ => ?_
      subst hr
      refine thnF h6 fun _ s7 ⟨x, J7, r7, y7, st7⟩ => ?_
      have J8 := J7.pinned (fp := [it]) (fun b hb => by
        have e : b = it := by simpa using hb
        rw [e]; exact stat J7 n5) (fun b hb => by
        have e : b = it := by simpa using hb
        rw [e]
        obtain ⟨o, e1, _, e3⟩ := id st7
        exact ⟨o, e1, fun v z => by rw [e3] at z; cases z⟩)
      refine thnF (pg.run _ s7 _ H5 x u _ J8 r7 (step x H5 y7)) fun _ s8 ⟨σ8, H8, J9, hw8, q8⟩ => ?_
      refine thnF (pt.run _ s8 σ8 H8 _ J9 q8) fun b s9 ⟨H9, J10, q9⟩ => ?_
      have over : ∀ {s' : Shared} {H' : Hp}, Inv (X.blk s3 H3 scope ce [it]) ((p :: mc.toList) ++ pinsAt [it] s7.heap) σ8 H' s' → Nx H' →
          ∃ m, m < n ∧ ∃ i H', Inv (X.blk s3 H3 scope ce [it]) (p :: mc.toList) (wipe σ (own.map (·.2))) H' s' ∧ s'.heap.IsListIter it a i ∧ H' it = none ∧ W i m H' := fun {s' H'} J nx => by
        obtain ⟨m', hm, w'⟩ := hNx H' nx
        obtain ⟨o, e1, _⟩ := id st7
        have z := J.pin (it, o) (List.mem_append_right _ (List.mem_append_right _ (mem_pinsAt (by simp) e1)))
        have hl8 : (wipe σ (own.map (·.2))).length = σ8.length := by rw [← hw8, wipe_length]
        refine ⟨m', hm, i + 1, H', J.unpinned.weak hl8 (fun j v e => ?_), st7.at fun o' e' => ?_, z.2.1, w'⟩
        · rw [← hw8] at e
          exact (wipe_some e).1
        · rw [e1] at e'; cases e'
          exact z.1
      cases b with
      | false =>
        simp only [Bool.false_eq_true, if_false] at q9 ⊢
        exact over J10 q9
      | true =>
        simp only [if_true] at q9 ⊢
        refine thnF (pe.run _ s9 σ8 H9 _ J10 q9) fun z s10 ⟨yv, H10, J11, r10, acc, hD10, hz10, nx⟩ => ?_
        exact app_ok (X := X.blk s3 H3 scope ce [it]) J11 hD10 hz10 r10 fun s11 J12 => over J12 nx
  exact codeAny_compStart_list fin (wpAny_pyIter_listiter st4 fin)
end
end Lz
set_option Elab.async false
set_option linter.all false
set_option maxRecDepth 100000
set_option maxHeartbeats 4000000
/-! Exceptions in flight that may have a context, which has none itself. -/
namespace Lm
open PySem PySem.Spec PyProof.Rows L2
/-- the context is None, or stands in the ground B, untracked, and has none itself -/
def Cm (B : Heap) (H : Hp) (o : Obj) : Prop := ∀ vs : Array Value, o.data = .fields vs → vs[2]? = some .none ∨
  ∃ (x2 : Addr) (o2 : Obj) (vs2 : Array Value), vs[2]? = some (.ref x2) ∧ B.get? x2 = some o2 ∧ o2.data = .fields vs2 ∧ vs2[2]? = some .none ∧ H x2 = none
def Zm (B : Heap) (H : Hp) (cls : Value) (d : Option Addr) : Obj → Prop := fun o => o.cls = cls ∧ o.dict = d ∧ Cm B H o
theorem Cm.steady {B : Heap} {H : Hp} : PXN.Steady1 (Cm B H) := fun o v h => by
  obtain ⟨c, d, dt, sl⟩ := o
  intro vs e
  cases dt with
  | fields vs0 =>
    cases (show Data.fields (vs0.setIfInBounds 1 v) = .fields vs from e)
    rw [show (vs0.setIfInBounds 1 v)[2]? = vs0[2]? by simp [Array.getElem?_setIfInBounds]]
    exact h vs0 rfl
  | _ => first | exact Data.noConfusion e | cases e
theorem Zm.steady {B : Heap} {H : Hp} {cls : Value} {d : Option Addr} : PXN.Steady1 (Zm B H cls d) := fun o v h => ⟨PXN.steady_cls o v h.1, PXN.steady_dict o v h.2.1, Cm.steady o v h.2.2⟩
theorem Zm.zc {B : Heap} {H : Hp} {cls : Value} {d : Option Addr} {o : Obj} (h : Zm B H cls d o) : Zc cls d o := ⟨h.1, h.2.1⟩
theorem Zm.of {B : Heap} {H : Hp} {cls : Value} {d : Option Addr} {o : Obj} (h : L2N.Zn cls d o) : Zm B H cls d o := ⟨h.1, h.2.1, fun vs e => .inl (h.2.2 vs e)⟩
/-- in the air of X -/
def XE (X : Cx) (W : WX) (u : Value) (s' : Shared) : Prop := ∃ (a : Addr) (B : Heap) (sI : Shared) (pins : List (Addr × Obj)) (σ : L2.St) (H : Hp) (cls : Value) (d : Option Addr),
  u = .ref a ∧ Inv X pins σ H sI ∧ (∀ b o, sI.heap.get? b = some o → b ∉ frs X.stack → B.get? b = some o) ∧ sI.heap.UpToSlots s'.heap ∧
    Sky B X.stack a (Zm B H cls d) X.env.locals s'.heap ∧ H a = none ∧ s'.os = sI.os ∧ AllBare s'.gens ∧ W cls d σ H
def Takes (X : Cx) (W : WX) : Prop := ∀ u s', XE X W u s' → X.xe u s'
/-- let out by a call -/
def CX (P : Program) (w : World) (outer : List Env) (H : Hp) (s : Shared) (E : XK) (u : Value) (s' : Shared) : Prop := ∃ (a : Addr) (B : Heap) (H' : Hp) (cls : Value) (d : Option Addr),
  u = .ref a ∧ HandSPX.FlyingZ B outer a (Zm B H' cls d) s'.heap ∧ HOk P w H' B ∧ UB (frs outer) H H' s.heap B s'.heap ∧ H' a = none ∧ s'.os = s.os ∧ AllBare s'.gens ∧ E cls d H'
section
variable {X : Cx} {pins : List (Addr × Obj)} {σ : L2.St} {H : Hp} {sI s s' : Shared} {B : Heap} {W : WX} {E : XK}
theorem XE.of_call (I : Inv X pins σ H s) (hW : ∀ cls d H', E cls d H' → W cls d σ H') {u : Value} (c : CX X.prog X.w X.stack H s E u s') : XE X W u s' := by
  obtain ⟨a, B, H', cls, d, rfl, fl, hok, ub, na, os, ag, hE⟩ := c
  have st := fl.1
  obtain ⟨G, g1, g2⟩ := restrict s'.heap fun b => (B.get? b).isSome || decide (b ∈ frs X.stack)
  have gB : ∀ b o, B.get? b = some o → G.get? b = some o := fun b o e => (g1 b (by simp [e])).trans (st b o e)
  have gF : ∀ b, b ∈ frs X.stack → G.get? b = s'.heap.get? b := fun b hb => g1 b (by simp [hb])
  have og : ∀ b o, G.get? b = some o → s'.heap.get? b = some o ∧ ((B.get? b).isSome = true ∨ b ∈ frs X.stack) := fun b o e => by
    by_cases q : ((B.get? b).isSome || decide (b ∈ frs X.stack)) = true
    · exact ⟨(g1 b q).symm.trans e, by simpa using q⟩
    · rw [g2 b (by simpa using q)] at e; cases e
  have J : Inv X pins σ H' { s with heap := G, gens := s'.gens, drawn := s'.drawn, toks := s'.toks } := by
    refine I.call (ch := []) ⟨fun b o e n hb _ => gB b o (ub.keep b o e n hb), fun b o e n hb _ => ?_, fun b o e n _ => ub.free b o e n, fun b o e _ => ?_, ub.tups, ub.frzs, ub.tbls⟩ (hok.kept gB) ag (fun _ z => nomatch z)
    · obtain ⟨sl, q⟩ := ub.slot b o e hb
      exact ⟨sl, (gF b hb).trans q⟩
    · by_cases hb : b ∈ frs X.stack
      · obtain ⟨sl, q⟩ := ub.slot b o e hb
        exact ⟨_, (gF b hb).trans q⟩
      · obtain ⟨o', q⟩ := ub.there b o e hb
        exact ⟨o', gB b o' q⟩
  refine ⟨a, B, _, pins, σ, H', cls, d, rfl, J, fun b o e hb => ?_, Heap.UpToSlots.of_keeps fun b o e => (og b o e).1, .inr (.inl fl), na, os, ag, hW _ _ _ hE⟩
  obtain ⟨e1, h | h⟩ := og b o e
  · obtain ⟨o', q⟩ := Option.isSome_iff_exists.mp h
    have z := (st b o' q).symm.trans e1
    cases z
    exact q
  · exact absurd h hb
/-- a new one; zm: what is known of it over the ground -/
theorem XE.new {a : Addr} {oe : Obj} {vs : Array Value} {cls : Value} {d : Option Addr} (I : Inv X pins σ H sI) (k : ∀ b o, sI.heap.get? b = some o → s'.heap.get? b = some o) (hne : sI.heap.get? a = none) (he : s'.heap.get? a = some oe)
    (zm : Zm (PySem.W.hideAll sI.heap (frs X.stack)) H cls d oe) (hd : oe.data = .fields vs) (h1 : vs[1]? = some .none) (na : H a = none) (os : s'.os = sI.os) (ag : AllBare s'.gens) (w : W cls d σ H) : XE X W (.ref a) s' := by
  have gone : (PySem.W.hideAll sI.heap (frs X.stack)).get? a = none := by
    cases q : (PySem.W.hideAll sI.heap (frs X.stack)).get? a with
    | none => rfl
    | some o => exact absurd ((PySem.W.of_hideAll _ q).symm.trans hne) (fun z => nomatch z)
  have ff := Heap.FunFrames.of_keeps (fun b o e _ => ⟨o, k b o e, rfl⟩) (funFrames_none I.stack fun b hb => PySem.W.hideAll_none (h := sI.heap) _ hb)
  exact ⟨a, _, sI, pins, σ, H, cls, d, rfl, I, fun b o e hb => PySem.W.hideAll_get _ e hb, Heap.UpToSlots.of_keeps k, .inl ⟨fun b o e => k b o (PySem.W.of_hideAll _ e), gone, ff, oe, vs, he, zm, hd, h1⟩, na, os, ag, w⟩
/-- out of the def -/
theorem XE.leave (hs : X.stack = X.env :: X.outer) (hf : X.env.frame = some X.env.locals) (hex : X.ex = []) {E₁ : Value → Shared → Prop} (hW : ∀ cls d σ H, W cls d σ H → E cls d H) {u : Value} (x : XE X W u s') :
    wpAny (model X.prog X.w) X.A (leaving X.env u) (fun _ s'' => CX X.prog X.w X.outer X.H_0 X.s_0 E u s'') E₁ s' := by
  obtain ⟨a, B, sI, pins, σ, H, cls, d, rfl, I, nb, up, sky, na, os, ag, w⟩ := x
  have hfr : X.A.frames = some (X.env :: X.outer) := I.ok.frames.trans (by rw [hs])
  have hex' : ∀ b, b ∉ X.ex := fun b hb => by rw [hex] at hb; cases hb
  have nst : ∀ b o, X.s_0.heap.get? b = some o → b ∉ X.fs → b ∉ frs X.stack := fun b o e hb hm => by
    rcases List.mem_cons.mp (I.stkSub b hm) with z | z
    · have h1 := Heap.lt_size e
      have h2 := I.ok.above
      rw [z] at h1
      exact Nat.lt_irrefl _ (Nat.lt_of_lt_of_le h1 h2)
    · exact hb z
  have fin : ∀ h', HandSPX.FlyingZ B X.outer a (Zm B H cls d) h' → s'.heap.UpToSlots h' → CX X.prog X.w X.outer X.H_0 X.s_0 E (.ref a) { s' with heap := h' } := fun h' fl up' => by
    refine ⟨a, B, H, cls, d, rfl, fl, I.inGround nb, ⟨fun b o e n hb => nb b o (I.base.keep b o e n hb (hex' b)) (nst b o e hb), fun b o e hb => ?_, fun b o e n => I.base.free b o e n (hex' b), fun b o e hb => ?_, I.base.tups, I.base.frzs, I.base.tbls⟩, na, os.trans I.os, ag, hW _ _ _ _ w⟩
    · obtain ⟨_, o₀, e₀, hnf⟩ := I.ok.funs.mem hb
      cases e.symm.trans e₀
      obtain ⟨sl, e1⟩ := I.base.slot b o e (I.ok.frf b hb) hb (hex' b)
      obtain ⟨sl2, e2⟩ := up b _ e1 hnf
      exact (up' b _ e2 hnf).elim fun sl3 e3 => ⟨sl3, e3⟩
    · obtain ⟨o', e1⟩ := I.base.there b o e (hex' b)
      exact ⟨o', nb b o' e1 (nst b o e hb)⟩
  rw [hs] at sky
  rcases sky with ⟨hB, hn, hl, oe, vs, he, hz, hd, h1⟩ | fl | hd
  · exact PXN.leaving_firstZ Zm.steady hfr hl hf he hB hn hd h1 hz fin
  · exact PXN.leaves_onZ Zm.steady hfr hf fl fin
  · exact HandSPX.leaves_heldZ hf hd fin
theorem takes_of (hs : X.stack = X.env :: X.outer) (hf : X.env.frame = some X.env.locals) (hex : X.ex = []) {E₁ : Value → Shared → Prop}
    (hx : X.xe = fun e s' => wpAny (model X.prog X.w) X.A (leaving X.env e) (fun _ s'' => CX X.prog X.w X.outer X.H_0 X.s_0 E e s'') E₁ s') : Takes X (fun cls d _ H => E cls d H) := fun u s' x => by
  rw [hx]
  exact XE.leave (W := fun cls d _ H => E cls d H) (E := E) hs hf hex (fun _ _ _ _ h => h) x
theorem passes_call (tk : Takes X W) (hW : ∀ cls d σ H, E cls d H → W cls d σ H) : Passes (CX X.prog X.w) X E := fun _ σ _ _ e s' I c => tk e s' (XE.of_call I (fun cls d H' h => hW cls d σ H' h) c)
end
theorem ps_raise {X : Cx} {W : WX} {e : Expr} {t : L2.St → Hp → XK → Prop} {pos : Pos} (hc : X.calm = true) (tk : Takes X W) (he : L2N.PMk X e t) : PS X (.Raise (some e) none pos) (fun _ σ H => t σ H fun cls d H' => W cls d σ H') := by
  refine ⟨fun pins s σ H D I h => ?_⟩
  show wpAny _ _ (do standAt pos; raiseStmt X.env (some (do let v ← eval e X.env; standAt pos; pure v)) none) _ _ _
  refine wpAny_bind (wpAny_standAt (raise_made (I.ok.hd hc) (wpAny_bind (thn (he pins s σ H _ I h) fun u s1 hu => wpAny_bind (wpAny_standAt (wpAny_pure ?_))))))
  obtain ⟨a, oe, vs, sI, H', cls, d, rfl, J, k, hne, ha, hz, hd, h1, na, os, ag, r, q⟩ := hu
  obtain ⟨r1, r2⟩ := r (model X.prog X.w) s1.heap (J.kIn.keeps k)
  exact ⟨a, oe, vs, cls, rfl, ha, hz.1, hd, h1, r1, r2, tk _ _ (XE.new J k hne ha (Zm.of hz) hd h1 na os ag q)⟩
/-- raise in an except suite: the handled exception, which has no context, becomes the context -/
theorem ps_raiseH {X : Cx} {W : WX} {e : Expr} {t : L2.St → Hp → XK → Prop} {pos : Pos} (hc : L2H.HotC X) (tk : Takes X W) (he : L2N.PMk X e t) : PS X (.Raise (some e) none pos) (fun _ σ H => t σ H fun cls d H' => W cls d σ H') := by
  refine ⟨fun pins s σ H D I h => ?_⟩
  obtain ⟨p, ⟨hh, v1, e1, c1⟩, hp⟩ := hc
  show wpAny _ _ (do standAt pos; raiseStmt X.env (some (do let v ← eval e X.env; standAt pos; pure v)) none) _ _ _
  refine wpAny_bind (wpAny_standAt (HotX.raise_made_hot (x1 := p.1) (wpAny_bind (thn (he pins s σ H _ I h) fun u s1 hu => wpAny_bind (wpAny_standAt (wpAny_pure ?_))))))
  obtain ⟨a, oe, vs, sI, H', cls, d, rfl, J, k, hne, ha, hz, hd, h1, na, os, ag, r, q⟩ := hu
  obtain ⟨r1, r2⟩ := r (model X.prog X.w) s1.heap (J.kIn.keeps k)
  obtain ⟨P1, P2, P3, P4, _⟩ := J.pin p (List.mem_append_left _ hp)
  have nap : p.1 ≠ a := fun z => by rw [z, hne] at P1; cases P1
  have nst : p.1 ∉ frs X.stack := fun hm => (List.mem_cons.mp (J.stkSub p.1 hm)).elim P3 P4
  have hi : 2 < vs.size := (Array.getElem?_eq_some_iff.mp (hz.2.2 vs hd)).1
  have h12 : (vs.setIfInBounds 2 (Value.ref p.1))[1]? = some Value.none := by rw [show (vs.setIfInBounds 2 (Value.ref p.1))[1]? = vs[1]? by simp [Array.getElem?_setIfInBounds]]; exact h1
  have hd2 := Obj.data_mapFields hd (·.setIfInBounds 2 (Value.ref p.1))
  refine ⟨a, oe, vs, cls, rfl, ha, hz.1, hd, h1, hi, nap, ⟨hh, p.2, v1, k _ _ P1, e1, c1⟩, r1, r2, tk _ _ (XE.new J (fun b u z => ?_) hne (Heap.get?_update_self _ ha (Obj.isFreed_of_fields hd2))
    ⟨(Obj.cls_mapFields ..).trans hz.1, (HandSPX.dict_mapFields ..).trans hz.2.1, fun ws ew => .inr ⟨p.1, p.2, v1, ?_, PySem.W.hideAll_get _ P1 nst, e1, c1, P2⟩⟩ hd2 h12 na os ag q)⟩
  · have nab : a ≠ b := fun y => by rw [← y, hne] at z; cases z
    show (s1.heap.update a (Obj.mapFields (·.setIfInBounds 2 (.ref p.1)))).get? b = some u
    rw [Heap.get?_update_other _ _ nab]
    exact k b u z
  · cases hd2.symm.trans ew
    simp [hi]
end Lm
set_option Elab.async false
set_option linter.all false
set_option maxRecDepth 100000
set_option maxHeartbeats 4000000
/-! try: an exception on the ground, its clause, its suite. -/
namespace Lm
open PySem PySem.Spec PyProof.Rows L2
/-- the exception at a stands on the ground of X's own frame -/
structure Lnd (X : Cx) (pins : List (Addr × Obj)) (a : Addr) (B : Heap) (Z : Obj → Prop) (σ : L2.St) (H : Hp) (s : Shared) : Prop where
  ex : ∃ sI : Shared, Inv X pins σ H sI ∧ (∀ b o, sI.heap.get? b = some o → b ∉ frs X.stack → B.get? b = some o) ∧ sI.heap.UpToSlots s.heap ∧ s.os = sI.os ∧ AllBare s.gens
  fl : HandSPX.FlyingZ B (X.env :: X.outer) a Z s.heap
  na : H a = none
section
variable {X : Cx} {pins : List (Addr × Obj)} {a : Addr} {B : Heap} {Z : Obj → Prop} {σ : L2.St} {H : Hp} {s : Shared} {D : Ends} {cls : Value} {d : Option Addr}
theorem Lnd.inv (L : Lnd X pins a B Z σ H s) : Inv X pins σ H s := by
  obtain ⟨sI, J, nb, up, os, ag⟩ := L.ex
  exact J.landed nb L.fl.1 up os ag
theorem Lnd.on (L : Lnd X pins a B Z σ H s) {h : Heap} (fl : HandSPX.FlyingZ B (X.env :: X.outer) a Z h) (u : s.heap.UpToSlots h) : Lnd X pins a B Z σ H { s with heap := h } := by
  obtain ⟨sI, J, nb, up, os, ag⟩ := L.ex
  exact ⟨⟨sI, J, nb, up.trans u, os, ag⟩, fl, L.na⟩
theorem Lnd.off (L : Lnd X pins a B Z σ H s) : a ∉ frs (X.env :: X.outer) := fun hm => by
  obtain ⟨oe, vs, he, _, hd⟩ := L.fl.there
  obtain ⟨_, o', e', hnf⟩ := L.fl.2.2.1.mem hm
  cases he.symm.trans e'
  exact hnf _ hd
theorem offs {b : Addr} (hf : X.env.frame = some X.env.locals) (h : b ∉ frs (X.env :: X.outer)) : b ≠ X.env.locals ∧ b ∉ X.fs :=
  ⟨fun z => h (List.mem_filterMap.mpr ⟨X.env, List.mem_cons_self, by rw [hf, z]⟩), fun hm => by
    obtain ⟨e, he, q⟩ := List.mem_filterMap.mp hm
    exact h (List.mem_filterMap.mpr ⟨e, List.mem_cons_of_mem _ he, q⟩)⟩
/-- the clause's name is asked -/
theorem Lnd.ask {x : Str} {c : Value} {np : Pos} {b : Bool} {Q : Bool → Shared → Prop} {E : Value → Shared → Prop} (L : Lnd X pins a B Z σ H s) (hf : X.env.frame = some X.env.locals) (hZ : ∀ o, Z o → o.cls = cls) (hc : Names X x c) (hb : PySem.W.exmOne X.K cls c = some b) (q : Q b s) :
    wpAny (model X.prog X.w) (X.A.mark (some (.ref a))) (eval (.Name x np) X.env) (fun v s1 => wpAny (model X.prog X.w) (X.A.mark (some (.ref a))) (excMatches (.ref a) v) Q E s1) E s := by
  obtain ⟨oe, vs, he, hz, hd⟩ := L.fl.there
  obtain ⟨nL, nF⟩ := offs hf L.off
  have S := L.inv.suite he hd L.na nL nF
  have LT : PySem.W.Looks (model X.prog X.w) s.heap (typeOf (.ref a)) cls := fun A Q E s k q => wpAny_typeOf_ref (k _ _ he) (by rw [hZ _ hz]; exact q)
  have LM := PySem.W.exm_one (M := model X.prog X.w) L.inv.kIn LT hb
  obtain ⟨hg, hdbg, hm | ⟨hm, hv, hnn⟩⟩ := hc
  · exact ld_glob (X := X.suite a ((a, oe) :: (X.pn ++ pins))) S hg hm (LM.here q) hdbg
  · exact ld_blt (X := X.suite a ((a, oe) :: (X.pn ++ pins))) S hg hm hv (LM.here q) hnn hdbg
/-- no clause takes it: it flies on -/
theorem Lnd.pass {Wout : WX} (L : Lnd X pins a B Z σ H s) (hs : X.stack = X.env :: X.outer) (hf : X.env.frame = some X.env.locals) (hZ : ∀ o, Z o → Zm B H cls d o) (tk : Takes X Wout) (w : Wout cls d σ H) :
    wpAny (model X.prog X.w) X.A (handleBy (.ref a) X.env []) (SP X pins D) X.xe s := by
  obtain ⟨sI, J, nb, up, os, ag⟩ := L.ex
  have fl := L2H.flyingZ_imp hZ L.fl
  have fin : wpAny (model X.prog X.w) X.A (setFlight (.ref a) X.env.frame) (fun _ s4 => wpAny (model X.prog X.w) X.A (throw (.ref a) : Sem Flow) (SP X pins D) X.xe s4) X.xe s := by
    rw [hf]
    exact HandSPX.setFlight_upZ fl fun h4 hh4 up4 => wpAny_throw (tk _ _ ⟨a, B, sI, pins, σ, H, cls, d, rfl, J, nb, up.trans up4, .inr (.inr (by rw [hs]; exact hh4)), L.na, os, ag, w⟩)
  obtain ⟨_, _, _, oe, vs, T, _, _, he, _, hd, h1, _⟩ := id fl
  refine wpAny_handleBy_nil ?_
  unfold PySem.passOn
  refine wpAny_bind (wpAny_field he hd h1 ?_)
  rw [if_neg (show ¬ ((Value.ref T == Value.none) = true) from by simp)]
  first
    | exact wpAny_bind (wpAny_pure (wpAny_bind fin))
    | exact wpAny_bind fin
/-- in the suite: the handled exception and its context are pinned -/
theorem Lnd.hot (L : Lnd X pins a B Z σ H s) (hs : X.stack = X.env :: X.outer) (hf : X.env.frame = some X.env.locals) (hZ : ∀ o, Z o → Zm B H cls d o) : ∃ (oe : Obj) (m : Option (Addr × Obj)), Zc cls d oe ∧ (∃ vs, oe.data = .fields vs) ∧
    Lz.HotP (X.A.mark (some (.ref a))) (a, oe) m ∧ Inv (X.suite a ((a, oe) :: (X.pn ++ (m.toList ++ pins)))) [] σ H s := by
  obtain ⟨oe, vs, he, hz, hd⟩ := L.fl.there
  obtain ⟨nL, nF⟩ := offs hf L.off
  have zm := hZ _ hz
  have J := L.inv
  rcases zm.2.2 vs hd with c | ⟨x2, o2, vs2, c1, g2, d2, c2, n2⟩
  · exact ⟨oe, none, zm.zc, ⟨vs, hd⟩, ⟨rfl, vs, hd, c⟩, J.suite he hd L.na nL nF⟩
  · have g3 := L.fl.1 x2 o2 g2
    have off : x2 ∉ frs (X.env :: X.outer) := fun hm => by
      obtain ⟨_, o', e', hnf⟩ := L.fl.2.2.1.mem hm
      cases g3.symm.trans e'
      exact hnf _ d2
    obtain ⟨nL2, nF2⟩ := offs hf off
    have ne : x2 ≠ a := fun z => by rw [z, L.fl.2.1] at g2; cases g2
    have J2 : Inv X ([(x2, o2)] ++ pins) σ H s := J.pins_of fun p hp => by
      rcases List.mem_cons.mp hp with e | h
      · rw [e]; exact ⟨g3, n2, nL2, nF2, fun v z => by have z' : o2.data = .cell v := z; rw [d2] at z'; cases z'⟩
      · exact J.pin p (List.mem_append_right _ h)
    exact ⟨oe, some (x2, o2), zm.zc, ⟨vs, hd⟩, ⟨rfl, vs, hd, c1, ne, vs2, d2, c2⟩, J2.suite he hd L.na nL nF⟩
end
/-- noted, then on the ground -/
theorem land_of {X : Cx} {pins : List (Addr × Obj)} {B : Heap} {a : Addr} {sI s' : Shared} {σ : L2.St} {H : Hp} {Z : Obj → Prop} {E₁ : Value → Shared → Prop} {Q : Unit → Shared → Prop} (hZ : PXN.Steady1 Z) (hs : X.stack = X.env :: X.outer) (hf : X.env.frame = some X.env.locals) (J : Inv X pins σ H sI)
    (nb : ∀ b o, sI.heap.get? b = some o → b ∉ frs X.stack → B.get? b = some o) (up : sI.heap.UpToSlots s'.heap) (sky : Sky B X.stack a Z X.env.locals s'.heap) (na : H a = none) (os : s'.os = sI.os) (ag : AllBare s'.gens)
    (hQ : ∀ h3, Lnd X pins a B Z σ H { s' with heap := h3 } → Q () { s' with heap := h3 }) :
    wpAny (model X.prog X.w) X.A (noteFrame (.ref a) X.env) (fun _ s₂ => wpAny (model X.prog X.w) X.A (setFlight (.ref a) none) Q E₁ s₂) E₁ s' := by
  have hfr : X.A.frames = some (X.env :: X.outer) := J.ok.frames.trans (by rw [hs])
  exact L2N.Sky.land hZ hfr hf (by rw [← hs]; exact sky) fun h3 fl3 up3 => hQ h3 ⟨⟨sI, J, nb, up.trans up3, os, ag⟩, fl3, na⟩
section
variable {X : Cx} {x n : Str} {c : Value} {i : Nat} {body suite orelse : List Stmt} {b₀ : Stmt} {np pos pos' : Pos} {tb : WX → TS} {ts : Addr → Value → Option Addr → TS} {Wout : WX} {u : TS}
/-- try: .. except x as n: .. -/
theorem ps_try_as (hs : X.stack = X.env :: X.outer) (hf : X.env.frame = some X.env.locals) (hN : X.N.Nodup) (hi : X.N[i]? = some n) (hln : X.env.kindOf n = some .local) (hc : Names X x c) (tk : Takes X Wout)
    (hb : ∀ (W : WX) (pn : List (Addr × Obj)) (xe : Value → Shared → Prop), Takes (X.tr pn xe) W → PSs (X.tr pn xe) body (tb W))
    (hsu : ∀ (a : Addr) (oe : Obj) (m : Option (Addr × Obj)) (cls : Value) (d : Option Addr) (pn : List (Addr × Obj)), Zc cls d oe → (∃ vs, oe.data = .fields vs) → Lz.HotP (X.A.mark (some (.ref a))) (a, oe) m → (∀ q, m = some q → q ∈ pn) →
      PSs (X.suite a ((a, oe) :: pn)) (b₀ :: suite) (ts a cls d)) :
    PS X (.Try body [.ExceptHandler (some (.Name x np)) (some n) (b₀ :: suite) pos'] [] [] pos) (fun D σ H => tb (wAs X.K c i ts Wout D) D σ H) := by
  refine ⟨fun pins s σ H D I h => ?_⟩
  have ok := I.ok
  refine wpAny_Try_except (wpAny_mono ((hb (wAs X.K c i ts Wout D) (X.pn ++ pins) (fun e s₁ => wpAny (model X.prog X.w) X.A (noteFrame e X.env) (fun _ s₂ => wpAny (model X.prog X.w) X.A (setFlight e none) (fun _ s₃ =>
    wpAny (model X.prog X.w) X.A (handleBy e X.env [.ExceptHandler (some (.Name x np)) (some n) (b₀ :: suite) pos']) (SP X pins D) X.xe s₃) X.xe s₂) X.xe s₁) (fun u s' xx => ?_)).run [] s σ H D (I.toTry _) h) (fun f s1 hsp => ?_) (fun e s1 he => he))
  · obtain ⟨a, B, sI, pins', σ', H', cls, d, rfl, J', nb, up, sky, na, os, ag, b, hb1, hyes, hno⟩ := xx
    refine land_of Zm.steady hs hf (J'.ofTry ok) nb up sky na os ag fun h3 L => ?_
    refine wpAny_handleBy_cons (codeAny_handlers_test (L.ask hf (fun o z => z.1) hc hb1 ?_)) (by intro q; cases q)
    cases b with
    | false => exact L.pass hs hf (fun _ z => z) tk (hno rfl)
    | true =>
      refine codeAny_handlers_suite_as (HandSPX.lands_againZ L.fl fun h4 fl4 up4 => ?_)
      have L4 := L.on fl4 up4
      obtain ⟨oe, m, zc, hfs, hot, S⟩ := L4.hot hs hf (fun _ z => z)
      refine store_ok (X := X.suite a ((a, oe) :: (X.pn ++ (m.toList ++ pins)))) (v := .ref a) S hN hi (.inl hln) rfl (fun s5 S5 => ?_) (.inr hln)
      refine wpAny_mono ((hsu a oe m cls d _ zc hfs hot (fun q e => by rw [e]; simp)).run [] s5 _ H' _ S5 (hyes rfl a na)) (fun f s6 hsp => ?_) (fun _ _ z => False.elim z)
      have end_ : ∀ {σ6 : L2.St} {H6 : Hp} {Q : Shared → Prop}, Inv (X.suite a ((a, oe) :: (X.pn ++ (m.toList ++ pins)))) [] σ6 H6 s6 → (∀ s7, Inv X pins (σ6.set i none) H6 s7 → Q s7) →
          wpAny (model X.prog X.w) X.A (do bindName X.env n .none; unbindBehindTheSuite X.env n pos') (fun _ s7 => Q s7) X.xe s6 := fun {σ6 H6 Q} S6 hq =>
        gone_ok (X := X) (pins := pins) ((S6.unsuite ok).pins_of fun p hp => (S6.unsuite ok).pin p (List.mem_append_right _ (List.mem_append_right _ hp))) hN hi hln hq
      cases f with
      | next =>
        obtain ⟨σ6, H6, S6, q6⟩ := hsp
        exact end_ S6 fun s7 J7 => ⟨_, _, J7, q6⟩
      | brk =>
        obtain ⟨σ6, H6, S6, q6⟩ := hsp
        exact end_ S6 fun s7 J7 => ⟨_, _, J7, q6⟩
      | cont =>
        obtain ⟨σ6, H6, S6, q6⟩ := hsp
        exact end_ S6 fun s7 J7 => ⟨_, _, J7, q6⟩
      | ret u =>
        obtain ⟨v6, σ6, H6, S6, r6, q6⟩ := hsp
        exact end_ S6 fun s7 J7 => ⟨_, _, _, J7, r6, q6⟩
  · cases f with
    | next => exact hsp.elim fun σ' z => z.elim fun H' q => wpAny_execs_nil ⟨σ', H', q.1.ofTry ok, q.2⟩
    | brk => exact hsp.elim fun σ' z => z.elim fun H' q => ⟨σ', H', q.1.ofTry ok, q.2⟩
    | cont => exact hsp.elim fun σ' z => z.elim fun H' q => ⟨σ', H', q.1.ofTry ok, q.2⟩
    | ret u => exact hsp.elim fun v z => z.elim fun σ' z => z.elim fun H' q => ⟨v, σ', H', q.1.ofTry ok, q.2.1, q.2.2⟩
/-- try: .. except x: .. else: ..; the body's exceptions have no context; the suite may raise -/
theorem ps_tryE (hs : X.stack = X.env :: X.outer) (hf : X.env.frame = some X.env.locals) (hc : Names X x c) (hpa : ∀ hd : Option Value, PassesOwnAt (model X.prog X.w) (X.A.mark hd) X.A X.env X.xe) (tk : Takes X Wout) (ho : PSs X orelse u)
    (hb : ∀ (W : WX) (pn : List (Addr × Obj)) (xe : Value → Shared → Prop), L2N.Takes (X.tr pn xe) W → PSs (X.tr pn xe) body (tb W))
    (hsu : ∀ (a : Addr) (oe : Obj) (cls : Value) (d : Option Addr) (pn : List (Addr × Obj)), L2N.Zn cls d oe → Takes (L2H.suiteX X a ((a, oe) :: pn)) Wout → L2H.HotC (L2H.suiteX X a ((a, oe) :: pn)) → PSs (L2H.suiteX X a ((a, oe) :: pn)) (b₀ :: suite) (ts a cls d)) :
    PS X (.Try body [.ExceptHandler (some (.Name x np)) none (b₀ :: suite) pos'] orelse [] pos) (fun D σ H => tb (wOnly X.K c ts Wout D) { D with nx := u D } σ H) := by
  refine ⟨fun pins s σ H D I h => ?_⟩
  have ok := I.ok
  refine wpAny_Try_except (wpAny_mono ((hb (wOnly X.K c ts Wout D) (X.pn ++ pins) (fun e s₁ => wpAny (model X.prog X.w) X.A (noteFrame e X.env) (fun _ s₂ => wpAny (model X.prog X.w) X.A (setFlight e none) (fun _ s₃ =>
    wpAny (model X.prog X.w) X.A (handleBy e X.env [.ExceptHandler (some (.Name x np)) none (b₀ :: suite) pos']) (SP X pins D) X.xe s₃) X.xe s₂) X.xe s₁) (fun u s' xx => ?_)).run [] s σ H { D with nx := u D } (I.toTry _) h) (fun f s1 hsp => ?_) (fun e s1 he => he))
  · obtain ⟨a, B, sI, pins', σ', H', cls, d, rfl, J', nb, up, sky, na, os, ag, b, hb1, hyes, hno⟩ := xx
    refine land_of L2N.Zn.steady hs hf (J'.ofTry ok) nb up sky na os ag fun h3 L => ?_
    refine wpAny_handleBy_cons (codeAny_handlers_test (L.ask hf (fun o z => z.1) hc hb1 ?_)) (by intro q; cases q)
    cases b with
    | false => exact L.pass hs hf (fun _ z => Zm.of z) tk (hno rfl)
    | true =>
      refine codeAny_handlers_suite (HandSPX.lands_againZ L.fl fun h4 fl4 up4 => ?_)
      have L4 := L.on fl4 up4
      obtain ⟨oe, vs, he, hz, hd⟩ := L4.fl.there
      obtain ⟨nL, nF⟩ := offs hf L4.off
      have S := L4.inv.suite he hd na nL nF
      have tkS : Takes (L2H.suiteX X a ((a, oe) :: (X.pn ++ pins))) Wout := fun u2 s2 ⟨a2, B2, sI2, pn2, σ2, H2, cls2, d2, e2, I2, r2⟩ => tk u2 s2 ⟨a2, B2, sI2, pins, σ2, H2, cls2, d2, e2, L2H.unsuiteX I2 ok, r2⟩
      refine wpAny_mono ((hsu a oe cls d (X.pn ++ pins) hz tkS ⟨(a, oe), ⟨rfl, vs, hd, hz.2.2 vs hd⟩, List.mem_cons_self⟩).run [] _ _ H' _ (L2H.suiteX_of S) (hyes rfl a na)) (fun f s6 hsp => ?_) (fun e6 s6 z => hpa (some (.ref a)) e6 s6 z)
      cases f with
      | next => exact hsp.elim fun σ' z => z.elim fun H' q => ⟨σ', H', L2H.unsuiteX q.1 ok, q.2⟩
      | brk => exact hsp.elim fun σ' z => z.elim fun H' q => ⟨σ', H', L2H.unsuiteX q.1 ok, q.2⟩
      | cont => exact hsp.elim fun σ' z => z.elim fun H' q => ⟨σ', H', L2H.unsuiteX q.1 ok, q.2⟩
      | ret u => exact hsp.elim fun v z => z.elim fun σ' z => z.elim fun H' q => ⟨v, σ', H', L2H.unsuiteX q.1 ok, q.2.1, q.2.2⟩
  · cases f with
    | next => exact hsp.elim fun σ' z => z.elim fun H' q => ho.run pins s1 σ' H' D (q.1.ofTry ok) q.2
    | brk => exact hsp.elim fun σ' z => z.elim fun H' q => ⟨σ', H', q.1.ofTry ok, q.2⟩
    | cont => exact hsp.elim fun σ' z => z.elim fun H' q => ⟨σ', H', q.1.ofTry ok, q.2⟩
    | ret u => exact hsp.elim fun v z => z.elim fun σ' z => z.elim fun H' q => ⟨v, σ', H', q.1.ofTry ok, q.2.1, q.2.2⟩
end
end Lm
set_option Elab.async false
set_option linter.all false
set_option maxRecDepth 100000
set_option maxHeartbeats 4000000
/-! Defs called while an exception with its context is handled; a lambda handed to a def that catches what it raises. -/
namespace Lz
open PySem PySem.Spec PyProof.Rows L2 HotX LamX
open L2H (RoomH PinOk cxH inv_startH)
/-- the context of a def's body, p and its context m pinned -/
abbrev cxZ (P : Program) (w : World) (K : PySem.W.Frag) (mg : Str → Option Value) (base : Heap) (N : List Str) (qual : Str) (scope : Scope) (f : Addr) (cd : Value) (A : Around) (outer : List Env) (s : Shared) (H : Hp) (p : Addr × Obj) (m : Option (Addr × Obj)) : Cx :=
  (cxH L2.CX0 P w K mg base N qual scope f cd A outer s H L2.E0 p).tr (p :: m.toList) (fun _ _ => False)
structure FnZ (P : Program) (w : World) (K : PySem.W.Frag) (mg : Str → Option Value) (base : Heap) (k : Nat) (f : Addr) (fd : FuncData) (ps : List Str) (sp : Addr × Obj → Sp) : Prop where
  len : ∀ p vs H Q E, sp p vs H Q E → vs.length = ps.length
  run : ∀ (A : Around) (outer : List Env) (s : Shared) (H : Hp) (args : Args) (us : List Value) (vs : List V) (Q : VK) (p : Addr × Obj) (m : Option (Addr × Obj)), RoomH k A → HotP A p m → (∀ q ∈ p :: m.toList, PinOk outer H s q) → Env0 P w K mg base A outer s H → BindsTo s fd args (ps.zip us) → Vals vs us → sp p vs H Q L2.E0 →
    codeAny (model P w) A (.call (.ref f) args) (CR L2.CX0 outer P w H s Q L2.E0) s
theorem okZ {P : Program} {w : World} {K : PySem.W.Frag} {mg : Str → Option Value} {base : Heap} {x qual : Str} {st : Stmt} {f : Addr} {fd : FuncData} {N ps : List Str} {k : Nat} {sp : Addr × Obj → Sp} (F : L2.Fun K x qual st f fd) (S : FnScope N ps (defScope st))
    (len : ∀ p vs H Q E, sp p vs H Q E → vs.length = ps.length)
    (hbody : ∀ (cdv : Value) (A : Around) (outer : List Env) (s : Shared) (H : Hp) (vs : List V) (Q : VK) (p : Addr × Obj) (m : Option (Addr × Obj)), HotP A p m → RoomH k (A.deeper (envOfC qual (defScope st) s.heap.objs.size f cdv)) → sp p vs H Q L2.E0 →
      ∃ t, PSs (cxZ P w K mg base N qual (defScope st) f cdv A outer s H p m) (defBody st) t ∧ t { nx := fun _ H' => Q .non H', rt := Q } (L2.start N vs) H) :
    FnZ P w K mg base (k + 1) f fd ps sp := by
  obtain ⟨oc, od, kV, doc, pm, an, cdv, ct, osl, rfl, lk, hcd⟩ := F.ex
  refine ⟨len, fun A outer s H args us vs Q p m hr hot hpin e0 hb r hsp => ?_⟩
  have KX : K.In s.heap := e0.mod.kin.keeps fun b o e => (e0.bs b o e).1
  have lim : s.heap.NoLimit := e0.mod.nolimit.keeps fun b o e => (e0.bs b o e).1
  refine codeAny_call_function hr.depth (KX _ _ lk) rfl S.co S.gen rfl (PySem.W.codeRec_of KX hcd) (hb _ _ _ _ ?_)
  refine wpAny_newFunctionEnv_cells S.kind (fun ⟨n, v⟩ hy => (S.par n (List.of_mem_zip hy).1).elim .inl fun q => .inr ⟨q, PySem.W.cellsFrom_some _ _ _ (.inl q)⟩) fun env he s1 xx => ?_
  subst he
  refine ⟨lim.keeps xx.toInCall.keep, codeAny_func ?_⟩
  obtain ⟨t, ht, hq⟩ := hbody cdv A outer s H vs Q p m hot (hr.deeper _) hsp
  have I : Inv (cxH L2.CX0 P w K mg base N qual (defScope st) f cdv A outer s H L2.E0 p) [] (L2.start N vs) H s1 := inv_startH S (hpin p List.mem_cons_self) e0 (len _ _ _ _ _ hsp) r xx
  have I2 : Inv (cxH L2.CX0 P w K mg base N qual (defScope st) f cdv A outer s H L2.E0 p) m.toList (L2.start N vs) H s1 := I.pins_of fun q hq => by
    have z := hpin q (List.mem_cons_of_mem _ hq)
    exact ⟨xx.toInCall.keep _ _ z.get, z.free, Nat.ne_of_lt (Heap.lt_size z.get), z.nofs, z.nocell⟩
  refine wpAny_mono (ht.run [] s1 (L2.start N vs) H _ (I2.toTry _) hq) (fun fl s' hs => ?_) fun e s' hs => hs.elim
  cases fl with
  | ret u =>
    obtain ⟨v, σ', H', J, rv, q⟩ := hs
    exact ⟨v, H', J.os, J.bare, J.base, J.hok, rv, q⟩
  | next =>
    obtain ⟨σ', H', J, q⟩ := hs
    exact ⟨V.non, H', J.os, J.bare, J.base, J.hok, rfl, q⟩
  | brk => exact hs.elim fun _ z => z.elim fun _ z => False.elim z.2
  | cont => exact hs.elim fun _ z => z.elim fun _ z => False.elim z.2
section
variable {X : Cx} {k : Nat} {f : Addr} {fd : FuncData} {ps : List Str} {sp : Addr × Obj → Sp} {x : Str} {q pos : Pos} {e : Expr} {es : List Expr} {t : TA} {p : Addr × Obj} {m : Option (Addr × Obj)}
theorem pe_callZ (F : FnZ X.prog X.w X.K X.mg X.base k f fd ps sp) (hr : RoomH k X.A) (hot : HotP X.A p m) (hp : ∀ q ∈ p :: m.toList, q ∈ X.pn) (hg : Gl X x) (hm : X.mg x = some (.ref f)) (hk : PySem.W.keepIn X.K (.ref f) = true) (hb : Binds X.K fd ps [])
    (ha : PA X (e :: es) t) (hdb : (x == ("__debug__" : Str)) = false := by decide) (he : starEach (e :: es) X.env = (false, eval e X.env) :: starEach es X.env := by rfl) (hpl : (backTo pos (starEach es X.env)).any (·.1) = false := by rfl) :
    PE X (.Call (.Name x q) (e :: es) [] pos) (fun σ H Q => t σ H fun vs H1 => sp p vs H1 Q L2.E0) := by
  refine ⟨fun pins s σ H Q I h => ?_⟩
  refine wpAny_Call_Name_kw (ld_glob I hg hm ?_ hdb)
  refine PySem.W.callWith_K (h₀ := X.base) I.ok.mod.kin hk (thn (ha.run pos pins s σ H _ I h) fun us s1 ⟨vs, H1, I1, r, hsp⟩ => ⟨I1.kIn, ?_⟩) he hpl
  have b := hb s1 us I1.kIn (by rw [List.append_nil, ← r.length]; exact F.len _ _ _ _ _ hsp)
  rw [List.append_nil] at b
  have hpin : ∀ q ∈ p :: m.toList, PinOk X.stack H1 s1 q := fun q hq => by
    have P1 := I1.pin q (List.mem_append_left _ (hp q hq))
    exact ⟨P1.1, P1.2.1, fun hm => (List.mem_cons.mp (I1.stkSub q.1 hm)).elim P1.2.2.1 P1.2.2.2.1, P1.2.2.2.2⟩
  refine wpAny_call (codeAny_mono (F.run X.A X.stack s1 H1 ⟨us, []⟩ us vs Q p m hr hot hpin I1.env0 b r hsp) fun rr s' hq => ?_)
  cases rr with
  | error e => exact (show False from hq).elim
  | ok fl =>
    cases fl with
    | ret u => exact I1.after hq
    | next => exact False.elim hq
    | brk => exact False.elim hq
    | cont => exact False.elim hq
end
end Lz
namespace Lm
open PySem PySem.Spec PyProof.Rows L2 HotX LamX
theorem CX.of {P : Program} {w : World} {outer : List Env} {H : Hp} {s s' : Shared} {E : XK} {u : Value} (c : L2N.CX P w outer H s E u s') : CX P w outer H s E u s' := by
  obtain ⟨a, B, H', cls, d, e, fl, r⟩ := c
  exact ⟨a, B, H', cls, d, e, L2H.flyingZ_imp (fun _ z => Zm.of z) fl, r⟩
/-- a def keeps its promise in this layer too -/
theorem fn_of {P : Program} {w : World} {K : PySem.W.Frag} {mg : Str → Option Value} {base : Heap} {k : Nat} {f : Addr} {fd : FuncData} {ps : List Str} {sp : Sp} (F : FnOk P w K mg base (L2N.CX P w) k f fd ps sp) : FnOk P w K mg base (CX P w) k f fd ps sp :=
  ⟨F.len, fun A outer s H args us vs Q E hr e0 hb r hsp => codeAny_mono (F.run A outer s H args us vs Q E hr e0 hb r hsp) fun rr s' hq => by
    cases rr with
    | error e => exact CX.of hq
    | ok fl => cases fl <;> exact hq⟩
/-- the def of the name x keeps the promise sp, by level k -/
structure Dm (P : Program) (w : World) (K : PySem.W.Frag) (mg : Str → Option Value) (base : Heap) (x : Str) (k : Nat) (ps : List Str) (sp : Sp) : Prop where
  ex : ∃ (f : Addr) (fd : FuncData), mg x = some (.ref f) ∧ PySem.W.keepIn K (.ref f) = true ∧ Binds K fd ps [] ∧ FnOk P w K mg base (CX P w) k f fd ps sp
theorem Dm.of {P : Program} {w : World} {K : PySem.W.Frag} {mg : Str → Option Value} {base : Heap} {x : Str} {k : Nat} {ps : List Str} {sp : Sp} (D : Lk.Df P w K mg base x k ps sp) : Dm P w K mg base x k ps sp := by
  obtain ⟨f, fd, h1, h2, h3, h4⟩ := D.ex
  exact ⟨f, fd, h1, h2, h3, fn_of h4⟩
section
variable {X : Cx} {k j : Nat} {x : Str} {ps : List Str} {sp : Sp} {E : XK} {p pos : Pos} {e : Expr} {es : List Expr} {t : TA}
theorem pe_dm (F : Dm X.prog X.w X.K X.mg X.base x k ps sp) (hr : Room j X.A) (hk : k ≤ j) (hg : Gl X x) (hx : Passes (CX X.prog X.w) X E) (ha : PA X (e :: es) t)
    (hdb : (x == ("__debug__" : Str)) = false := by decide) (he : starEach (e :: es) X.env = (false, eval e X.env) :: starEach es X.env := by rfl) (hpl : (backTo pos (starEach es X.env)).any (·.1) = false := by rfl) :
    PE X (.Call (.Name x p) (e :: es) [] pos) (tCall sp [] E t) := by
  obtain ⟨f, fd, hm, hkp, hb, F⟩ := F.ex
  exact pe_call F (hr.mono hk) hg hm hkp hb .nil hx ha hdb he hpl
end
theorem dm_of {P : Program} {w : World} {K : PySem.W.Frag} {mg : Str → Option Value} {base : Heap} {x qual : Str} {st : Stmt} {f : Addr} {fd : FuncData} {N ps : List Str} {k : Nat} {sp : Sp} (F : L2.Fun K x qual st f fd) (hm : mg x = some (.ref f)) (hb : Binds K fd ps [])
    (S : FnScope N ps (defScope st)) (len : ∀ vs H Q E, sp vs H Q E → vs.length = ps.length)
    (hbody : ∀ (cdv : Value) (A : Around) (outer : List Env) (s : Shared) (H : Hp) (vs : List V) (Q : VK) (E : XK), Room k (A.deeper (envOfC qual (defScope st) s.heap.objs.size f cdv)) → sp vs H Q E →
      ∃ t, PSs (cxOf (CX P w) P w K mg base N qual (defScope st) f cdv A outer s H E) (defBody st) t ∧ t { nx := fun _ H' => Q .non H', rt := Q } (start N vs) H) : Dm P w K mg base x (k + 1) ps sp := by
  refine ⟨f, fd, hm, F.kp, hb, ?_⟩
  obtain ⟨oc, od, kV, doc, pm, an, cdv, ct, osl, rfl, lk, hcd⟩ := F.ex
  exact L2.fn_of lk hcd S len fun A outer s H vs Q E hr hsp => hbody cdv A outer s H vs Q E hr hsp
theorem passM {X : Cx} : Passes (CX X.prog X.w) X L2.E0 := fun _ _ _ _ _ _ _ h => by
  obtain ⟨_, _, _, _, _, _, _, _, _, _, _, _, z⟩ := h
  exact z.elim
theorem taken {X : Cx} {W : WX} {E : XK} (tk : Takes X W) (hW : ∀ cls d σ H, E cls d H → W cls d σ H) : Passes (CX X.prog X.w) X E := passes_call tk hW
theorem takes0 {X : Cx} : Takes X (fun _ _ _ _ => False) := fun _ _ x => by
  obtain ⟨_, _, _, _, _, _, _, _, _, _, _, _, _, _, _, _, z⟩ := x
  exact z.elim
end Lm
set_option Elab.async false
set_option linter.all false
set_option maxRecDepth 100000
set_option maxHeartbeats 4000000
namespace Lk
open PySem PySem.Spec PyProof.Rows L2 HotX L2H LamX
open Evl (Ev EvL EvA EvT Ex EvU)
open TL
abbrev sTermIn : Stmt := topS 39
section
variable {X : Cx} {o e value : Expr} {to te ta tv : TE}
theorem pet_split {apos pos : Pos} (ho : PET X o to) (he : PE X e te) (hs : starEach [e] X.env = [(false, eval e X.env)] := by rfl) (hbase : attributeBase o "split" X.env (eval o X.env) = eval o X.env := by rfl) (hline : (apos.endLine == pos.line) = true := by rfl) :
    PET X (.Call (.Attribute o "split" apos) [e] [] pos) (tM1 (fun x xs H Q => ∃ a b, x = .str a ∧ xs = [.str b] ∧ (b.length == 0) = false ∧ a.length + 2 ≤ sizeLine ∧ rNewStrs (Txt.split a b) H Q) to te) := by
  intro pins s σ H Q h0 I h
  refine PySem.Call_method1 hbase hs hline (thn (ho pins s σ H _ h0 I h) fun v s1 ⟨x, H1, I1, r1, q1⟩ => ?_)
  obtain ⟨⟨a, rfl⟩, q1⟩ := q1
  obtain ⟨t, rfl⟩ := _root_.id r1
  exact ⟨"str", _, F.plainAttrs_str, F.slot_str_split, F.type_str_split, typeIs_str _ _ _, (fun _ e => nomatch e), Calls.callWith_builtin rfl (Calls.evalArgs_plain (Calls.spliced_cons
    (thn (he.run pins s1 σ H1 _ I1 q1) fun u s2 ⟨y, H2, I2, r2, q2⟩ => Calls.spliced_nil (mt_split pins s2 σ H2 _ [y] _ [u] Q I2 r1 (.cons r2 .nil) q2))))⟩
theorem pst_fld {f : Str} {pos pos' : Pos} (ha : PE X o ta) (hv : PET X value tv) (hs : swapsWith value (some (.Attribute o f pos')) pos.line X.env = pure false) : PST X (.Assign [.Attribute o f pos'] value pos) (sFld X.K ta tv f) := by
  intro pins s σ H D h0 I h
  refine plainObj_wpAny_Assign_Attribute (thn (hv pins s σ H _ h0 I h) fun u s1 ⟨y, H1, I1, ry, q⟩ => thn (ha.run pins s1 σ H1 _ I1 q) fun ov s2 ⟨x, H2, I2, rx, a, C, dx, fs, ex, ea, c, n, l, q2⟩ => ?_) hs
  subst ex
  obtain rfl : ov = Value.ref a := rx
  exact setattr_ok I2 ea c n l ry fun s3 I3 => ⟨σ, _, I3, q2⟩
end
/-! ### the words -/
theorem spl_mem (S : List Nat) : ∀ (l : List Nat) (k : Nat) (acc p : List Nat), p ∈ spl S k acc l → ∀ c ∈ p, c ∈ acc ∨ c ∈ l
  | [], k, acc, p, h, c, hc => by
    rw [spl_nil] at h
    rw [List.mem_singleton.mp h] at hc
    exact .inl hc
  | c0 :: r, 0, acc, p, h, c, hc => by
    rw [spl] at h
    split at h
    · rcases List.mem_cons.mp h with e | h
      · rw [e] at hc; exact .inl hc
      · rcases spl_mem S r _ _ _ h c hc with z | z
        · cases z
        · exact .inr (List.mem_cons_of_mem _ z)
    · rcases spl_mem S r _ _ _ h c hc with z | z
      · rcases List.mem_append.mp z with z | z
        · exact .inl z
        · rw [List.mem_singleton.mp z]; exact .inr List.mem_cons_self
      · exact .inr (List.mem_cons_of_mem _ z)
  | c0 :: r, k + 1, acc, p, h, c, hc => by
    rw [spl] at h
    rcases spl_mem S r _ _ _ h c hc with z | z
    · exact .inl z
    · exact .inr (List.mem_cons_of_mem _ z)
theorem replS_mem (y z : List Nat) : ∀ (l : List Nat) (k c : Nat), c ∈ StrLaws.replS y z k l → c ∈ z ∨ c ∈ l
  | [], k, c, h => by cases k <;> simp [StrLaws.replS] at h
  | c0 :: r, 0, c, h => by
    rw [StrLaws.replS] at h
    split at h
    · rcases List.mem_append.mp h with h | h
      · exact .inl h
      · exact (replS_mem y z r _ c h).imp id (List.mem_cons_of_mem _)
    · rcases List.mem_cons.mp h with h | h
      · rw [h]; exact .inr List.mem_cons_self
      · exact (replS_mem y z r _ c h).imp id (List.mem_cons_of_mem _)
  | c0 :: r, k + 1, c, h => by
    rw [StrLaws.replS] at h
    exact (replS_mem y z r _ c h).imp id (List.mem_cons_of_mem _)
theorem ok_tl {z : Str} : PyData.strOk z = true ↔ ∀ c ∈ tl z, c < 1114112 := by
  unfold PyData.strOk
  rw [← Array.all_toList, List.all_eq_true]
  constructor
  · exact fun h c hc => of_decide_eq_true (h c hc)
  · exact fun h c hc => decide_eq_true (h c hc)
theorem repl_ok {x y z : Str} (hy : 1 ≤ y.length) (hx : PyData.strOk x = true) (hz : PyData.strOk z = true) : PyData.strOk (Txt.replace x y z) = true := by
  rw [ok_tl] at hx hz ⊢
  intro c hc
  have hc' : c ∈ StrLaws.replL y.cps.toList z.cps.toList x.cps.toList := by rw [← StrLaws.replace_list hy]; exact hc
  exact (replS_mem _ _ _ _ _ hc').elim (hz c) (hx c)
theorem split_ok {x y : Str} (hy : tl y ≠ []) (hk : y.cps.all (· < 256) = true) (hx : PyData.strOk x = true) : ∀ p ∈ Txt.split x y, PyData.strOk p = true := fun p hp => by
  rw [ok_tl] at hx ⊢
  have e := split_spl x y hy (kind_ok hk)
  have h1 : tl p ∈ spl (tl y) 0 [] (tl x) := by rw [← e]; exact List.mem_map_of_mem hp
  intro c hc
  exact (spl_mem _ _ _ _ _ h1 c hc).elim (fun z => by cases z) (hx c)
theorem words_ok {z : Str} (hz : z.length ≤ 11000) (ho : PyData.strOk z = true) : (Txt.replace z "(" "( ").length ≤ 33002 ∧ (Txt.replace (Txt.replace z "(" "( ") ")" " )").length ≤ 99008 ∧ (∀ y ∈ wordsOf z, y.length ≤ 100000) ∧ ∀ y ∈ wordsOf z, PyData.strOk y = true := by
  have l2 : ("( " : Str).length = 2 ∧ (" )" : Str).length = 2 := by decide +kernel
  have h1 := TK.replace_len z "(" "( "
  have h2 := TK.replace_len (Txt.replace z "(" "( ") ")" " )"
  rw [l2.1] at h1
  rw [l2.2] at h2
  have g1 : (Txt.replace z "(" "( ").length ≤ 33002 := by omega
  have g2 : (Txt.replace (Txt.replace z "(" "( ") ")" " )").length ≤ 99008 := by omega
  refine ⟨g1, g2, fun y hy => ?_, split_ok (by decide +kernel) (by decide +kernel) (repl_ok (by decide +kernel) (repl_ok (by decide +kernel) ho (by decide +kernel)) (by decide +kernel))⟩
  have := (split_len (z := Txt.replace (Txt.replace z "(" "( ") ")" " )") (y := " ") (by decide +kernel) (by decide +kernel)).1 y hy
  omega
def spRInit (C : Addr) : Sp := fun vs H Q _ => ∃ (p dx : Addr) (z : Str), vs = [.ref p, .str z] ∧ H p = some (.ins C dx []) ∧ z.length ≤ 11000 ∧ PyData.strOk z = true ∧ ∀ H' l, But p H H' → RdAt C H' p dx l (wordsOf z) 0 → Q .non H'
section
variable {P : Program} {w : World} {K : PySem.W.Frag} {mg : Str → Option Value} {base : Heap} {C CT CL : Addr}
theorem scRInit : FnScope ["self", "text"] ["self", "text"] (defScope sRInit) := ⟨rfl, rfl, rfl, by decide +kernel, rfl, by decide +kernel, by decide +kernel⟩
theorem ok_rinit {f : Addr} {fd : FuncData} (F : L2.Fun K "__init__" "Reading.__init__" sRInit f fd) (L : Rc K mg C) : FnOk P w K mg base (L2N.CX P w) 1 f fd ["self", "text"] (spRInit C) := by
  obtain ⟨oc, od, kV, doc, pm, an, cdv, ct, osl, rfl, lk, hcd⟩ := F.ex
  refine fn_ofT lk hcd scRInit (by decide +kernel) (by decide) (fun vs H Q E h => by obtain ⟨_, _, _, rfl, _⟩ := h; rfl) fun A outer s H vs Q E hr h => ?_
  obtain ⟨p, dx, z, rfl, hp, hz, ho, k⟩ := h
  obtain ⟨w1, w2, w3, w4⟩ := words_ok hz ho
  refine ⟨_, psst_cons (pst_fld (pv 0) (pet_split (CwR.pet_replT (CwR.pet_replC (y := "(") (z := "( ") (pv 1) (by decide +kernel)) (by decide +kernel)) pe_str) rfl) (PSsT.of (pss_one (ps_fld (pv 0) pe_int rfl))), ?_⟩
  refine ⟨_, rfl, z, rfl, ?_, _, rfl, ?_, ⟨_, rfl⟩, _, " ", rfl, rfl, by decide +kernel, ?_, fun l hl => ?_⟩
  · have : ("( " : Str).length = 2 := by decide +kernel
    rw [this]; omega
  · have : (" )" : Str).length = 2 := by decide +kernel
    rw [this]; omega
  · exact Nat.le_trans (Nat.add_le_add_right w2 2) (by decide +kernel)
  · have n1 : p ≠ l := fun e => by rw [e, hl] at hp; cases hp
    refine ⟨_, rfl, p, C, dx, [], rfl, by rw [upd_ne n1]; exact hp, L.cl, L.nW, by simp, ?_⟩
    refine ⟨_, rfl, p, C, dx, _, rfl, upd_same, L.cl, L.nS, by simp [putF], ?_⟩
    have ef : putF "spot" (.int 0) (putF "words" (.ref l) []) = rdF l 0 := (put_past (by decide +kernel)).trans rfl
    rw [ef]
    refine k _ l (fun b o hb hne => ?_) ⟨upd_same, ?_, w3, w4, Nat.zero_le _⟩
    · have n2 : b ≠ l := fun e => by rw [e, hl] at hb; cases hb
      rw [upd_ne hne, upd_ne hne, upd_ne n2]
      exact hb
    · rw [upd_ne (Ne.symm n1), upd_ne (Ne.symm n1), upd_same]
      rfl
end
end Lk
set_option Elab.async false
set_option linter.all false
set_option maxRecDepth 100000
set_option maxHeartbeats 4000000
namespace Lk
open PySem PySem.Spec PyProof.Rows L2 HotX L2H LamX
open Evl (Ev EvL EvA EvT Ex EvU)
open TL
def termIn : PyData → Option PyData
  | .str z => (parseT 8 (wordsOf z)).bind fun p => if deepOk 8 p.1 = true then (if textOf 8 p.1 = z then some p.1 else none) else none
  | _ => none
def textOk (d : PyData) : Prop := ∀ z, d = .str z → z.length ≤ 11000 ∧ PyData.strOk z = true
def spTermIn (CT : Addr) : Sp := fun vs H Q E => ∃ v d, vs = [v] ∧ R H v d ∧ textOk d ∧ (∀ e, termIn d = some e → ∀ v' H', Same H H' → R H' v' e → Q v' H') ∧ (termIn d = none → ∀ H', Same H H' → E (.ref CT) none H')
/-- the two classes that it names -/
structure Xt (K : PySem.W.Frag) (mg : Str → Option Value) (CT CL : Addr) : Prop where
  t : Xc K mg "BadText" CT
  l : Xc K mg "BadLook" CL
  ex : PySem.W.exmOne K (.ref CL) (.ref CL) = some true
section
variable {P : Program} {w : World} {K : PySem.W.Frag} {mg : Str → Option Value} {base : Heap} {C CT CL : Addr}
theorem scTermIn : FnScope ["text", "found"] ["text"] (defScope sTermIn) := ⟨rfl, rfl, rfl, by decide +kernel, rfl, by decide +kernel, by decide +kernel⟩
theorem ok_termIn {f fi : Addr} {fd fdi : FuncData} (F : L2.Fun K "term_in" "term_in" sTermIn f fd) (hm : mg "term_in" = some (.ref f)) (hb : Binds K fd ["text"] []) (T : Tx K mg) (L : Rc K mg C) (XT : Xt K mg CT CL) (M : Mk K C fi) (Fi : FnOk P w K mg base (L2N.CX P w) 1 fi fdi ["self", "text"] (spRInit C)) (bi : Binds K fdi ["self", "text"] [])
    (D0 : Df P w K mg base "need_text" 1 ["good"] (spNeed CT)) (Dr : Md P w K mg base C "term" 20 ["self", "deep"] (spParse C CT (8 - ((8 : Nat) : Int)) (parseT 8))) (Dn : Df P w K mg base "need_term" 12 ["term"] (spRef CL (deepOk 8))) (Dt : Df P w K mg base "text_of" 9 ["term"] (spTextOf 8)) :
    Lm.Dm P w K mg base "term_in" 21 ["text"] (spTermIn CT) := by
  refine Lm.dm_of F hm hb scTermIn (fun vs H Q E h => by obtain ⟨_, _, rfl, _⟩ := h; rfl) (fun cdv A outer s H vs Q E hr h => ?_)
  obtain ⟨v, d, rfl, rd, tok, k1, k2⟩ := h
  have tk := Lm.takes_of (X := cxOf (Lm.CX P w) P w K mg base ["text", "found"] "term_in" (defScope sTermIn) f cdv A outer s H E) (E := E) (E₁ := fun e' s'' => Lm.CX P w outer H s E e' s'') rfl rfl rfl rfl
  obtain ⟨fr, fdr, hmr, hbr, Fr⟩ := Dr.ex
  obtain ⟨fn, fdn, gn, kn, bn, Fn⟩ := Dn.ex
  refine ⟨_, pss_cons (ps_expr (Lm.pe_dm (Lm.Dm.of D0) hr (by decide) (by rfl) (Lm.taken tk fun _ _ _ _ h => h) (pa_cons (pe_callB (call_isD (T := "str")) (by rfl) T.isi boot_isinstance (pa_cons (pv 0) (pa_cons (pe_bltn (v := .ty "str") (by rfl) T.str boot_str rfl) pa_nil))) pa_nil)))
    (pss_cons (ps_set (i := 1) scTermIn.nd rfl (Or.inl rfl) (pe_meth (pe_make M (Lm.fn_of Fi) (hr.mono (by decide)) (by rfl) L.gC bi .nil Lm.passM (pa_cons (pv 0) pa_nil)) L.cl hmr (Lm.fn_of Fr) hr hbr .nil (Lm.taken tk fun _ _ _ _ h => h) (pa_cons pe_int pa_nil)))
    (pss_one (Lm.ps_tryE (c := .ref CL) (Wout := fun cls d _ H => E cls d H) rfl rfl ⟨rfl, by decide, .inl XT.l.g⟩ (passesAt_of rfl) tk
      (pss_cons (ps_expr (Lm.pe_dm (Lm.Dm.of D0) hr (by decide) (by rfl) (Lm.taken tk fun _ _ _ _ h => h) (pa_cons (pe_cmpR op_eq (Lm.pe_dm (Lm.Dm.of Dt) hr (by decide) (by rfl) Lm.passM (pa_cons (pv 1) pa_nil)) (pv 0) (nomark _)) pa_nil))) (pss_one (ps_ret (pv 1))))
      (fun W pn xe tkW => pss_one (ps_expr (pe_callS Fn (hr.mono (by decide)) rfl gn kn bn (fun σ => L2N.passAt tkW σ) (pa_cons (pv 1) pa_nil))))
      (fun a oe cls d pn hz tkS hot => pss_one (Lm.ps_raiseH hot tkS (L2N.pmk_own PySem.F.excBase_ValueError XT.t.x XT.t.g XT.t.kp (raises_own XT.t.sb XT.t.ty) (by rfl))))))), ?_⟩
  refine q_need (b := isStr d) (ed_isi (ed_var rfl rd) (kit_str d)) (fun hs H1 e1 => ?_) (fun hs H1 e1 => k2 (by cases d <;> first | rfl | cases hs) H1 e1)
  cases rd with
  | str z hz =>
    obtain ⟨hz1, ho⟩ := tok z rfl
    -- Reading(text).term(0)
    refine ⟨_, rfl, fun x dx hx hdx hne => ?_⟩
    refine ⟨x, dx, z, rfl, upd_same, hz1, ho, fun H2 l b2 la2 => ⟨rfl, x, dx, _, rfl, la2.i, rd_no (by decide +kernel) (by decide +kernel), ?_⟩⟩
    have s12 : Same H1 H2 := fun b o hb => by
      have n1 : b ≠ x := fun e => by rw [e, hx] at hb; cases hb
      have n2 : b ≠ dx := fun e => by rw [e, hdx] at hb; cases hb
      exact b2 b o (by rw [upd_ne n1, upd_ne n2]; exact hb) n1
    have out : ∀ {H3 : Hp}, But x H2 H3 → Same H H3 := fun b3 b o hb => by
      have hb1 := e1 _ _ hb
      have n1 : b ≠ x := fun e => by rw [e, hx] at hb1; cases hb1
      exact b3 b o (s12 b o hb1) n1
    refine ⟨x, dx, l, _, 0, rfl, la2, fun d3 r3 h3 v3 H3 k3 b3 la3 hr3 rv3 => ?_, fun h3 H3 b3 => k2 ?_ H3 (out b3)⟩
    · rw [List.drop_zero] at h3
      show _
      have s03 := out b3
      refine ⟨_, rfl, v3, d3, rfl, rv3, fun hd H4 s4 => ?_, fun hd H4 s4 => ?_⟩
      · refine q_need (b := decide (textOf 8 d3 = z)) (ed_eqS (ed_textOf (ed_var rfl (rv3.ext (exN s4))) hd (by decide)) (ed_var rfl (.str z hz))) (fun ht H5 e5 => ?_) (fun ht H5 e5 => k2 ?_ H5 (Same.trans (Same.trans s03 s4) e5))
        · refine ⟨_, rfl, k1 d3 ?_ v3 H5 (Same.trans (Same.trans s03 s4) e5) (rv3.ext (exN (Evl.Ex.trans s4 e5)))⟩
          show (parseT 8 (wordsOf z)).bind _ = _
          rw [h3]
          simp only [Option.bind_some]
          rw [if_pos hd, if_pos (of_decide_eq_true ht)]
        · show (parseT 8 (wordsOf z)).bind _ = _
          rw [h3]
          simp only [Option.bind_some]
          rw [if_pos hd, if_neg (of_decide_eq_false ht)]
      · refine ⟨true, XT.ex, fun _ a ha => k2 ?_ H4 (Same.trans s03 s4), fun z => by cases z⟩
        show (parseT 8 (wordsOf z)).bind _ = _
        rw [h3]
        simp only [Option.bind_some]
        rw [if_neg (by rw [hd]; exact Bool.false_ne_true)]
    · rw [List.drop_zero] at h3
      show (parseT 8 (wordsOf z)).bind _ = _
      rw [h3]
      rfl
  | _ => cases hs
end
end Lk
set_option Elab.async false
set_option linter.all false
set_option maxRecDepth 100000
set_option maxHeartbeats 4000000
/-! sorted(d), the keys tuples of texts. -/
namespace Lk
open PySem PySem.Spec PyProof.Rows L2 HotX L2H LamX
open PySem.W (EachIs dataLe AllAlike Sortable alike alikeAll keyToks keyToksAll TotalLe sortLe)
def encK (k : List Str) : PyData := .tuple (k.map PyData.str)
def sortK (ks : List (List Str)) : List (List Str) := ks.mergeSort (dataLe false encK)
theorem alike_strs : ∀ xs ys : List Str, alikeAll (xs.map PyData.str) (ys.map PyData.str) = true
  | [], _ => by simp [alikeAll]
  | _ :: _, [] => by simp [alikeAll]
  | x :: xs, y :: ys => by
    simp only [List.map_cons, alikeAll, alike, alike_strs xs ys, Bool.and_self]
theorem all_alike (ks : List (List Str)) : AllAlike (ks.map encK) := PySem.W.AllAlike.of fun a b => by
  show alike (.tuple _) (.tuple _) = true
  rw [alike]
  exact alike_strs a b
theorem depth_strs : ∀ xs : List Str, PyData.depthAll (xs.map PyData.str) = 0
  | [] => rfl
  | x :: xs => by simp only [List.map_cons, PyData.depthAll, PyData.depth, depth_strs xs]; rfl
/-- the key tuples at bs -/
def KAt (H : Hp) (bs : List Addr) (ks : List (List Str)) : Prop := Paired (fun b (k : List Str) => H b = some (.tup (k.map V.str))) bs ks
def rSortDT : List V → Hp → VK → Prop := fun vs H Q => ∃ (d : Addr) (kvs : List (List Key × V)) (ks : List (List Str)), vs = [V.ref d] ∧ Rd H d (.dT kvs) ∧ kvs.map (·.1) = ks.map (·.map Sum.inr) ∧ (∀ k ∈ ks, k ≠ []) ∧
  ∀ p bs, H p = none → KAt H bs (sortK ks) → Q (.ref p) (upd H p (.lst (bs.map V.ref)))
theorem reads_strs {h : Heap} : ∀ {xs : List Str} {its : List Value}, Vals (xs.map V.str) its → ReadsAll h its (xs.map PyData.str) []
  | [], _, .nil => .nil
  | x :: xs, _, .cons r t => by
    obtain ⟨k, rfl⟩ := r
    exact .cons (as := []) (bs := []) (.str x k) (reads_strs t)
theorem call_sortedDT {X : Cx} (hc : X.calm = true) (hu : X.A.units + 10 < cLine) : CallR X (.builtin "sorted") rSortDT := by
  intro pins s σ H xs us Q I r h
  obtain ⟨d, kvs, ks, rfl, hd, hks, hne, q⟩ := h
  obtain ⟨u, rfl, rx⟩ := r.one
  cases rx
  obtain ⟨z, hs, rs, pr, o, es, ep, ho, hx, hdt, he, hn⟩ := (show ObjOk X.prog X.w H s.heap d (.dT kvs) from hd.ok I.hok)
  have l1 : es.size = rs.length := size_of_entries he
  have l2 : kvs.length = rs.length := Paired.length pr
  have l3 : kvs.length = ks.length := by have := congrArg List.length hks; simpa using this
  refine Calls.call_function_entry PyProof.Rows.kind_sorted PyProof.Rows.plain_sorted PyProof.Rows.entry_sorted (PyProof.Rows.args_sorted1 _) ?_
  unfold Builtin.«sorted»
  refine wpAny_bind (m := checkCount "sorted" 1 1 _) (wpAny_pure ?_)
  refine wpAny_bind (PySem.W.kdu_collect (A := X.A.in1) (kdl_raw hs hx hdt) (I.ok.hd hc) ho (by omega) fun h' tk acc hk it => ?_)
  have ea : acc.toList = rs.map fun x => Value.ref x.2.1 := by
    have hl : acc.toList.length = rs.length := by rw [Array.length_toList, it.1]; exact l1
    apply List.ext_getElem?
    intro j
    rw [List.getElem?_map]
    cases hj : acc.toList[j]? with
    | none =>
      have h1 := List.getElem?_eq_none_iff.mp hj
      rw [List.getElem?_eq_none (by omega)]
      rfl
    | some v =>
      obtain ⟨en, hen, hv⟩ := it.2 j v (by rw [← Array.getElem?_toList]; exact hj)
      have qe := entry_at he j
      rw [hen] at qe
      cases hb : rs[j]? with
      | none => rw [hb] at qe; exact nomatch (show some en = none from qe)
      | some b =>
        rw [hb] at qe
        have e2 : en = entryOfKey (tupleKind (mixKind X.prog X.w)) b := Option.some.inj qe
        rw [hv, e2]
        rfl
  have eb : acc.toList = (rs.map fun x => x.2.1).map Value.ref := by rw [ea, List.map_map]; rfl
  -- the keys at their addresses
  have ka : EachIs (fun v (k : List Str) => ∃ b, v = Value.ref b ∧ H b = some (.tup (k.map V.str))) acc.toList ks := by
    rw [eb]
    have key : ∀ {kvs : List (List Key × V)} {rs : List (List Key × Addr × Value)} {ks : List (List Str)}, KT H kvs rs → kvs.map (·.1) = ks.map (·.map Sum.inr) → EachIs (fun v (k : List Str) => ∃ b, v = Value.ref b ∧ H b = some (.tup (k.map V.str))) ((rs.map fun x => x.2.1).map Value.ref) ks := by
      intro kvs rs ks pr
      induction pr generalizing ks with
      | nil => intro e; cases ks with
        | nil => exact .nil
        | cons _ _ => simp at e
      | @cons a b _ _ hd tl ih => intro e; cases ks with
        | nil => simp at e
        | cons k0 kr =>
          simp only [List.map_cons, List.cons.injEq] at e
          refine .cons ⟨b.2.1, rfl, ?_⟩ (ih e.2)
          have h2 := hd.2.1
          rw [e.1] at h2
          rw [h2, List.map_map]
          rfl
    exact key pr hks
  have hall : ks.length ≤ sizeLine := by omega
  refine wpAny_bind (wpAny_newList ?_ (by rw [ka.length]; exact hall))
  have hob : (h'.push (seqObj "list" acc.toList.toArray 0)).get? h'.objs.size = some (seqObj "list" acc.toList.toArray 0) := Heap.get?_push_size _ rfl
  have kb : ∀ b o, s.heap.get? b = some o → (h'.push (seqObj "list" acc.toList.toArray 0)).get? b = some o := fun b o e => Heap.get?_push_of_some _ (hk b o e)
  have ne0 : ∀ b o, s.heap.get? b = some o → b ≠ h'.objs.size := fun b o e => Nat.ne_of_lt (Heap.lt_size (hk b o e))
  have er : EachIs (fun v (k : List Str) => ∃ as, Reads (h'.push (seqObj "list" acc.toList.toArray 0)) v (encK k) as ∧ h'.objs.size ∉ as) acc.toList ks := ka.mono fun v k ⟨b, ev, hb⟩ => by
    obtain ⟨_, its, rv, ot, hot, hct, nt, hdt⟩ := (show ObjOk X.prog X.w H s.heap b (.tup (k.map V.str)) from I.hok b _ hb)
    subst ev
    exact ⟨[], .tuple (kb _ _ hot) hct hdt (reads_strs rv), by simp⟩
  refine wpAny_bind (wpAny_holding (PySem.W.list_sort_data (s := { s with heap := h'.push (seqObj "list" acc.toList.toArray 0), toks := tk }) (A := X.A.in1) hob ka er (all_alike ks) (.inl fun dd hdd => ?_) hall (fun k hk => ?_) fun out hl hso => ?_))
  · obtain ⟨k, hk, rfl⟩ := List.mem_map.mp hdd
    cases k with
    | nil => exact absurd rfl (hne _ hk)
    | cons x r => exact ⟨_, _, rfl⟩
  · show X.A.units + 1 + 1 + (PyData.tuple (k.map PyData.str)).depth < cLine
    rw [PyData.depth, depth_strs]
    omega
  · -- behind the sort
    have ks' : EachIs (fun v (k : List Str) => ∃ b, v = Value.ref b ∧ H b = some (.tup (k.map V.str))) out (sortK ks) := hso
    have key : ∀ {vs : List Value} {l : List (List Str)}, EachIs (fun v (k : List Str) => ∃ b, v = Value.ref b ∧ H b = some (.tup (k.map V.str))) vs l → ∃ bs : List Addr, vs = bs.map Value.ref ∧ KAt H bs l := by
      intro vs l e
      induction e with
      | nil => exact ⟨[], rfl, .nil⟩
      | cons h _ ih =>
        obtain ⟨b, rfl, hb⟩ := h
        obtain ⟨bs, rfl, k⟩ := ih
        exact ⟨b :: bs, rfl, .cons hb k⟩
    obtain ⟨bs, rfl, hK⟩ := key ks'
    have I1 : Inv X pins σ H { s with heap := h', toks := tk } := I.kept hk
    have kS : ∀ b o, h'.get? b = some o → (sortedHeap (h'.push (seqObj "list" acc.toList.toArray 0)) h'.objs.size acc.toList (List.toArray (bs.map Value.ref))).get? b = some o := fun b o e =>
      (PyProof.Rows.sortedHeap_old (Nat.ne_of_lt (Heap.lt_size e)) (Heap.lt_size (Heap.get?_push_of_some (h := h') (seqObj "list" acc.toList.toArray 0) e))).trans (Heap.get?_push_of_some _ e)
    obtain ⟨eF, heF⟩ := PyProof.Rows.sortedHeap_at (vs := acc.toList) (out := List.toArray (bs.map Value.ref)) hob
    refine wpAny_pure ⟨_, rfl, .ref h'.objs.size, _, I1.laid (t' := tk) (o := .lst (bs.map V.ref)) kS (Nat.le_refl _) ⟨?_, bs.map Value.ref, eF, vals_refs bs, heF⟩, rfl, q _ bs (I1.hok.fresh (Nat.le_refl _)) hK⟩
    rw [List.length_map]
    rw [List.length_map] at hl
    omega
/-! ### the sorted keys by insertion -/
abbrev leK : List Str → List Str → Bool := dataLe false encK
theorem leK_total : TotalLe leK := PySem.W.sortLe_total _ _ _
theorem toks_inj : ∀ {a b : List Str}, keyToksAll (a.map PyData.str) = keyToksAll (b.map PyData.str) → a = b
  | [], [], _ => rfl
  | [], _ :: _, h => by simp [keyToksAll] at h
  | _ :: _, [], h => by simp [keyToksAll] at h
  | x :: a, y :: b, h => by
    simp only [List.map_cons, keyToksAll, keyToks, List.cons.injEq, List.cons_append, List.nil_append, true_and, Sum.inr.injEq] at h
    rw [PySem.W.str_of_cps h.1, toks_inj h.2]
theorem leK_anti {a b : List Str} (h1 : leK a b = true) (h2 : leK b a = true) : a = b := by
  have e1 : PyProof.Rows.lexLt itemOrd (keyToks (encK b)) (keyToks (encK a)) = false := by
    have : (!PyProof.Rows.lexLt itemOrd (keyToks (encK b)) (keyToks (encK a))) = true := h1
    simpa using this
  have e2 : PyProof.Rows.lexLt itemOrd (keyToks (encK a)) (keyToks (encK b)) = false := by
    have : (!PyProof.Rows.lexLt itemOrd (keyToks (encK a)) (keyToks (encK b))) = true := h2
    simpa using this
  have e3 := (PyProof.Rows.listOrd itemOrd).total _ _ e2 e1
  exact toks_inj e3
theorem srt_uniq {α : Type} {le : α → α → Bool} (anti : ∀ a b, le a b = true → le b a = true → a = b) : ∀ {l m : List α}, l.Perm m → l.Pairwise (fun a b => le a b = true) → m.Pairwise (fun a b => le a b = true) → l = m
  | [], m, p, _, _ => (List.nil_perm.mp p).symm
  | a :: l, [], p, _, _ => absurd p.length_eq (by simp)
  | a :: l, b :: m, p, s1, s2 => by
    have ha : a ∈ b :: m := p.mem_iff.mp List.mem_cons_self
    have hb : b ∈ a :: l := p.mem_iff.mpr List.mem_cons_self
    rw [List.pairwise_cons] at s1 s2
    have e : a = b := by
      rcases List.mem_cons.mp ha with e | ha
      · exact e
      · rcases List.mem_cons.mp hb with e | hb
        · exact e.symm
        · exact anti a b (s1.1 b hb) (s2.1 a ha)
    subst e
    rw [srt_uniq anti (List.perm_cons a |>.mp p) s1.2 s2.2]
def insK (x : List Str) : List (List Str) → List (List Str)
  | [] => [x]
  | y :: r => if leK x y = true then x :: y :: r else y :: insK x r
def isortK : List (List Str) → List (List Str)
  | [] => []
  | x :: r => insK x (isortK r)
theorem insK_perm (x : List Str) : ∀ l, (insK x l).Perm (x :: l)
  | [] => .refl _
  | y :: r => by
    unfold insK
    split
    · exact .refl _
    · exact ((insK_perm x r).cons y).trans (.swap x y r)
theorem isortK_perm : ∀ l, (isortK l).Perm l
  | [] => .refl _
  | x :: r => (insK_perm x (isortK r)).trans ((isortK_perm r).cons x)
theorem insK_srt (x : List Str) : ∀ l : List (List Str), l.Pairwise (fun a b => leK a b = true) → (insK x l).Pairwise (fun a b => leK a b = true)
  | [], _ => List.pairwise_singleton _ _
  | y :: r, h => by
    rw [List.pairwise_cons] at h
    unfold insK
    split
    · rename_i hxy
      refine List.pairwise_cons.mpr ⟨fun z hz => ?_, List.pairwise_cons.mpr h⟩
      rcases List.mem_cons.mp hz with e | hz
      · rw [e]; exact hxy
      · exact leK_total.trans _ _ _ hxy (h.1 z hz)
    · rename_i hxy
      refine List.pairwise_cons.mpr ⟨fun z hz => ?_, insK_srt x r h.2⟩
      rcases List.mem_cons.mp ((insK_perm x r).mem_iff.mp hz) with e | hz
      · rw [e]
        exact (leK_total.total x y).resolve_left hxy
      · exact h.1 z hz
theorem isortK_srt : ∀ l, (isortK l).Pairwise (fun a b => leK a b = true)
  | [] => .nil
  | x :: r => insK_srt x _ (isortK_srt r)
theorem sortK_eq (ks : List (List Str)) : sortK ks = isortK ks :=
  srt_uniq (fun _ _ => leK_anti) ((List.mergeSort_perm ks leK).trans (isortK_perm ks).symm) (PySem.W.sort_pairwise leK_total ks) (isortK_srt ks)
end Lk
set_option Elab.async false
set_option linter.all false
set_option maxRecDepth 100000
set_option maxHeartbeats 4000000
namespace Lk
open PySem PySem.Spec PyProof.Rows L2 HotX L2H LamX
open Evl (Ev EvL EvA EvT Ex EvU)
open TL
abbrev sStateText : Stmt := topS 34
abbrev sStateIn : Stmt := topS 35
def nlS : Str := "\n"
def keysOf (ds : List (PyData × PyData)) : List (List Str) := ds.map fun p => strsOf p.1
def valOf (ds : List (PyData × PyData)) (k : List Str) : Int := match ds.find? (fun p => decide (strsOf p.1 = k)) with
  | some p => intOf p.2
  | none => 0
def rowT (ds : List (PyData × PyData)) (k : List Str) : Str := pathText (encK k) ++ blS ++ numT (valOf ds k)
def stateText : PyData → Str
  | .dict ds => Txt.join nlS ((isortK (keysOf ds)).map (rowT ds))
  | _ => Str.empty
def dlen : PyData → Nat
  | .dict ds => ds.length
  | _ => 0
/-- a state's keys and values, as they lie -/
structure StAt (H : Hp) (a : Addr) (kvs : List (List Key × V)) (ds : List (PyData × PyData)) : Prop where
  keys : kvs.map (·.1) = (keysOf ds).map (·.map Sum.inr)
  path : ∀ k ∈ keysOf ds, k ≠ [] ∧ isPath (encK k) = true
  val : ∀ k ∈ keysOf ds, valV kvs (k.map Sum.inr) = some (.int (valOf ds k)) ∧ (valOf ds k).natAbs ≤ 1000000000
theorem kD_strs : ∀ {kk : List Key} {zs : List Str}, kk.map kD = zs.map PyData.str → kk = zs.map Sum.inr
  | [], [], _ => rfl
  | [], _ :: _, h => by simp at h
  | _ :: _, [], h => by simp at h
  | x :: kk, z :: zs, h => by
    simp only [List.map_cons, List.cons.injEq] at h
    cases x with
    | inl i => simp [kD] at h
    | inr y =>
      have : y = z := by simpa [kD] using h.1
      rw [this, kD_strs h.2]
      rfl
theorem okE {ds : List (PyData × PyData)} {p : PyData × PyData} (h : okEntry ds p = true) : isPath p.1 = true ∧ ¬ strsOf p.1 = [] ∧ isNumber 1000000000 p.2 = true := by
  unfold okEntry at h
  rw [Bool.and_eq_true] at h
  have h1 := h.1
  simp only [Bool.not_eq_true', Bool.or_eq_false_iff, Bool.not_eq_false'] at h1
  refine ⟨h1.1, fun e => ?_, h1.2.2⟩
  obtain ⟨zs, ed, es, _, _⟩ := path_strs h1.1
  rw [es] at e
  rw [ed, e] at h1
  exact absurd h1.2.1 (by decide +kernel)
theorem encK_strs {d : PyData} (h : isPath d = true) : encK (strsOf d) = d := by
  obtain ⟨zs, ed, es, _, _⟩ := path_strs h
  rw [es, ed]
  rfl
theorem st_at {H : Hp} {a : Addr} {kvs : List (List Key × V)} {ds : List (PyData × PyData)} (hs : isState (.dict ds) = true) (hn : (kvs.map Prod.fst).Nodup) (hk : ds.map Prod.fst = kvs.map (fun kv => PyData.tuple (kv.1.map kD))) (hv : Rs H (kvs.map Prod.snd) (ds.map Prod.snd)) : StAt H a kvs ds := by
  have hall : ∀ p ∈ ds, okEntry ds p = true := List.all_eq_true.mp hs
  have hlen : ds.length = kvs.length := by have := congrArg List.length hk; simpa using this
  have hget : ∀ (i : Nat) p, ds[i]? = some p → ∃ kv, kvs[i]? = some kv ∧ p.1 = .tuple (kv.1.map kD) ∧ kv.1 = (strsOf p.1).map Sum.inr := by
    intro i p hp
    have hi : i < kvs.length := by have := (List.getElem?_eq_some_iff.mp hp).1; omega
    have e1 : (ds.map Prod.fst)[i]? = some p.1 := by rw [List.getElem?_map, hp]; rfl
    rw [hk, List.getElem?_map, List.getElem?_eq_getElem hi] at e1
    have e2 : PyData.tuple (kvs[i].1.map kD) = p.1 := Option.some.inj e1
    refine ⟨kvs[i], List.getElem?_eq_getElem hi, e2.symm, ?_⟩
    obtain ⟨hp1, _, _⟩ := okE (hall p (List.mem_of_getElem? hp))
    obtain ⟨zs, ed, es, _, _⟩ := path_strs hp1
    rw [es]
    rw [ed] at e2
    exact kD_strs (PyData.tuple.inj e2)
  refine ⟨?_, fun k hk' => ?_, fun k hk' => ?_⟩
  · apply List.ext_getElem?
    intro i
    unfold keysOf
    rw [List.map_map, List.getElem?_map, List.getElem?_map]
    cases hp : ds[i]? with
    | none =>
      have : kvs[i]? = none := by rw [List.getElem?_eq_none_iff] at hp ⊢; omega
      rw [this]; rfl
    | some p =>
      obtain ⟨kv, h1, _, h3⟩ := hget i p hp
      rw [h1]
      show some kv.1 = some ((strsOf p.1).map Sum.inr)
      rw [h3]
  · obtain ⟨p, hp, rfl⟩ := List.mem_map.mp hk'
    obtain ⟨h1, h2, _⟩ := okE (hall p hp)
    exact ⟨h2, by rw [encK_strs h1]; exact h1⟩
  · unfold valOf
    have hsome : (ds.find? fun p => decide (strsOf p.1 = k)).isSome = true := by
      obtain ⟨p, hp, rfl⟩ := List.mem_map.mp hk'
      rw [List.find?_isSome]
      exact ⟨p, hp, by simp⟩
    obtain ⟨p, hp⟩ := Option.isSome_iff_exists.mp hsome
    have hm := List.mem_of_find?_eq_some hp
    have hkp : strsOf p.1 = k := by have := List.find?_some hp; simpa using this
    obtain ⟨i, hi⟩ := List.mem_iff_getElem?.mp hm
    obtain ⟨kv, h1, _, h3⟩ := hget i p hi
    obtain ⟨_, _, hnum⟩ := okE (hall p hm)
    obtain ⟨ei, hb⟩ := num_int hnum
    rw [hp]
    refine ⟨?_, hb⟩
    have e2 : (ds.map Prod.snd)[i]? = some (.int (intOf p.2)) := by rw [List.getElem?_map, hi, ← ei]; rfl
    obtain ⟨v, hv1, hv2⟩ := hv.get e2
    cases hv2
    rw [List.getElem?_map, h1] at hv1
    have e3 : kv.2 = .int (intOf p.2) := Option.some.inj hv1
    have := val_at hn (i := i) (k := kv.1) (v := kv.2) (by rw [h1])
    rw [h3, hkp, e3] at this
    exact this
theorem rowT_len {ds : List (PyData × PyData)} {k : List Str} (h1 : isPath (encK k) = true) (h2 : (valOf ds k).natAbs ≤ 1000000000) : (rowT ds k).length ≤ 39 := by
  have l0 : blS.length = 1 := by decide +kernel
  have h3 := pathText_len h1
  have h4 := numT_len h2
  unfold rowT
  rw [len_app, len_app, l0]
  omega
theorem KAt.get {H : Hp} : ∀ {bs : List Addr} {ks : List (List Str)} {i : Nat} {b : Addr}, KAt H bs ks → bs[i]? = some b → ∃ k, ks[i]? = some k ∧ H b = some (.tup (k.map V.str))
  | _, _, _, _, .nil, h => by simp at h
  | _, _, 0, _, .cons h0 _, h => by
    simp at h
    subst h
    exact ⟨_, rfl, h0⟩
  | _, _, i + 1, b, .cons _ t, h => by
    obtain ⟨k, h1, h2⟩ := KAt.get (i := i) (b := b) t (by simpa using h)
    exact ⟨k, by simpa using h1, h2⟩
theorem KAt.length {H : Hp} {bs : List Addr} {ks : List (List Str)} (h : KAt H bs ks) : bs.length = ks.length := Paired.length h
def spStateT (CS : Addr) : Sp := fun vs H Q E => ∃ v d, vs = [v] ∧ R H v d ∧ (isState d = false → ∀ H', Same H H' → E (.ref CS) none H') ∧
  (isState d = true → dlen d ≤ 2000 ∧ (∃ a kvs, v = .ref a ∧ H a = some (.dT kvs)) ∧ ∀ H', Same H H' → Q (.str (stateText d)) H')
theorem state_rows {ds : List (PyData × PyData)} {H : Hp} {a : Addr} {kvs : List (List Key × V)} (S : StAt H a kvs ds) : ∀ z ∈ (isortK (keysOf ds)).map (rowT ds), z.length ≤ 39 := fun z hz => by
  obtain ⟨k, hk, rfl⟩ := List.mem_map.mp hz
  have hk' := (isortK_perm _).mem_iff.mp hk
  exact rowT_len (S.path k hk').2 (S.val k hk').2
/-- [e for x in sorted(d)] -/
theorem el_lcSrt {K : PySem.W.Frag} {σ : St} {H : Hp} {ta te : TE} {a : Addr} {kvs : List (List Key × V)} {ks : List (List Str)} {jx : Nat} {vs : List Nat} (h : Ev ta σ H (.ref a)) (ha : H a = some (.dT kvs)) (hks : kvs.map (·.1) = ks.map (·.map Sum.inr)) (hne : ∀ k ∈ ks, k ≠ []) (ws : List V) (hn : ws.length = ks.length) (hz : ks.length ≤ 40000)
    (hw : ∀ x, wipe ((wipe σ vs).set jx (some x)) vs = wipe σ vs) (he : ∀ (i : Nat) b k H1, Ex H H1 → (isortK ks)[i]? = some k → H1 b = some (.tup (k.map V.str)) → Ev te ((wipe σ vs).set jx (some (.ref b))) H1 (ws.getD i .non)) :
    EvL (tLc (iList K (tCB rSortDT (tCons ta tNil))) (gName jx) tYes te vs) σ H ws := fun H0 e0 Q q => h H0 e0 _ fun H1 e1 => ⟨a, kvs, ks, rfl, .inl ((e0.trans e1) _ _ ha), hks, hne, fun p bs hp hK => by
      rw [sortK_eq] at hK
      have e2 : Ex H1 (upd H1 p (.lst (bs.map V.ref))) := Ex.new hp
      have hp2 : upd H1 p (.lst (bs.map V.ref)) p = some (.lst (bs.map V.ref)) := upd_same
      have hl : (bs.map V.ref).length = ks.length := by rw [List.length_map, hK.length, (isortK_perm ks).length_eq]
      generalize upd H1 p (.lst (bs.map V.ref)) = H2 at e2 hp2
      refine ⟨p, rfl, ⟨_, .inl (.inl hp2)⟩, fun D hD => lc_w (walk_list (K := K) (a := p) (xs := bs.map V.ref)) (fun H' e3 => .inl (.inl (e3 _ _ hp2))) ws (by rw [hn, hl]) (by rw [hl]; exact hz) hw (fun i u hi hu => ?_) hD fun H5 e5 h5 => q D H5 (Evl.fresh_back (e1.trans e2) hD) ((e1.trans e2).trans e5) h5⟩
      rw [List.getElem?_map] at hu
      obtain ⟨b, hb, rfl⟩ : ∃ b, bs[i]? = some b ∧ u = V.ref b := by
        cases e : bs[i]? with
        | none => rw [e] at hu; cases hu
        | some zz => rw [e] at hu; exact ⟨zz, rfl, (Option.some.inj hu).symm⟩
      obtain ⟨k, hk1, hk2⟩ := hK.get hb
      exact he i b k H2 ((e0.trans e1).trans e2) hk1 (e2 _ _ hk2)⟩
theorem strs_inj : ∀ {x y : List Str}, x.map PyData.str = y.map PyData.str → x = y
  | [], [], _ => rfl
  | [], _ :: _, h => by simp at h
  | _ :: _, [], h => by simp at h
  | a :: x, b :: y, h => by
    simp only [List.map_cons, List.cons.injEq, PyData.str.injEq] at h
    rw [h.1, strs_inj h.2]
section
variable {P : Program} {w : World} {K : PySem.W.Frag} {mg : Str → Option Value} {base : Heap} {CS CT : Addr}
theorem scStateText : FnScope ["state", "path"] ["state"] (defScope sStateText) := ⟨rfl, rfl, rfl, by decide +kernel, rfl, by decide +kernel, by decide +kernel⟩
theorem ok_stateText {f : Addr} {fd : FuncData} (F : L2.Fun K "state_text" "state_text" sStateText f fd) (hm : mg "state_text" = some (.ref f)) (hb : Binds K fd ["state"] []) (T : Tx K mg) (B : Tb K mg) (D4 : Df P w K mg base "need_state" 4 ["state"] (spRef CS isState)) (Dp : Df P w K mg base "path_text" 1 ["path"] spPathT) :
    Df P w K mg base "state_text" 5 ["state"] (spStateT CS) := by
  refine df_of F hm hb scStateText (fun vs H Q E h => by obtain ⟨_, _, rfl, _⟩ := h; rfl) (fun cdv A outer s H vs Q E hr h => ?_)
  obtain ⟨v, d, rfl, rd, k1, k2⟩ := h
  have hu := hu_of hr
  have hun := hr.units
  have tk := L2N.takes_of (X := cxOf (L2N.CX P w) P w K mg base ["state", "path"] "state_text" (defScope sStateText) f cdv A outer s H E) (E := E) (E₁ := fun e' s'' => L2N.CX P w outer H s E e' s'') rfl rfl rfl rfl
  refine ⟨_, pss_cons (ps_expr (pe_df D4 hr (Nat.le_refl _) (by rfl) (taken tk fun _ _ _ _ h => h) (pa_cons (pv 0) pa_nil)))
    (pss_one (ps_ret (pe_join pe_str (pe_lc (own := [("path", 1)]) (g := gName 1) (tt := tYes) rfl scStateText.nd (pi_list (pe_callB (call_sortedDT rfl (Nat.lt_of_le_of_lt (Nat.add_le_add_left (by decide) _) hun)) (by rfl) B.srt (by decide +kernel) (pa_cons (pv 0) pa_nil))) (blkOk_by (own := [("path", 1)]) (N := ["state", "path"]) (sc := defScope sStateText) (by decide +kernel))
      (fun _ _ _ _ _ => pg_name (i := 1) scStateText.nd rfl (Or.inl rfl)) (fun _ _ _ _ _ => pts_nil)
      (fun _ _ _ _ _ => pe_op op_add_str (pe_op op_add_str (pe_df Dp hr (by decide) (by rfl) passN (pa_cons (pv 1) pa_nil)) pe_str) (pe_callTy call_str_int (by rfl) T.str boot_str (pa_cons (pe_dget hu (pv 0) (pv 1) (fun _ _ => rfl)) pa_nil))))))), ?_⟩
  refine q_ref (ed_var rfl rd) (fun z H1 e1 => ?_) (fun z H1 e1 => k1 z H1 e1)
  obtain ⟨hlen, ⟨a, kvs0, rfl, ha0⟩, k3⟩ := k2 z
  cases rd with
  | @dT _ kvs ds ha hn hk hv =>
    have S := st_at (a := a) z hn.2 hk hv
    have ha1 := e1 _ _ ha
    have hks : (keysOf ds).length = ds.length := List.length_map ..
    have hrl : ((isortK (keysOf ds)).map (rowT ds)).length = ds.length := by rw [List.length_map, (isortK_perm _).length_eq, hks]
    have hl2 : ds.length ≤ 2000 := hlen
    have hrows := state_rows S
    have hsum := sum_le hrows
    have l0 : nlS.length = 1 := by decide +kernel
    refine s_retD (d := .str (stateText (.dict ds))) (ed_join (X := cxOf (L2N.CX P w) P w K mg base ["state", "path"] "state_text" (defScope sStateText) f cdv A outer s H E) (y := nlS) (zs := (isortK (keysOf ds)).map (rowT ds)) (ed_c (v := .str nlS) (.str _ (by decide +kernel))) (EvD.ofL (el_lcSrt (a := a) (kvs := kvs) (ks := keysOf ds) (Evl.ev_var rfl) ha1 S.keys (fun k hk => (S.path k hk).1) (((isortK (keysOf ds)).map (rowT ds)).map V.str) ?_ ?_ (fun _ => rfl) fun i b k H2 e2 hk1 hb2 => ?_) (rs_strs fun z hz => Nat.le_trans (hrows z hz) (by decide))) (.inr rfl) ?_) fun v1 H5 e5 r1 => by cases r1; exact k3 H5 (e1.trans e5)
    · rw [List.length_map, hrl, hks]
    · rw [hks]; omega
    · have hmem := (isortK_perm (keysOf ds)).mem_iff.mp (List.mem_of_getElem? hk1)
      obtain ⟨hne, hpath⟩ := S.path k hmem
      obtain ⟨hval, habs⟩ := S.val k hmem
      have hgd : (((isortK (keysOf ds)).map (rowT ds)).map V.str).getD i .non = .str (rowT ds k) := by simp [hk1]
      rw [hgd]
      obtain ⟨zs, ez, es, _, hw⟩ := path_strs hpath
      have ezk : zs = k := (strs_inj (PyData.tuple.inj (show PyData.tuple (k.map PyData.str) = .tuple (zs.map PyData.str) from ez))).symm
      have rb : R H2 (.ref b) (encK k) := .tup hb2 (rs_strs fun z hz => Nat.le_trans (word_len (hw z (by rw [ezk]; exact hz))).2 (by decide))
      have lb : blS.length = 1 := by decide +kernel
      have l1 := pathText_len hpath
      have l2 := numT_len habs
      refine EvD.ts (x := rowT ds k) (ed_addS (ed_addS (ed_pathT (ed_var rfl rb) hpath) (ed_c (v := .str blS) (.str _ (by decide +kernel))) (by rw [lb]; omega)) (ed_strI (i := valOf ds k) (fun H6 e6 Q6 q6 => ?_) habs) (by rw [len_app, lb]; show _ + (numT (valOf ds k)).length ≤ _; omega))
      refine ⟨_, rfl, _, rfl, a, .int (valOf ds k), rfl, .inr ⟨kvs, k.map Sum.inr, b, .inl (e6 _ _ (e2 _ _ ha1)), rfl, ?_, hval.symm⟩, q6 _ H6 (Ex.refl _) (.int _)⟩
      rw [e6 _ _ hb2, List.map_map]
      rfl
    · rw [l0, hrl]
      rw [hrl] at hsum
      omega
  | @dK _ kvs ds ha hn hk hv =>
    rw [ha] at ha0
    cases ha0
  | _ => cases z
end
end Lk
set_option Elab.async false
set_option linter.all false
set_option maxRecDepth 100000
set_option maxHeartbeats 4000000
namespace Lk
open PySem PySem.Spec PyProof.Rows L2 HotX L2H LamX
open Evl (Ev EvL EvA EvT Ex EvU)
open TL
abbrev Ps := List (List Str × Int)
def keyIn (z : Str) : List Str := if z = dotS then [] else Txt.split z dotS
theorem pathIn_key (z : Str) : pathIn z = encK (keyIn z) := by
  unfold pathIn keyIn encK
  by_cases h : z = dotS
  · rw [if_pos h, if_pos h]; rfl
  · rw [if_neg h, if_neg h]
def putS (l : Ps) (k : List Str) (n : Int) : Ps := if (l.any fun kv => decide (kv.1 = k)) = true then l.map (fun kv => if kv.1 = k then (kv.1, n) else kv) else l ++ [(k, n)]
def rowIn (row : Str) : Option (List Str × Int) := match Txt.split row blS with
  | [a, b] => if okNum b = true then some (keyIn a, numVal b) else none
  | _ => none
def foldRows : List Str → Ps → Option Ps
  | [], acc => some acc
  | row :: r, acc => (rowIn row).bind fun p => foldRows r (putS acc p.1 p.2)
def rowsIn (z : Str) : List Str := if z = Str.empty then [] else Txt.split z nlS
def dsOf (l : Ps) : List (PyData × PyData) := l.map fun p => (encK p.1, .int p.2)
def stateIn : PyData → Option PyData
  | .str z => (foldRows (rowsIn z) []).bind fun l => if (isState (.dict (dsOf l)) && decide (stateText (.dict (dsOf l)) = z)) = true then some (.dict (dsOf l)) else none
  | _ => none
/-! ### as it lies in the heap -/
def kvOf (p : List Str × Int) : List Key × V := (p.1.map Sum.inr, .int p.2)
theorem inr_inj : ∀ {x y : List Str}, x.map (Sum.inr : Str → Key) = y.map Sum.inr → x = y
  | [], [], _ => rfl
  | [], _ :: _, h => by simp at h
  | _ :: _, [], h => by simp at h
  | a :: x, b :: y, h => by
    simp only [List.map_cons, List.cons.injEq, Sum.inr.injEq] at h
    rw [h.1, inr_inj h.2]
theorem put_kv (l : Ps) (k : List Str) (n : Int) : putK (l.map kvOf) (k.map Sum.inr) (.int n) = (putS l k n).map kvOf := by
  have e : ∀ p : List Str × Int, decide ((kvOf p).1 = k.map Sum.inr) = decide (p.1 = k) := fun p => by
    rw [decide_eq_decide]
    exact ⟨fun h => inr_inj h, fun h => by rw [← h]; rfl⟩
  have ea : ((l.map kvOf).any fun kv => decide (kv.1 = k.map Sum.inr)) = l.any fun kv => decide (kv.1 = k) := by
    rw [List.any_map]
    congr 1
    funext p
    exact e p
  unfold putK putS
  rw [ea]
  split
  · rw [List.map_map, List.map_map]
    apply List.map_congr_left
    intro p hp
    show (if (kvOf p).1 = k.map Sum.inr then _ else _) = kvOf (if p.1 = k then _ else _)
    by_cases h : p.1 = k
    · rw [if_pos h, if_pos (by rw [← h]; rfl)]
      rfl
    · rw [if_neg h, if_neg (show ¬ (kvOf p).1 = k.map Sum.inr from fun h' => h (inr_inj h'))]
  · rw [List.map_append]
    rfl
theorem putS_keys (l : Ps) (k : List Str) (n : Int) : (putS l k n).map Prod.fst = if (l.any fun kv => decide (kv.1 = k)) = true then l.map Prod.fst else l.map Prod.fst ++ [k] := by
  unfold putS
  split
  · rw [List.map_map]
    apply List.map_congr_left
    intro p hp
    show (if p.1 = k then (p.1, n) else p).1 = p.1
    split <;> rfl
  · rw [List.map_append]; rfl
theorem putS_nodup {l : Ps} {k : List Str} {n : Int} (h : (l.map Prod.fst).Nodup) : ((putS l k n).map Prod.fst).Nodup := by
  rw [putS_keys]
  split
  · exact h
  · rename_i hn
    rw [List.nodup_append]
    refine ⟨h, by simp, fun a ha b hb e => hn ?_⟩
    rw [List.mem_singleton] at hb
    subst hb e
    obtain ⟨p, hp, rfl⟩ := List.mem_map.mp ha
    exact List.any_eq_true.mpr ⟨p, hp, by simp⟩
theorem putS_len (l : Ps) (k : List Str) (n : Int) : (putS l k n).length ≤ l.length + 1 := by
  unfold putS
  split
  · simp
  · simp
theorem putS_mem {l : Ps} {k : List Str} {n : Int} {q : List Str} (h : q ∈ (putS l k n).map Prod.fst) : q = k ∨ q ∈ l.map Prod.fst := by
  rw [putS_keys] at h
  split at h
  · exact .inr h
  · rcases List.mem_append.mp h with h | h
    · exact .inr h
    · exact .inl (List.mem_singleton.mp h)
/-- the dict at d holds l -/
structure FdAt (H : Hp) (d : Addr) (l : Ps) : Prop where
  at_ : H d = some (.dT (l.map kvOf))
  nd : (l.map Prod.fst).Nodup
  sz : ∀ k ∈ l.map Prod.fst, ∀ z ∈ k, z.length ≤ 100000
theorem FdAt.r {H : Hp} {d : Addr} {l : Ps} (h : FdAt H d l) : R H (.ref d) (.dict (dsOf l)) := by
  refine .dT h.at_ ⟨fun kv hkv x hx => ?_, ?_⟩ ?_ ?_
  · obtain ⟨p, hp, rfl⟩ := List.mem_map.mp hkv
    have hx' : Sum.inr x ∈ p.1.map (Sum.inr : Str → Key) := hx
    obtain ⟨y, hy, e⟩ := List.mem_map.mp hx'
    rw [← Sum.inr.inj e]
    exact h.sz p.1 (List.mem_map_of_mem hp) y hy
  · rw [List.map_map]
    have : (Prod.fst ∘ kvOf : List Str × Int → List Key) = (fun k : List Str => k.map Sum.inr) ∘ Prod.fst := rfl
    rw [this, ← List.map_map]
    exact List.Pairwise.map _ (fun a b hab e => hab (inr_inj e)) h.nd
  · unfold dsOf
    rw [List.map_map, List.map_map]
    apply List.map_congr_left
    intro p _
    show encK p.1 = PyData.tuple ((p.1.map Sum.inr).map kD)
    rw [List.map_map]
    rfl
  · have : ∀ l : Ps, Rs H ((l.map kvOf).map Prod.snd) ((dsOf l).map Prod.snd) := by
      intro l
      induction l with
      | nil => exact .nil
      | cons p r ih => exact .cons (.int _) ih
    exact this l
theorem FdAt.put {H : Hp} {d : Addr} {l : Ps} {k : List Str} {n : Int} (h : FdAt H d l) (hk : ∀ z ∈ k, z.length ≤ 100000) : FdAt (upd H d (.dT (putK (l.map kvOf) (k.map Sum.inr) (.int n)))) d (putS l k n) :=
  ⟨by rw [put_kv]; exact upd_same, putS_nodup h.nd, fun q hq z hz => (putS_mem hq).elim (fun e => hk z (e ▸ hz)) fun m => h.sz q m z hz⟩
theorem FdAt.keep {H H' : Hp} {d : Addr} {l : Ps} (h : FdAt H d l) (e : Ex H H') : FdAt H' d l := ⟨e _ _ h.at_, h.nd, h.sz⟩
theorem dsOf_len (l : Ps) : (dsOf l).length = l.length := List.length_map ..
theorem foldRows_len : ∀ (rows : List Str) (acc l : Ps), foldRows rows acc = some l → l.length ≤ acc.length + rows.length
  | [], acc, l, h => by cases h; simp
  | row :: r, acc, l, h => by
    rw [foldRows] at h
    cases hr : rowIn row with
    | none => rw [hr] at h; cases h
    | some p =>
      rw [hr] at h
      have h1 := foldRows_len r _ _ h
      have h2 := putS_len acc p.1 p.2
      rw [List.length_cons]
      omega
def spStateIn (CT : Addr) : Sp := fun vs H Q E => ∃ v d, vs = [v] ∧ R H v d ∧ (∀ z, d = .str z → (rowsIn z).length ≤ 2000) ∧ (∀ l, stateIn d = some (.dict (dsOf l)) → ∀ q H', Same H H' → H q = none → FdAt H' q l → Q (.ref q) H') ∧ (stateIn d = none → ∀ H', Same H H' → E (.ref CT) none H')
section
variable {P : Program} {w : World} {K : PySem.W.Frag} {mg : Str → Option Value} {base : Heap} {CS CT : Addr}
theorem scStateIn : FnScope ["text", "found", "row", "words"] ["text"] (defScope sStateIn) := ⟨rfl, rfl, rfl, by decide +kernel, rfl, by decide +kernel, by decide +kernel⟩
theorem ok_stateIn {f : Addr} {fd : FuncData} (F : L2.Fun K "state_in" "state_in" sStateIn f fd) (hm : mg "state_in" = some (.ref f)) (hb : Binds K fd ["text"] []) (T : Tx K mg) (D0 : Df P w K mg base "need_text" 1 ["good"] (spNeed CT)) (Dp : Df P w K mg base "path_in" 1 ["word"] spPathI) (Dn : Df P w K mg base "number_in" 2 ["word"] (spNumI CT))
    (D3 : Df P w K mg base "is_state" 3 ["state"] (spF 1 (f1 isState))) (Ds : Df P w K mg base "state_text" 5 ["state"] (spStateT CS)) :
    Df P w K mg base "state_in" 6 ["text"] (spStateIn CT) := by
  refine df_of F hm hb scStateIn (fun vs H Q E h => by obtain ⟨_, _, rfl, _⟩ := h; rfl) (fun cdv A outer s H vs Q E hr h => ?_)
  obtain ⟨v, d, rfl, rd, hrow, k1, k2⟩ := h
  have hu := hu_of hr
  have tk := L2N.takes_of (X := cxOf (L2N.CX P w) P w K mg base ["text", "found", "row", "words"] "state_in" (defScope sStateIn) f cdv A outer s H E) (E := E) (E₁ := fun e' s'' => L2N.CX P w outer H s E e' s'') rfl rfl rfl rfl
  refine ⟨_, pss_cons (ps_expr (pe_df D0 hr (by decide) (by rfl) (taken tk fun _ _ _ _ h => h) (pa_cons (pe_callB (call_isD (T := "str")) (by rfl) T.isi boot_isinstance (pa_cons (pv 0) (pa_cons (pe_bltn (v := .ty "str") (by rfl) T.str boot_str rfl) pa_nil))) pa_nil)))
    (pss_cons (ps_set (i := 1) scStateIn.nd rfl (Or.inl rfl) pe_dnewT)
    (pss_cons (ps_for (passes_of (K := fun e s'' => L2N.CX P w outer H s E e s'') (E₁ := fun e s'' => L2N.CX P w outer H s E e s'') rfl) rfl (pi_list (pe_ifExp (pt_cmpR op_ne (pv 0) pe_str (nomark _)) (pe_split (pv 0) pe_str) (pe_lst pa_nil))) (pg_name (i := 2) scStateIn.nd rfl (Or.inl rfl))
      (pss_cons (ps_set (i := 3) scStateIn.nd rfl (Or.inl rfl) (pe_split (pv 2) pe_str))
      (pss_cons (ps_expr (pe_df D0 hr (by decide) (by rfl) (taken tk fun _ _ _ _ h => h) (pa_cons (pe_cmpR op_eq (pe_callB call_len_seq (by rfl) T.len PySem.boot_len (pa_cons (pv 3) pa_nil)) pe_int (nomark _)) pa_nil)))
      (pss_one (ps_dput hu (pv 1) (pe_df Dp hr (by decide) (by rfl) passN (pa_cons (pe_ix ix_list (pv 3) pe_int (fun _ _ => rfl)) pa_nil)) (pe_df Dn hr (by decide) (by rfl) (taken tk fun _ _ _ _ h => h) (pa_cons (pe_ix ix_list (pv 3) pe_int (fun _ _ => rfl)) pa_nil)) rfl)))))
    (pss_cons (ps_expr (pe_df D0 hr (by decide) (by rfl) (taken tk fun _ _ _ _ h => h) (pa_cons (pe_and (pe_df D3 hr (by decide) (by rfl) passN (pa_cons (pv 1) pa_nil)) (pe_one (pe_cmpR op_eq (pe_df Ds hr (Nat.le_refl _) (by rfl) (E := fun _ _ _ => False) passN (pa_cons (pv 1) pa_nil)) (pv 0) (nomark _)))) pa_nil)))
    (pss_one (ps_ret (pv 1)))))), ?_⟩
  refine q_need (b := isStr d) (ed_isi (ed_var rfl rd) (kit_str d)) (fun hs H1 e1 => ?_) (fun hs H1 e1 => k2 (by cases d <;> first | rfl | cases hs) H1 e1)
  cases rd with
  | str z hz =>
    intro q hq
    have hq0 : H q = none := Evl.fresh_back e1 hq
    have back : ∀ {H' : Hp}, But q (upd H1 q (.dT [])) H' → Same H H' := fun b b' o hb => by
      have n1 : b' ≠ q := fun e => by rw [e, hq0] at hb; cases hb
      exact b b' o (by rw [upd_ne n1]; exact e1 _ _ hb) n1
    have fd0 : FdAt (upd H1 q (.dT [])) q [] := ⟨upd_same, List.Pairwise.nil, fun k hk => by cases hk⟩
    generalize upd H1 q (.dT []) = H2 at back fd0
    show tSeq _ _ _ [some (.str z), some (.ref q), none, none] H2
    have hrl := hrow z rfl
    have hrows : ∀ y ∈ rowsIn z, y.length ≤ 100000 := fun y hy => by
      unfold rowsIn at hy
      by_cases he : z = Str.empty
      · rw [if_pos he] at hy; cases hy
      · rw [if_neg he] at hy
        exact Nat.le_trans ((split_len (z := z) (y := nlS) (by decide +kernel) (by decide +kernel)).1 y hy) hz
    have elist : EvD (tIf (tTest (tOp rNe (tVar 0) (tC (.str Str.empty)))) (tM1 (fun x xs H Q => ∃ a b, x = .str a ∧ xs = [.str b] ∧ (b.length == 0) = false ∧ a.length + 2 ≤ sizeLine ∧ rNewStrs (Txt.split a b) H Q) (tVar 0) (tC (.str nlS))) (tLst tNil)) [some (.str z), some (.ref q), none, none] H2 (.list ((rowsIn z).map PyData.str)) := by
      refine ed_if (b := !decide (z = Str.empty)) (Evl.et_test (ed_neS (ed_var rfl (.str z hz)) (ed_c (v := .str Str.empty) (.str _ (by decide +kernel)))).vb) (fun hb1 => ?_) (fun hb1 => ?_)
      · have he : ¬ z = Str.empty := by simpa using hb1
        have e : rowsIn z = Txt.split z nlS := by unfold rowsIn; rw [if_neg he]
        rw [e] at hrows ⊢
        exact ed_split (ed_var rfl (.str z hz)) (ed_c (v := .str nlS) (.str _ (by decide +kernel))) (by decide +kernel) (by decide +kernel) (by decide +kernel) (by omega) hrows
      · have he : z = Str.empty := by simpa using hb1
        have e : rowsIn z = [] := by unfold rowsIn; rw [if_pos he]
        rw [e]
        exact ed_lst eds_nil (by decide)
    refine elist H2 (Ex.refl _) _ fun vl H3 e3 rl => ?_
    cases rl with
    | @lst p xs _ hp rs =>
      obtain ⟨exs, _⟩ := rs_strs' rs
      subst exs
      have npq : p ≠ q := ne_of hp (e3 _ _ fd0.at_) (fun z => nomatch z)
      refine ⟨p, rfl, ⟨_, .inl (.inl hp)⟩, for_list (K := K) (a := p) (xs := (rowsIn z).map V.str) (fun n σ' H' => (∃ o2 o3, σ' = [some (.str z), some (.ref q), o2, o3]) ∧ But q H3 H' ∧ ∃ l, FdAt H' q l ∧ l.length ≤ n ∧ foldRows (rowsIn z) [] = foldRows ((rowsIn z).drop n) l) ⟨⟨_, _, rfl⟩, But.refl _, [], fd0.keep e3, Nat.le_refl _, rfl⟩ (fun n σ' H' _ hh => .inl (.inl (hh.2.1 _ _ hp npq))) (fun n x σ' H' hx hh => ?_) (fun σ' H' hh => ?_)⟩
      · obtain ⟨⟨o2, o3, rfl⟩, b4, l, fl, hln, hfold⟩ := hh
        rw [List.getElem?_map] at hx
        obtain ⟨row, hrw, rfl⟩ : ∃ y, (rowsIn z)[n]? = some y ∧ x = V.str y := by
          cases e : (rowsIn z)[n]? with
          | none => rw [e] at hx; cases hx
          | some zz => rw [e] at hx; exact ⟨zz, rfl, (Option.some.inj hx).symm⟩
        have hn : n < (rowsIn z).length := (List.getElem?_eq_some_iff.mp hrw).1
        have hdrop : (rowsIn z).drop n = row :: (rowsIn z).drop (n + 1) := by
          rw [List.drop_eq_getElem_cons hn]
          congr 1
          rw [List.getElem?_eq_getElem hn] at hrw
          exact Option.some.inj hrw
        have hrwl := hrows row (List.mem_of_getElem? hrw)
        have hsp := split_len (z := row) (y := blS) (by decide +kernel) (by decide +kernel)
        rw [hdrop, foldRows] at hfold
        have bad : rowIn row = none → stateIn (.str z) = none := fun e => by
          show (foldRows (rowsIn z) []).bind _ = none
          rw [hfold, e]
          rfl
        show tSeq _ _ _ [some (.str z), some (.ref q), some (.str row), o3] H'
        refine q_asgD (d := .list ((Txt.split row blS).map PyData.str)) (ed_split (ed_var rfl (.str row hrwl)) (ed_c (v := .str blS) (.str _ (by decide +kernel))) (by decide +kernel) (by decide +kernel) (by decide +kernel) (by omega) (fun p hp => Nat.le_trans (hsp.1 p hp) hrwl)) fun vw H5 e5 r5 => ?_
        show tSeq _ _ _ [some (.str z), some (.ref q), some (.str row), some vw] H5
        have out5 : ∀ {H'' : Hp}, Ex H5 H'' → Same H H'' := fun e => back (((But.ofEx e3).trans b4).trans (But.ofEx (e5.trans e)))
        refine q_need (b := decide (((Txt.split row blS).length : Int) = 2)) (ed_eqI (i := ((Txt.split row blS).length : Int)) (ed_is (ed_lenQ (ed_var rfl r5) (.inr rfl)) (by rw [List.length_map])) (ed_c (.int 2))) (fun h2 H6 e6 => ?_) (fun h2 H6 e6 => k2 (bad ?_) H6 (out5 e6))
        · have h2' : (Txt.split row blS).length = 2 := by have := of_decide_eq_true h2; omega
          obtain ⟨a, b, hab⟩ : ∃ a b, Txt.split row blS = [a, b] := by
            match hm : Txt.split row blS, h2' with
            | [a, b], _ => exact ⟨a, b, rfl⟩
          have r6 := r5.ext (exN e6)
          rw [hab] at r6
          have hal : a.length ≤ 100000 := Nat.le_trans (hsp.1 a (by rw [hab]; simp)) hrwl
          have hbl : b.length ≤ 100000 := Nat.le_trans (hsp.1 b (by rw [hab]; simp)) hrwl
          have hri : rowIn row = if okNum b = true then some (keyIn a, numVal b) else none := by unfold rowIn; rw [hab]
          refine (ed_ixL (K := K) (k := 1) (d := .str b) (ed_var rfl r6) (ed_c (.int 1)) rfl).ts H6 (Ex.refl _) _ fun H7 e7 => ⟨b, rfl, hbl, fun ho H8 s8 => ?_, fun ho H8 s8 => k2 (bad (by rw [hri, if_neg (by rw [ho]; exact Bool.false_ne_true)])) H8 (out5 ((e6.trans e7).trans s8))⟩
          have e58 : Ex H5 H8 := (e6.trans e7).trans s8
          refine ⟨_, rfl, (ed_pathI (E := E0) (ed_ixL (K := K) (k := 0) (d := .str a) (ds := ([a, b] : List Str).map PyData.str) (tb := tC (.int 0)) (ed_var rfl (r6.ext (exN (Evl.Ex.trans e7 s8)))) (ed_c (.int 0)) rfl)) H8 (Ex.refl _) _ fun vk H9 e9 r9 => ?_⟩
          rw [pathIn_key] at r9
          have fl9 : FdAt H9 q l := (fl.keep e5).keep (e58.trans e9)
          cases r9 with
          | @tup kb kxs _ hkb rk =>
            obtain ⟨ekx, hkz⟩ := rs_strs' rk
            subst ekx
            refine ⟨q, _, rfl, DPut.t (k := (keyIn a).map Sum.inr) fl9.at_ (by rw [hkb, List.map_map]; rfl) ?_, ?_⟩
            · rw [List.length_map]
              exact Evl.sz_lt (by omega)
            · refine ⟨⟨_, _, rfl⟩, fun b' o hb' hne => ?_, putS l (keyIn a) (numVal b), fl9.put hkz, ?_, ?_⟩
              · rw [upd_ne hne]
                exact e9 _ _ (e58 _ _ (e5 _ _ (b4 _ _ hb' hne)))
              · have := putS_len l (keyIn a) (numVal b)
                omega
              · rw [hfold, hri, if_pos ho]
                rfl
        · unfold rowIn
          match hm : Txt.split row blS with
          | [] => rfl
          | [_] => rfl
          | [_, _] => rw [hm] at h2; exact absurd h2 (by simp)
          | _ :: _ :: _ :: _ => rfl
      · obtain ⟨⟨o2, o3, rfl⟩, b4, l, fl, hln, hfold⟩ := hh
        rw [List.length_map] at hln hfold
        rw [List.drop_length] at hfold
        have hf : foldRows (rowsIn z) [] = some l := hfold
        have out4 : ∀ {H'' : Hp}, Ex H' H'' → Same H H'' := fun e => back (((But.ofEx e3).trans b4).trans (But.ofEx e))
        have hsi : stateIn (.str z) = if (isState (.dict (dsOf l)) && decide (stateText (.dict (dsOf l)) = z)) = true then some (.dict (dsOf l)) else none := by
          show (foldRows (rowsIn z) []).bind _ = _
          rw [hf]
          rfl
        refine q_need (b := isState (.dict (dsOf l)) && decide (stateText (.dict (dsOf l)) = z)) (ed_and (ed_call (eds_cons (ed_var rfl fl.r) eds_nil) rfl rfl) fun hst => ?_) (fun hb H5 e5 => ?_) (fun hb H5 e5 => k2 (by rw [hsi, if_neg (by rw [hb]; exact Bool.false_ne_true)]) H5 (out4 e5))
        · refine Ev.db (Evl.ev_is (Evl.ev_op (x := .str (stateText (.dict (dsOf l)))) (y := .str z) (fun H5 e5 Q5 q5 => ?_) (Evl.ev_var rfl) (Evl.rv_eq rfl)) (by simp))
          have fl5 := fl.keep e5
          refine ⟨_, rfl, .ref q, .dict (dsOf l), rfl, fl5.r, (fun h => absurd h (by rw [hst]; exact fun z => nomatch z)), fun _ => ⟨?_, ⟨q, _, rfl, fl5.at_⟩, fun H6 s6 => q5 H6 s6⟩⟩
          show (dsOf l).length ≤ 2000
          rw [dsOf_len]
          omega
        · refine ⟨_, rfl, k1 l (by rw [hsi, if_pos hb]) q H5 (out4 e5) hq0 (fl.keep e5)⟩
  | _ => cases hs
end
end Lk
set_option Elab.async false
set_option linter.all false
set_option maxRecDepth 100000
set_option maxHeartbeats 4000000
namespace Lm
open PySem PySem.Spec PyProof.Rows L2 HotX LamX
/-- what the lambda's frame makes of an exception -/
def lamXe (X : Cx) (A : Around) (outer : List Env) (s : Shared) (H : Hp) (E : XK) (scope : Scope) (f c' : Addr) : Value → Shared → Prop := fun e s' =>
  wpAny (model X.prog X.w) (A.deeper (lamEnv X scope s.heap.objs.size f c')) (leaving (lamEnv X scope s.heap.objs.size f c') e) (fun _ s'' => CX X.prog X.w outer H s E e s'') (fun e' s'' => CX X.prog X.w outer H s E e' s'') s'
/-- the context of the lambda's body -/
abbrev lamCxN (X : Cx) (A : Around) (outer : List Env) (s : Shared) (H : Hp) (E : XK) (scope : Scope) (f c' : Addr) : Cx := (lamCx X A outer s H E scope f c').wish (lamXe X A outer s H E scope f c')
section
variable {X : Cx} {pins : List (Addr × Obj)} {σ : L2.St} {H : Hp} {s : Shared}
/-- a() in the def that got the lambda -/
theorem pe_actN {Ng : List Str} {qg : Str} {sg : Scope} {g f c' : Addr} {cdg pm ctv : Value} {params : Arguments} {body : Expr} {scope : Scope} {k i : Nat} {a : Str} {pn : List (Addr × Obj)} {xe : Value → Shared → Prop} {W : WX} {E : XK} {tb : TE} {p1 p2 : Pos}
    (I : Inv X pins σ H s) (L : LamS X.env.scope scope) (hf : s.heap.get? f = some (PySem.W.kla_obj "<lambda>" (X.env.qual ++ "<lambda>") params body scope (cloFrom X.env.cells scope.names []) pm c' ctv)) (hfn : H f = none) (hfr : f ∉ frs X.stack)
    (hbind : bindArgs (PySem.W.kla_fn "<lambda>" (X.env.qual ++ "<lambda>") params body scope (cloFrom X.env.cells scope.names []) pm (.ref c') ctv) ⟨[], []⟩ = pure [])
    (tk : Takes ((cxOf C8.CX0 X.prog X.w X.K X.mg X.base Ng qg sg g cdg X.A X.stack s H C8.E0).tr pn xe) W) (hW : ∀ cls d (σ' : L2.St) H', σ'.length = Ng.length → E cls d H' → W cls d σ' H') (hr : Room (k + 1) (X.A.deeper (envOfC qg sg s.heap.objs.size g cdg)))
    (hbody : ∀ (A : Around) (outer : List Env) (s : Shared) (H : Hp), Room k (A.deeper (lamEnv X scope s.heap.objs.size f c')) → PE (lamCxN X A outer s H E scope f c') body tb)
    (hN : Ng[i]? = some a) (hv : Vis sg a) (hd : (a == ("__debug__" : Str)) = false := by decide) (hcd : (a == ("__classdict__" : Str)) = false := by decide) :
    PE ((cxOf C8.CX0 X.prog X.w X.K X.mg X.base Ng qg sg g cdg X.A X.stack s H C8.E0).tr pn xe) (.Call (.Name a p1) [] [] p2)
      (fun σZ HZ Q => σZ[i]? = some (some (.ref f)) ∧ HZ c' = some (CodeO c' (X.env.qual ++ "<lambda>")) ∧ tb σ HZ Q) := by
  refine ⟨fun pinsZ sZ σZ HZ Q IZ ⟨hs, hc, ht⟩ => ?_⟩
  refine wpAny_Call_Name_kw (thn ((pe_var (pos := p1) (i := i) hN hv hd hcd).run pinsZ sZ σZ HZ (fun v H1 => v = .ref f ∧ H1 = HZ) IZ ⟨.ref f, hs, rfl, rfl⟩) fun u s1 ⟨v, H1, I1, r1, q1, q2⟩ => ?_)
  subst q1
  rw [q2] at I1
  cases (show u = Value.ref f from r1)
  have of1 : s1.heap.get? f = some (PySem.W.kla_obj "<lambda>" (X.env.qual ++ "<lambda>") params body scope (cloFrom X.env.cells scope.names []) pm c' ctv) := I1.base.keep f _ hf hfn hfr (fun z => nomatch (show f ∈ ([] : List Addr) from z))
  refine PySem.W.callWith_F0 ⟨_, _, _, _, of1⟩ ?_
  have un : Un (frs X.stack) [] H HZ s.heap s1.heap := I1.base
  obtain ⟨⟨oc, vs, t, hoc, hdc, hvc⟩, _, _⟩ := I1.hok c' _ hc
  have rc : codeAny (model X.prog X.w) (X.A.deeper (envOfC qg sg s.heap.objs.size g cdg)) (.call (.ref f) ⟨[], []⟩) (CR (CX X.prog X.w) (envOfC qg sg s.heap.objs.size g cdg :: X.stack) X.prog X.w HZ s1 Q E) s1 := by
    refine PySem.W.kla_callFunE hr.depth of1 rfl L.co L.gen rfl ⟨c', oc, vs, t, rfl, hoc, hdc, hvc⟩ ?_
    rw [hbind]
    refine wpAny_pure (wpAny_newFunctionEnv (fun y hy => (L.own y hy).2) (fun y hy => absurd hy (by simp)) (fun h₁ hns hsb => ⟨I1.nolimit.fresh _ hsb, ?_⟩) L.kind)
    show codeAny _ _ (.expr body (lamEnv X scope s1.heap.objs.size f c')) _ _
    have kp : ∀ b o, s1.heap.get? b = some o → h₁.get? b = some o := fun b o e => hsb.extBut b o (Nat.ne_of_lt (Heap.lt_size e)) (Heap.get?_push_of_some _ e)
    have J0 : Inv (lamCx X (X.A.deeper (envOfC qg sg s.heap.objs.size g cdg)) (envOfC qg sg s.heap.objs.size g cdg :: X.stack) s1 HZ E scope f c') [] σ HZ { s1 with heap := h₁, toks := s1.toks + ([] : List (Str × Value)).length } :=
      lam_start2 I L I1.env0 hr.hd un hns kp
    have J := J0.wish (lamXe X (X.A.deeper (envOfC qg sg s.heap.objs.size g cdg)) (envOfC qg sg s.heap.objs.size g cdg :: X.stack) s1 HZ E scope f c')
    refine PySem.W.kla_codeExpr (wpAny_mono ((hbody _ _ s1 HZ (hr.deeper _)).run [] _ _ HZ Q J ht) (fun v s' hq => ?_) fun e s' hq => hq)
    obtain ⟨w', H', J', rv, q⟩ := hq
    exact ⟨w', H', J'.os, J'.bare, J'.base, J'.hok, rv, q⟩
  refine wpAny_call (codeAny_mono rc fun r s' hq => ?_)
  cases r with
  | error e => exact tk e s' (XE.of_call I1 (fun cls d H' h => hW cls d σZ H' I1.len h) hq)
  | ok fl =>
    cases fl with
    | ret u => exact I1.after hq
    | next => exact False.elim hq
    | brk => exact False.elim hq
    | cont => exact False.elim hq
end
/-- the def that calls what it got, in the place a -/
def GivesN (X : Cx) (Ng : List Str) (x : Str) (sg : Scope) (g : Addr) (cdg : Value) (bg : List Stmt) (a : Str) (q : Str) (k : Nat) (TT : (XK → Hp → VK → Prop) → Hp → VK → Prop) : Prop :=
  ∀ (f c' : Addr) (s : Shared) (H : Hp) (Q : VK) (tl : XK → Hp → VK → Prop), Room k (X.A.deeper (envOfC x sg s.heap.objs.size g cdg)) →
    (∀ (W : WX) (pn : List (Addr × Obj)) (xe : Value → Shared → Prop) (E : XK) (p1 p2 : Pos), Takes ((cxOf C8.CX0 X.prog X.w X.K X.mg X.base Ng x sg g cdg X.A X.stack s H C8.E0).tr pn xe) W → (∀ cls d (σ' : L2.St) H', σ'.length = Ng.length → E cls d H' → W cls d σ' H') →
      PE ((cxOf C8.CX0 X.prog X.w X.K X.mg X.base Ng x sg g cdg X.A X.stack s H C8.E0).tr pn xe) (.Call (.Name a p1) [] [] p2) (fun σZ HZ Q => σZ[0]? = some (some (.ref f)) ∧ HZ c' = some (CodeO c' q) ∧ tl E HZ Q)) →
    H c' = some (CodeO c' q) → TT tl H Q →
    ∃ t, PSs (cxOf C8.CX0 X.prog X.w X.K X.mg X.base Ng x sg g cdg X.A X.stack s H C8.E0).nox bg t ∧ t { nx := fun _ H' => Q .non H', rt := Q } (L2.start Ng [.ref f]) H
section
variable {X : Cx}
/-- x(lambda: body) -/
theorem pe_lamN {T : List (Addr × Str)} {TT : (XK → Hp → VK → Prop) → Hp → VK → Prop} {x a : Str} {g c P : Addr} {k : Nat} {pg : Arguments} {bg : List Stmt} {sg : Scope} {dV kV doc pm cdv ct oc : Value} {an od : Option Addr} {osl : Array (Option Value)} {Ng : List Str}
    {params : Arguments} {body : Expr} {scope : Scope} {t : XK → TE} {p lpos pos : Pos} (hg : Gl X x) (hm : X.mg x = some (.ref g)) (hk : PySem.W.keepIn X.K (.ref g) = true)
    (lk : X.K.lookup g = some ⟨oc, od, .func (PySem.W.fnOf x x pg bg sg dV kV doc pm an cdv ct), osl⟩) (hcg : PySem.W.codeIn X.K cdv x = true) (hb : L2.Binds X.K (PySem.W.fnOf x x pg bg sg dV kV doc pm an cdv ct) [a] []) (Sg : FnScope Ng [a] sg) (hNg : Ng[0]? = some a) (hva : Vis sg a)
    (hG : GivesN X Ng x sg g cdv bg a (X.env.qual ++ "<lambda>") (k + 1) TT)
    (TB : TabB X.base X.mg c P) (hcode : X.env.code = .ref c) (hmT : (P, X.env.qual ++ "<lambda>") ∈ T) (hu : ∀ p ∈ T, p.1 = P → p.2 = X.env.qual ++ "<lambda>") (hr : Room (k + 2) X.A) (L : LamS X.env.scope scope) (hdef : defaultsOf params X.env = ([], []))
    (hbind : ∀ (q : Str) (cl : List (Str × Addr)) (pm cv ctv : Value), bindArgs (PySem.W.kla_fn "<lambda>" q params body scope cl pm cv ctv) ⟨[], []⟩ = pure [])
    (hbody : ∀ (A : Around) (outer : List Env) (s : Shared) (H : Hp) (E : XK) (f c' : Addr), Room k (A.deeper (lamEnv X scope s.heap.objs.size f c')) → PE (lamCxN X A outer s H E scope f c') body (t E))
    (hdb : (x == ("__debug__" : Str)) = false := by decide) (hd : (a == ("__debug__" : Str)) = false := by decide) (hcd : (a == ("__classdict__" : Str)) = false := by decide) :
    PE X (.Call (.Name x p) [.Lambda params body scope lpos] [] pos) (tLam T TT t) := by
  refine ⟨fun pins s σ H Q I ⟨hT, h⟩ => ?_⟩
  refine wpAny_Call_Name_kw (ld_glob I hg hm ?_ hdb)
  refine PySem.W.callWith_K (h₀ := X.base) I.ok.mod.kin hk ?_ (by rfl) (by rfl)
  show wpAny _ _ (spliced ((false, eval (.Lambda params body scope lpos) X.env) :: backTo pos (starEach [] X.env))) _ _ s
  refine Calls.spliced_cons (lam_make2 I TB hcode hmT hu hT hdef (L.has I.ok) fun f c' pm' ctv H1 s' I1 eN T1 hf hfn hfr hco => ?_)
  refine Calls.spliced_nil ⟨I1.kIn, ?_⟩
  have rc : codeAny (model X.prog X.w) X.A (.call (.ref g) ⟨[.ref f], []⟩) (CR C8.CX0 X.stack X.prog X.w H1 s' Q C8.E0) s' := by
    refine run_ofS (N := Ng) (ps := [a]) (us := [.ref f]) (vs := [.ref f]) lk hcg Sg hr I1.env0 (hb s' [.ref f] I1.kIn rfl) (.cons rfl .nil) rfl fun hr' => ?_
    obtain ⟨t', ht', hq'⟩ := hG f c' s' H1 Q (fun E H' Q' => t E σ H' Q') hr' (fun W pn xe E p1 p2 tk hW => pe_actN (i := 0) I1 L hf hfn hfr (hbind _ _ _ _ _) tk hW hr' (fun A outer s H hr2 => hbody A outer s H E f c' hr2) hNg hva hd hcd) hco (h H1 eN T1)
    exact ⟨t', ht'.nox, hq'⟩
  refine wpAny_call (codeAny_mono rc fun r s2 hq => ?_)
  cases r with
  | error e => exact (show False from hq).elim
  | ok fl =>
    cases fl with
    | ret u => exact I1.after hq
    | next => exact False.elim hq
    | brk => exact False.elim hq
    | cont => exact False.elim hq
end
end Lm
set_option Elab.async false
set_option linter.all false
set_option maxRecDepth 100000
set_option maxHeartbeats 4000000
namespace Lk
open PySem PySem.Spec PyProof.Rows L2 HotX L2H LamX
open Evl (Ev EvL EvA EvT Ex EvU)
abbrev sWord : Stmt := topS 43
abbrev sTold : Stmt := topS 44
/-- the names by which refusals are told -/
def wordsL : List Str := ["BadDeed", "BadLook", "BadNumber", "BadPath", "BadState", "Storm", "BadText"]
/-- the class at D is the i-th of the classes cs, and no other; all stand under ValueError and under the class at CL -/
structure Own (K : PySem.W.Frag) (cs : List Addr) (CL D : Addr) (i : Nat) : Prop where
  exc : ExcC K D
  kit : ∀ (j : Nat) (c : Addr), cs[j]? = some c → PySem.W.kitOne K (.ref D) (.ref c) = some (decide (j = i))
  val : PySem.W.kitOne K (.ref D) (.type "ValueError") = some true
  exm : PySem.W.exmOne K (.ref D) (.ref CL) = some true
/-- what the module's names of classes hold -/
structure Cn (mg : Str → Option Value) (c0 c1 c2 c3 c4 c5 c6 : Addr) : Prop where
  g0 : mg "BadDeed" = some (.ref c0)
  g1 : mg "BadLook" = some (.ref c1)
  g2 : mg "BadNumber" = some (.ref c2)
  g3 : mg "BadPath" = some (.ref c3)
  g4 : mg "BadState" = some (.ref c4)
  g5 : mg "Storm" = some (.ref c5)
  g6 : mg "BadText" = some (.ref c6)
  vE : mg "ValueError" = none
  sum : mg "sum" = none
def refused (nm : Str) : PyData := .tuple [.str "refused", .str nm]
def spWord (K : PySem.W.Frag) (cs : List Addr) (CL : Addr) : Addr × Obj → Sp := fun p vs H Q _ => ∃ (D : Addr) (i : Nat) (nm : Str), vs = [.ref p.1] ∧ Zc (.ref D) none p.2 ∧ (∃ fs, p.2.data = .fields fs) ∧ Own K cs CL D i ∧ wordsL[i]? = some nm ∧ ∀ v H', Same H H' → R H' v (refused nm) → Q v H'
def flagsL (i : Nat) : List Bool := [decide (0 = i), decide (1 = i), decide (2 = i), decide (3 = i), decide (4 = i), decide (5 = i), decide (6 = i)]
theorem ev_isE {K : PySem.W.Frag} {σ : St} {H : Hp} {D a c : Addr} {b : Bool} (h : σ[0]? = some (some (.ref a))) (hk : PySem.W.kitOne K (.ref D) (.ref c) = some b) : EvD (tCB (rIsE K D a) (tCons (tVar 0) (tCons (tC (.ref c)) tNil))) σ H (.bool b) :=
  fun H1 e Q q => ⟨_, h, .ref c, .ref c, b, rfl, fun u r => r, hk, q _ H1 (Ex.refl _) (.bl b)⟩
theorem ev_isV {K : PySem.W.Frag} {σ : St} {H : Hp} {D a : Addr} {T : String} {b : Bool} (h : σ[0]? = some (some (.ref a))) (hk : PySem.W.kitOne K (.ref D) (.type T) = some b) : EvD (tCB (rIsE K D a) (tCons (tVar 0) (tCons (tC (.ty T)) tNil))) σ H (.bool b) :=
  fun H1 e Q q => ⟨_, h, .ty T, .type T, b, rfl, fun u r => r, hk, q _ H1 (Ex.refl _) (.bl b)⟩
theorem ev_sum {K : PySem.W.Frag} {σ : St} {H : Hp} {ta : TE} {ns : List Int} (h : EvL ta σ H (ns.map V.int)) : Ev (tCB (rSum K) (tCons ta tNil)) σ H (.int ns.sum) := fun H1 e Q q =>
  h H1 e _ fun p H2 _ e2 hp => ⟨p, ns, rfl, .inl (.inl hp), q H2 e2⟩
section
variable {P : Program} {w : World} {K : PySem.W.Frag} {mg : Str → Option Value} {base : Heap}
/-- isinstance(e, c), e the exception of the pin p -/
theorem call_isZ {X : Cx} {D : Addr} {p : Addr × Obj} (C : ExcC X.K D) (hp : p ∈ X.pn) (hz : Zc (.ref D) none p.2) (hf : ∃ vs, p.2.data = .fields vs) : CallR X (.builtin "isinstance") (rIsE X.K D p.1) := Lk.call_isP C hp hz hf
theorem scWord : FnScope ["e", "flags", "words", "flag"] ["e"] (defScope sWord) := ⟨rfl, rfl, rfl, by decide +kernel, rfl, by decide +kernel, by decide +kernel⟩
theorem ok_word {f c0 c1 c2 c3 c4 c5 c6 CL : Addr} {fd : FuncData} (F : L2.Fun K "_law_word" "_law_word" sWord f fd) (T : Tx K mg) (N : Cn mg c0 c1 c2 c3 c4 c5 c6) : Lz.FnZ P w K mg base 1 f fd ["e"] (spWord K [c0, c1, c2, c3, c4, c5, c6] CL) := by
  refine Lz.okZ F scWord (fun p vs H Q E h => by obtain ⟨_, _, _, rfl, _⟩ := h; rfl) (fun cdv A outer s H vs Q p m hot hr h => ?_)
  obtain ⟨D, i, nm, rfl, hz, hf, O, hnm, k⟩ := h
  have hc : Lz.HotC (Lz.cxZ P w K mg base ["e", "flags", "words", "flag"] "_law_word" (defScope sWord) f cdv A outer s H p m) := ⟨p, m, hot, List.mem_cons_self, fun q e => by rw [e]; simp⟩
  have isi := @call_isZ (Lz.cxZ P w K mg base ["e", "flags", "words", "flag"] "_law_word" (defScope sWord) f cdv A outer s H p m) D p O.exc List.mem_cons_self hz hf
  refine ⟨_, pss_cons (ps_set (i := 1) scWord.nd rfl (Or.inl rfl) (pe_lst (pa_cons (pe_callB isi (by rfl) T.isi boot_isinstance (pa_cons (pv 0) (pa_cons (C8.pe_gc (v := .ref c0) (by rfl) ⟨_, N.g0, rfl⟩) pa_nil))) (pa_cons (pe_callB isi (by rfl) T.isi boot_isinstance (pa_cons (pv 0) (pa_cons (C8.pe_gc (v := .ref c1) (by rfl) ⟨_, N.g1, rfl⟩) pa_nil))) (pa_cons (pe_callB isi (by rfl) T.isi boot_isinstance (pa_cons (pv 0) (pa_cons (C8.pe_gc (v := .ref c2) (by rfl) ⟨_, N.g2, rfl⟩) pa_nil))) (pa_cons (pe_callB isi (by rfl) T.isi boot_isinstance (pa_cons (pv 0) (pa_cons (C8.pe_gc (v := .ref c3) (by rfl) ⟨_, N.g3, rfl⟩) pa_nil))) pa_nil))))))
    (pss_cons (ps_set (i := 1) scWord.nd rfl (Or.inl rfl) (pe_op op_cat (pv 1) (pe_lst (pa_cons (pe_callB isi (by rfl) T.isi boot_isinstance (pa_cons (pv 0) (pa_cons (C8.pe_gc (v := .ref c4) (by rfl) ⟨_, N.g4, rfl⟩) pa_nil))) (pa_cons (pe_callB isi (by rfl) T.isi boot_isinstance (pa_cons (pv 0) (pa_cons (C8.pe_gc (v := .ref c5) (by rfl) ⟨_, N.g5, rfl⟩) pa_nil))) (pa_cons (pe_callB isi (by rfl) T.isi boot_isinstance (pa_cons (pv 0) (pa_cons (C8.pe_gc (v := .ref c6) (by rfl) ⟨_, N.g6, rfl⟩) pa_nil))) pa_nil))))))
    (pss_cons (ps_if (PW.pt (pw_or (pt_cmpR op_ne (pe_callB (Lz.cr_sumH hc) (by rfl) N.sum (by decide +kernel) (pa_cons (Lz.pe_lcH (own := [("flag", 3)]) (g := gName 3) (tt := tYes) hc scWord.nd (pv 1) (blkOk_by (own := [("flag", 3)]) (N := ["e", "flags", "words", "flag"]) (sc := defScope sWord) (by decide +kernel))
        (fun _ _ _ _ _ => pg_name (i := 3) scWord.nd rfl (Or.inl rfl)) (fun _ _ _ _ _ => pts_nil) (fun _ _ _ _ _ => pe_callTy call_int1 (by rfl) T.int boot_int (pa_cons (pv 3) pa_nil))) pa_nil)) pe_int (nomark _))
        (pw_or1 (pt_not (pt_val (pe_callB isi (by rfl) T.isi boot_isinstance (pa_cons (pv 0) (pa_cons (pe_bltn (v := .ty "ValueError") (by rfl) N.vE (by decide +kernel) rfl) pa_nil)))))))) (pss_one (ps_ret (pe_tup (pa_cons pe_str (pa_cons pe_str pa_nil))))) pss_nil)
    (pss_cons (ps_set (i := 2) scWord.nd rfl (Or.inl rfl) (pe_lst (pa_cons pe_str (pa_cons pe_str (pa_cons pe_str (pa_cons pe_str (pa_cons pe_str (pa_cons pe_str (pa_cons pe_str pa_nil)))))))))
    (pss_one (ps_ret (pe_tup (pa_cons pe_str (pa_cons (pe_ix ix_list (pv 2) (pe_bm PySem.F.plainAttrs_list PySem.F.slot_list_index PySem.F.type_list_index mt_index (pv 1) (pa_cons pe_bl pa_nil)) (fun _ _ => rfl)) pa_nil)))))))), ?_⟩
  have hi : i < 7 := (List.getElem?_eq_some_iff.mp hnm).1
  refine q_asgD (d := .list [.bool (decide (0 = i)), .bool (decide (1 = i)), .bool (decide (2 = i)), .bool (decide (3 = i))]) (ed_lst (eds_cons (ev_isE rfl (O.kit 0 c0 rfl)) (eds_cons (ev_isE rfl (O.kit 1 c1 rfl)) (eds_cons (ev_isE rfl (O.kit 2 c2 rfl)) (eds_cons (ev_isE rfl (O.kit 3 c3 rfl)) eds_nil)))) (by simp)) fun v1 H1 e1 r1 => ?_
  refine q_asgD (d := .list ([.bool (decide (0 = i)), .bool (decide (1 = i)), .bool (decide (2 = i)), .bool (decide (3 = i))] ++ [.bool (decide (4 = i)), .bool (decide (5 = i)), .bool (decide (6 = i))])) (ed_catL (es := [.bool (decide (4 = i)), .bool (decide (5 = i)), .bool (decide (6 = i))]) (ed_var rfl r1) (ed_lst (eds_cons (ev_isE rfl (O.kit 4 c4 rfl)) (eds_cons (ev_isE rfl (O.kit 5 c5 rfl)) (eds_cons (ev_isE rfl (O.kit 6 c6 rfl)) eds_nil))) (by simp)) (by simp)) fun v3 H3 e3 r3 => ?_
  have e03 : Ex H H3 := e1.trans e3
  have r3' : R H3 v3 (.list ((flagsL i).map PyData.bool)) := r3
  cases r3' with
  | @lst fa xs _ hx rx =>
    have hxs : xs = (flagsL i).map V.bl := by
      have : ∀ (bs : List Bool) (ys : List V), Rs H3 ys (bs.map PyData.bool) → ys = bs.map V.bl := by
        intro bs
        induction bs with
        | nil => intro ys h; cases h; rfl
        | cons b bs ih => intro ys h; cases h with
          | cons h t => cases h; rw [ih _ t]; rfl
      exact this _ _ rx
    subst hxs
    have nums : ((flagsL i).map fun b => if b then (1 : Int) else 0).sum = 1 := by
      have key : ∀ i < 7, ((flagsL i).map fun b => if b then (1 : Int) else 0).sum = 1 := by decide
      exact key i hi
    refine Evl.q_when (b := false) (Evl.et_is (Evl.et_or (a := false) (b := false) (Evl.et_test ?g1) fun _ => Evl.et_is (Evl.et_not (et_b (ev_isV rfl O.val))) rfl) rfl) (fun z => by cases z) (fun _ H4 e4 => ?_)
    case g1 =>
      refine Evl.ev_is (Evl.ev_op (x := .int 1) (y := .int 1) ?g2 Evl.ev_c (Evl.rv_ne rfl)) (by simp)
      refine Evl.ev_is (ev_sum (ns := (flagsL i).map fun b => if b then 1 else 0) (fun H0 e Q q => ⟨_, rfl, fa, rfl, ⟨_, .inl (.inl (e _ _ hx))⟩, fun Dl hD => ?_⟩)) (by rw [nums])
      refine lc_w (walk_list (K := K) (a := fa) (xs := (flagsL i).map V.bl)) (fun H' e2 => .inl (.inl ((e.trans e2) _ _ hx))) (((flagsL i).map fun b => if b then (1 : Int) else 0).map V.int) (by simp) (by simp [flagsL]) (fun x => rfl) (fun j x hj hx' => ?_) hD fun H2 e2 h2 => q Dl H2 hD e2 h2
      intro H7 e7 Q7 q7
      rw [List.getElem?_map] at hx'
      cases eb : (flagsL i)[j]? with
      | none => rw [eb] at hx'; cases hx'
      | some b =>
        rw [eb] at hx'
        cases hx'
        refine ⟨_, rfl, .inr ⟨b, rfl, ?_⟩⟩
        have := q7 H7 (Ex.refl _)
        simpa [eb] using this
    · refine q_asgD (d := .list (wordsL.map PyData.str)) (ed_lst (eds_cons (ed_c (.str _ (by decide +kernel))) (eds_cons (ed_c (.str _ (by decide +kernel))) (eds_cons (ed_c (.str _ (by decide +kernel))) (eds_cons (ed_c (.str _ (by decide +kernel))) (eds_cons (ed_c (.str _ (by decide +kernel))) (eds_cons (ed_c (.str _ (by decide +kernel))) (eds_cons (ed_c (.str _ (by decide +kernel))) eds_nil))))))) (by decide +kernel)) fun v5 H5 e5 r5 => ?_
      have hx4 : H5 fa = some (.lst ((flagsL i).map V.bl)) := e5 _ _ (e4 _ _ hx)
      refine s_retD (d := refused nm) (ed_tup (eds_cons (ed_c (.str _ (by decide +kernel))) (eds_cons (ed_ixL (k := i) (ds := wordsL.map PyData.str) (ed_var rfl r5) ?g4 (by rw [List.getElem?_map, hnm]; rfl)) eds_nil)) (by simp)) fun v9 H9 e9 r9 => k v9 H9 (((e03.trans e4).trans e5).trans e9) r9
      intro H6 e6 Q5 q5
      have h5 : H6 fa = some (.lst ((flagsL i).map V.bl)) := e6 _ _ hx4
      have key : ∀ i < 7, (flagsL i)[i]? = some true ∧ ∀ m < i, (flagsL i)[m]? = some false := by decide
      obtain ⟨t1, t2⟩ := key i hi
      refine ⟨_, rfl, .inl ⟨rfl, _, .inl (.inl h5)⟩, fa, _, .bl true, i, .bl true, rfl, rfl, .inl (.inl h5), rfl, by simp [flagsL, flatV], by rw [List.getElem?_map, t1]; rfl, rfl, fun m z' hm' hz' => ?_, q5 _ H6 (Ex.refl _) (.int _)⟩
      rw [List.getElem?_map, t2 m hm'] at hz'
      cases hz'
      rfl
end
end Lk
set_option Elab.async false
set_option linter.all false
set_option maxRecDepth 100000
set_option maxHeartbeats 4000000
namespace Lk
open PySem PySem.Spec PyProof.Rows L2 HotX L2H LamX
open Evl (Ev EvL EvA EvT Ex EvU)
/-- what _law_told makes of a lambda: what it hands back, or the word of its refusal -/
def wishT (K : PySem.W.Frag) (cs : List Addr) (CL : Addr) (Q : VK) : XK := fun cls d H' => ∃ (D : Addr) (i : Nat) (nm : Str), cls = .ref D ∧ d = none ∧ Own K cs CL D i ∧ wordsL[i]? = some nm ∧ ∀ v H'', Same H' H'' → R H'' v (refused nm) → Q v H''
def TTold (K : PySem.W.Frag) (cs : List Addr) (CL : Addr) : (XK → Hp → VK → Prop) → Hp → VK → Prop := fun tl H Q => tl (wishT K cs CL Q) H Q
theorem scTold : FnScope ["deed", "e"] ["deed"] (defScope sTold) := ⟨rfl, rfl, rfl, by decide +kernel, rfl, by decide +kernel, by decide +kernel⟩
theorem told_gives {X : Cx} {g fw CL : Addr} {cdg : Value} {q : Str} {cs : List Addr} {fdw : FuncData} {k : Nat} (FW : Lz.FnZ X.prog X.w X.K X.mg X.base 1 fw fdw ["e"] (spWord X.K cs CL)) (gw : X.mg "_law_word" = some (.ref fw)) (kw : PySem.W.keepIn X.K (.ref fw) = true) (bw : Binds X.K fdw ["e"] [])
    (gL : X.mg "LookError" = some (.ref CL)) : Lm.GivesN X ["deed", "e"] "_law_told" (defScope sTold) g cdg (defBody sTold) "deed" q (k + 1) (TTold X.K cs CL) := by
  intro f c' s H Q tl hr act hc h
  refine ⟨_, pss_one (Lm.ps_try_as (X := (cxOf C8.CX0 X.prog X.w X.K X.mg X.base ["deed", "e"] "_law_told" (defScope sTold) g cdg X.A X.stack s H C8.E0).nox) (c := .ref CL) (i := 1)
      (tb := fun W D σ H => ∃ Ech : XK, (∀ cls d (σ' : L2.St) H', σ'.length = 2 → Ech cls d H' → W cls d σ' H') ∧ σ[0]? = some (some (.ref f)) ∧ H c' = some (CodeO c' q) ∧ tl Ech H D.rt)
      (ts := fun a cls d D σ H => ∃ (D0 : Addr) (i : Nat) (nm : Str), cls = .ref D0 ∧ d = none ∧ Own X.K cs CL D0 i ∧ wordsL[i]? = some nm ∧ σ[1]? = some (some (.ref a)) ∧ ∀ v H', Same H H' → R H' v (refused nm) → D.rt v H')
      rfl rfl scTold.nd rfl rfl ⟨rfl, by decide, .inl gL⟩ Lm.takes0 (fun W pn xe tk => ?_) (fun a oe m cls d pn hz hf hot hm => ?_)), ?_⟩
  · refine ⟨fun pins s' σ H' D I h' => ?_⟩
    obtain ⟨Ech, hW, h1, h2, h3⟩ := h'
    exact (pss_one (ps_ret (act W pn xe Ech _ _ tk hW))).run pins s' σ H' D I ⟨h1, h2, h3⟩
  · refine ⟨fun pins s' σ H' D I h' => ?_⟩
    obtain ⟨D0, i, nm, rfl, rfl, O, hnm, h1, h2⟩ := h'
    obtain ⟨fs, hfs⟩ := hf
    have rm : RoomH 1 ((cxOf C8.CX0 X.prog X.w X.K X.mg X.base ["deed", "e"] "_law_told" (defScope sTold) g cdg X.A X.stack s H C8.E0).nox.suite a ((a, oe) :: pn)).A := by
      have h0 := roomH_of (hr.mono (show 1 ≤ k + 1 by omega))
      exact ⟨h0.dp, h0.un⟩
    exact (pss_one (ps_ret (Lz.pe_callZ (X := (cxOf C8.CX0 X.prog X.w X.K X.mg X.base ["deed", "e"] "_law_told" (defScope sTold) g cdg X.A X.stack s H C8.E0).nox.suite a ((a, oe) :: pn)) (p := (a, oe)) (m := m) FW rm hot (fun q hq => (List.mem_cons.mp hq).elim (fun e => by rw [e]; exact List.mem_cons_self) fun h => List.mem_cons_of_mem _ (hm q (by cases m <;> simp_all))) (x := "_law_word") rfl gw kw bw (pa_cons (pv 1) pa_nil)))).run pins s' σ H' D I
      ⟨.ref a, h1, D0, i, nm, rfl, hz, ⟨fs, hfs⟩, O, hnm, h2⟩
  · refine ⟨wishT X.K cs CL Q, fun cls d σ' H' hl ⟨D0, i, nm, e1, e2, O, hnm, hk⟩ => ?_, rfl, hc, h⟩
    subst e1 e2
    refine ⟨true, O.exm, fun _ a ha => ⟨D0, i, nm, rfl, rfl, O, hnm, ?_, hk⟩, fun z => by cases z⟩
    match σ', hl with
    | [_, _], _ => rfl
end Lk
set_option Elab.async false
set_option linter.all false
set_option maxRecDepth 100000
set_option maxHeartbeats 8000000
/-! What a law's frame does: lambdas told, lists of what was told. -/
namespace Lk
open PySem PySem.Spec PyProof.Rows L2 HotX L2H LamX
open Evl (Ev EvL EvA EvT Ex EvU)
theorem tabs_upd {T : List (Addr × Str)} {H : Hp} {l : Addr} {xs ys : List V} (t : Tabs T H) (h : H l = some (.lst xs)) : Tabs T (upd H l (.lst ys)) := fun p hp => by
  obtain ⟨ps, h1, h2, h3⟩ := t p hp
  refine ⟨ps, by rw [upd_ne (ne_of h1 h (fun z => nomatch z))]; exact h1, h2, fun pos cv hc => ?_⟩
  obtain ⟨c, e1, e2⟩ := h3 pos cv hc
  exact ⟨c, e1, by rw [upd_ne (ne_of e2 h (fun z => by unfold CodeO at z; cases z))]; exact e2⟩
theorem r_ref_upd {H : Hp} {l : Addr} {xs ys : List V} {v : V} {nm : Str} (r : R H v (refused nm)) (h : H l = some (.lst xs)) : R (upd H l (.lst ys)) v (refused nm) := by
  unfold refused at r ⊢
  cases r with
  | tup hq rs =>
    refine .tup (by rw [upd_ne (ne_of hq h (fun z => nomatch z))]; exact hq) ?_
    cases rs with
    | cons r1 t1 => cases t1 with
      | cons r2 t2 => cases t2; cases r1; cases r2; exact .cons (.str _ (by assumption)) (.cons (.str _ (by assumption)) .nil)
theorem rs_ref_upd {H : Hp} {l : Addr} {xs ys : List V} (h : H l = some (.lst xs)) : ∀ {vs : List V} {nms : List Str}, Rs H vs (nms.map refused) → Rs (upd H l (.lst ys)) vs (nms.map refused)
  | [], [], _ => .nil
  | _ :: _, _ :: _, .cons r t => .cons (r_ref_upd r h) (rs_ref_upd h t)
section
variable {K : PySem.W.Frag} {T0 : List (Addr × Str)} {cs : List Addr} {CL : Addr} {σ : St} {H Hb : Hp} {t : XK → TE} {D : Addr} {i : Nat} {nm : Str} {Q : VK} {Dn : Ends} {tz tu : TS}
/-- a lambda that is refused -/
theorem told_ev (hT : Tabs T0 H) (O : Own K cs CL D i) (hnm : wordsL[i]? = some nm) (ht : ∀ H1, ExtN H H1 → ∀ (E : XK) (Q : VK), (∀ H2, Same H1 H2 → E (.ref D) none H2) → t E σ H1 Q)
    (q : ∀ v H2, ExtN H H2 → Tabs T0 H2 → R H2 v (refused nm) → Q v H2) : tLam T0 (TTold K cs CL) t σ H Q :=
  ⟨hT, fun H1 e1 t1 => ht H1 e1 _ _ fun H2 s2 => ⟨D, i, nm, rfl, rfl, O, hnm, fun v H3 s3 r => q v H3 (e1.trans (ExtN.of (s2.trans s3))) (t1.ext (s2.trans s3)) r⟩⟩
/-- the list of what was told so far stands at l, apart from what stood in Hb -/
structure Sm (T0 : List (Addr × Str)) (Hb H : Hp) (l : Addr) (nms : List Str) : Prop where
  ex : ∃ xs, H l = some (.lst xs) ∧ Rs H xs (nms.map refused)
  ext : ExtN Hb H
  tabs : Tabs T0 H
  apart : ∀ b o, Hb b = some o → (∀ ps, o ≠ .tbl ps) → b ≠ l
theorem Sm.ofEx {l : Addr} {nms : List Str} {H' : Hp} (s : Sm T0 Hb H l nms) (e : Ex H H') : Sm T0 Hb H' l nms := by
  obtain ⟨xs, h1, h2⟩ := s.ex
  exact ⟨⟨xs, e _ _ h1, h2.ext (exN e)⟩, s.ext.trans (exN e), s.tabs.ext e, s.apart⟩
/-- some = [told] -/
theorem q_some {j : Nat} (hT : Tabs T0 H) (he : ExtN Hb H) (O : Own K cs CL D i) (hnm : wordsL[i]? = some nm) (ht : ∀ H1, ExtN H H1 → ∀ (E : XK) (Q : VK), (∀ H2, Same H1 H2 → E (.ref D) none H2) → t E σ H1 Q)
    (k : ∀ l H2, Sm T0 Hb H2 l [nm] → tz Dn (σ.set j (some (.ref l))) H2) : tSeq (tAsg (tLst (tCons (tLam T0 (TTold K cs CL) t) tNil)) (gName j)) tz Dn σ H :=
  told_ev hT O hnm ht fun v H2 e2 t2 r => ⟨Evl.sz_of (by simp), fun p hp => k p _ ⟨⟨[v], upd_same, .cons (r.ext (exN (Ex.new hp))) .nil⟩, (he.trans e2).trans (exN (Ex.new hp)), t2.ext (Ex.new hp), fun b o hb ho z => by
    have := (he.trans e2) b o hb ho
    rw [z, hp] at this
    cases this⟩⟩
/-- some.append(told) -/
theorem q_app {j : Nat} {l : Addr} {nms : List Str} (hs : σ[j]? = some (some (.ref l))) (S : Sm T0 Hb H l nms) (hz : nms.length < 1000) (O : Own K cs CL D i) (hnm : wordsL[i]? = some nm) (ht : ∀ H1, ExtN H H1 → ∀ (E : XK) (Q : VK), (∀ H2, Same H1 H2 → E (.ref D) none H2) → t E σ H1 Q)
    (k : ∀ H2, Sm T0 Hb H2 l (nms ++ [nm]) → tz Dn σ H2) : tSeq (tDrop (tBM K "list" rAppend (tVar j) (tCons (tLam T0 (TTold K cs CL) t) tNil))) tz Dn σ H := by
  obtain ⟨xs, h1, h2⟩ := S.ex
  refine ⟨_, hs, .inl ⟨rfl, xs, .inl (.inl h1)⟩, ?_⟩
  refine told_ev S.tabs O hnm ht fun v H2 e2 t2 r => ?_
  have hl2 : H2 l = some (.lst xs) := e2 _ _ h1 (fun _ z => nomatch z)
  have hx : xs.length = nms.length := by have := h2.length; rw [List.length_map] at this; exact this
  refine ⟨l, xs, v, rfl, rfl, hl2, Evl.sz_lt (by omega), k _ ⟨⟨xs ++ [v], upd_same, ?_⟩, ?_, tabs_upd t2 hl2, S.apart⟩⟩
  · rw [List.map_append]
    exact (rs_ref_upd hl2 (h2.ext e2)).append (.cons (r_ref_upd r hl2) .nil)
  · intro b o hb ho
    rw [upd_ne (S.apart b o hb ho)]
    exact (S.ext.trans e2) b o hb ho
/-- for x in [..], what is written there -/
theorem q_forD {tl : TE} {ds : List PyData} {j : Nat} (h : EvD tl σ H (.list ds)) (In : Nat → St → Hp → Prop) (h0 : ∀ H1, Ex H H1 → In 0 σ H1)
    (hs : ∀ H1 (n : Nat) x d σ' H', Ex H H1 → ds[n]? = some d → R H1 x d → ExtN H1 H' → In n σ' H' → tu { Dn with nx := fun σ2 H2 => In (n + 1) σ2 H2 ∧ ExtN H1 H2, ct := fun σ2 H2 => In (n + 1) σ2 H2 ∧ ExtN H1 H2, bk := tz Dn } (σ'.set j (some x)) H')
    (hd : ∀ σ' H', In ds.length σ' H' → tz Dn σ' H') : tSeq (tFor (iList K tl) (gName j) tu) tz Dn σ H :=
  h H (Ex.refl H) _ fun v H1 e1 r => by
    cases r with
    | @lst p xs _ hp rs =>
      refine ⟨p, rfl, ⟨xs, .inl (.inl hp)⟩, for_list (K := K) (a := p) (xs := xs) (fun n σ' H' => In n σ' H' ∧ ExtN H1 H') ⟨h0 H1 e1, ExtN.refl _⟩ (fun n σ' H' _ hh => .inl (.inl (hh.2 _ _ hp (fun _ z => nomatch z)))) (fun n x σ' H' hx hh => ?_) (fun σ' H' hh => hd σ' H' (by rw [← rs.length]; exact hh.1))⟩
      obtain ⟨d, hd', rx⟩ := rs.get' hx
      exact hs H1 n x d σ' H' e1 hd' rx hh.2 hh.1
end
theorem shaped_ref (nms : List Str) (h : nms.all PyData.strOk = true) : SeqAt.shaped (.list (nms.map refused)) = true := by
  have c : ∀ l : List Str, l.all PyData.strOk = true → PyData.canLayAll0 (l.map refused) = true ∧ PyData.depthAll (l.map refused) ≤ 1 := by
    intro l
    induction l with
    | nil => intro _; exact ⟨rfl, by decide⟩
    | cons x r ih =>
      intro hl
      rw [List.all_cons, Bool.and_eq_true] at hl
      obtain ⟨c1, c2⟩ := ih hl.2
      have hr : PyData.strOk "refused" = true := by decide +kernel
      refine ⟨by simp only [List.map_cons, refused, PyData.canLayAll0, PyData.canLay0, hl.1, hr, Bool.and_self]; simpa [refused] using c1, ?_⟩
      simp only [List.map_cons, refused, PyData.depthAll, PyData.depth]
      omega
  obtain ⟨c1, c2⟩ := c nms h
  simp only [SeqAt.shaped, PyData.canLay0, c1, Bool.true_and, PyData.depth]
  exact decide_eq_true (by omega)
end Lk
set_option Elab.async false
set_option linter.all false
set_option maxRecDepth 100000
set_option maxHeartbeats 4000000
/-! The law's own draws: paths and states. -/
namespace Lk
open PySem PySem.Spec PyProof.Rows L2 HotX L2H LamX
open Evl (Ev EvL EvA EvT Ex EvU)
open TL
abbrev sLPath : Stmt := topS 45
abbrev sLState : Stmt := topS 46
section
variable {K : PySem.W.Frag} {σ : St} {H H' : Hp} {ta tb te : TE} {tr : TA} {d e : PyData} {ds : List PyData} {v : V}
/-- a comprehension's loop; its items by what is true of them -/
theorem lc_r {J : It} {n : Nat} {G : Hp → Prop} {Y : Nat → Hp → V → Hp → Prop} {jx : Nat} {vs : List Nat} {D : Addr} {Q : VK} (wk : Walk J n G Y) (hY : ∀ i H x H', Y i H x H' → H' = H) (hG : ∀ H', Ex H H' → G H') (P : Nat → V → Prop) (hz : n ≤ 40000)
    (hw : ∀ x, wipe ((wipe σ vs).set jx (some x)) vs = wipe σ vs) (he : ∀ i x H1, Ex H H1 → i < n → Y i H1 x H1 → ∀ Q : VK, (∀ v H2, Ex H1 H2 → P i v → Q v H2) → te ((wipe σ vs).set jx (some x)) H1 Q) (hD : H D = none)
    (q : ∀ H2 ws, Ex H H2 → H2 D = some (.lst ws) → ws.length = n → (∀ (i : Nat) v, ws[i]? = some v → P i v) → Q (.ref D) H2) :
    ∃ W : Nat → Nat → Hp → Prop, (∃ m, W 0 m (upd H D (.lst []))) ∧ ∀ i m H, W i m H →
      (J.stop i H ∧ Q (.ref D) H) ∨ (J.go i H ∧ ∃ Nx : Hp → Prop, (∀ H', Nx H' → ∃ m', m' < m ∧ W (i + 1) m' H') ∧ ∀ x H', J.yld i H x H' → gName jx x (wipe σ vs) H' fun σ2 H2 => wipe σ2 vs = wipe σ vs ∧ tYes σ2 H2 fun b H3 =>
        if b = true then te σ2 H3 fun y H4 => ∃ acc, H4 D = some (.lst acc) ∧ acc.length < sizeLine ∧ Nx (upd H4 D (.lst (acc ++ [y]))) else Nx H3) :=
  lc_it (σ := σ) (vs := vs) (g := gName jx) (tt := tYes) (te := te) (Qd := fun H => Q (.ref D) H) wk (fun i H' => Ex H H' ∧ ∃ ws, H' D = some (.lst ws) ∧ ws.length = i ∧ ∀ (j : Nat) v, ws[j]? = some v → P j v)
    ⟨Ex.new hD, [], upd_same, rfl, fun j v h => by simp at h⟩ (fun i H' _ p => hG H' p.1)
    (fun i x H1 H' hi ⟨ex, ws, h1, h2, h3⟩ y => by
      have e1 := hY _ _ _ _ y
      subst e1
      refine ⟨hw x, ?_⟩
      unfold tYes
      simp only [if_true]
      refine he i x H' ex hi y _ fun v H2 e2 hp => ⟨ws, e2 _ _ h1, Evl.sz_lt (by omega), (ex.trans e2).mut hD, ws ++ [v], upd_same, by simp [h2], fun j u hj => ?_⟩
      by_cases hjl : j < ws.length
      · rw [List.getElem?_append_left hjl] at hj
        exact h3 j u hj
      · rw [List.getElem?_append_right (by omega)] at hj
        have : j - ws.length = 0 := by
          by_cases hj0 : j - ws.length = 0
          · exact hj0
          · rw [List.getElem?_eq_none (by simp; omega)] at hj; cases hj
        rw [this] at hj
        have hv : v = u := by simpa using hj
        have hji : j = i := by omega
        rw [← hv, hji]
        exact hp)
    (fun H' ⟨ex, ws, h1, h2, h3⟩ => q H' ws ex h1 h2 h3)
/-- t[:n] -/
theorem ed_slT {n : Nat} (h : EvD ta σ H (.tuple ds)) (h2 : EvD tb σ H (.int n)) : EvD (tSl (rSlA K) ta tNoPart (tPart tb)) σ H (.tuple (ds.take n)) := fun H1 e Q q =>
  h H1 e _ fun v H2 e2 r => h2.ti H2 (e.trans e2) _ fun H3 e3 => ⟨n, rfl, by
    have r3 := r.ext (exN e3)
    cases r3 with
    | @tup a xs _ hp rs =>
      have hl := rs.length
      refine ⟨a, xs, rfl, .inl (.inl hp), fun hw => ?_, fun hw p hp' => ?_⟩
      · have z := hw.2
        rw [HT.sIx_nat] at z
        have hn : ds.length ≤ n := by omega
        exact q _ H3 (e2.trans e3) (by rw [List.take_of_length_le hn]; exact .tup hp rs)
      · have ecut : cutV xs none (some (n : Int)) = xs.take n := by
          unfold cutV
          rw [HT.sIx_nat, HT.sIx_none, List.drop_zero, Nat.sub_zero]
          by_cases hn : n ≤ xs.length
          · rw [Nat.min_eq_left hn]
          · rw [Nat.min_eq_right (by omega), List.take_of_length_le (Nat.le_refl _), List.take_of_length_le (by omega)]
        have rt : ∀ {vs : List V} {ds : List PyData} (n : Nat), Rs H3 vs ds → Rs H3 (vs.take n) (ds.take n) := by
          intro vs ds n r
          induction n generalizing vs ds with
          | zero => exact .nil
          | succ n ih =>
            cases r with
            | nil => exact .nil
            | cons r t => exact .cons r (ih t)
        refine q _ _ ((e2.trans e3).trans (Ex.new hp')) (.tup upd_same ?_)
        rw [ecut]
        exact (rt n rs).ext (exN (Ex.new hp'))⟩
end
/-- a new list, its items by what is true of them -/
def EvLr (te : TE) (σ : St) (H : Hp) (n : Nat) (P : Nat → V → Prop) : Prop := ∀ H1, Ex H H1 → ∀ Q : VK, (∀ p ws H2, H1 p = none → Ex H1 H2 → H2 p = some (.lst ws) → ws.length = n → (∀ (i : Nat) v, ws[i]? = some v → P i v) → Q (.ref p) H2) → te σ H1 Q
theorem el_rR1 {σ : St} {H : Hp} {te : TE} {tr : TA} {hi : Int} {jx : Nat} {vs : List Nat} {P : Nat → V → Prop} (h : EvA tr σ H [.int hi]) (h0 : 0 ≤ hi) (h1 : hi ≤ 40000) (hw : ∀ x, wipe ((wipe σ vs).set jx (some x)) vs = wipe σ vs)
    (he : ∀ (i : Nat) H1, Ex H H1 → (i : Int) < hi → ∀ Q : VK, (∀ v H2, Ex H1 H2 → P i v → Q v H2) → te ((wipe σ vs).set jx (some (.int i))) H1 Q) : EvLr (tLc (iRng1 tr) (gName jx) tYes te vs) σ H hi.toNat P := fun H0 e0 Q q =>
  h H0 e0 _ fun H1 e1 => ⟨hi, rfl, by omega, by omega, fun D hD =>
    lc_r (walk_range (lo := 0) (n := hi.toNat)) (fun i H x H' y => y.1) (fun _ _ => trivial) P (by omega) hw (fun i x H2 e2 hi' y Q2 q2 => by
      have hx : x = .int (0 + (i : Int)) := y.2
      rw [Int.zero_add] at hx
      subst hx
      exact he i H2 ((e0.trans e1).trans e2) (by omega) Q2 q2) hD fun H2 ws e2 h2 hl hp => q D ws H2 (Evl.fresh_back e1 hD) (e1.trans e2) h2 hl hp⟩
theorem s_tupR {K : PySem.W.Frag} {σ : St} {H : Hp} {ta : TE} {n : Nat} {P : Nat → V → Prop} {D : Ends} (h : EvLr ta σ H n P) (k : ∀ ws l H2, H l = none → Ex H H2 → H2 l = some (.tup ws) → ws.length = n → (∀ (i : Nat) v, ws[i]? = some v → P i v) → D.rt (.ref l) H2) :
    tRet (tCB (fun xs H Q => ∃ p ys, xs = [V.ref p] ∧ ((SqL K H p ys ∧ ∀ (l : Addr), H l = none → Q (V.ref l) (upd H l (HO.tup ys))) ∨ SqT K H p ys ∧ Q (V.ref p) H)) (tCons ta tNil)) D σ H :=
  h H (Ex.refl _) _ fun p ws H2 hp e2 h2 hl hP => ⟨p, ws, rfl, .inl ⟨.inl (.inl h2), fun l hl' => k ws l _ (Evl.fresh_back e2 hl') (e2.trans (Ex.new hl')) upd_same hl hP⟩⟩
/-! ### _law_path -/
def abc : List Str := ["a", "b", "cc"]
def spLPath : Sp := fun vs H Q _ => ∃ more deep : Int, vs = [.int more, .int deep] ∧ 0 ≤ deep ∧ deep ≤ 10 ∧ ∀ (k : List Str) p H', Same H H' → H p = none → H' p = some (.tup (k.map V.str)) → (k.length : Int) ≤ deep → (∀ z ∈ k, z ∈ abc) → Q (.ref p) H'
theorem strs_of {ws : List V} {l : List Str} (h : ∀ (i : Nat) v, ws[i]? = some v → ∃ z ∈ l, v = .str z) : ∃ k : List Str, ws = k.map V.str ∧ ∀ z ∈ k, z ∈ l := by
  induction ws with
  | nil => exact ⟨[], rfl, fun _ h => by cases h⟩
  | cons w r ih =>
    obtain ⟨z, hz, rfl⟩ := h 0 w rfl
    obtain ⟨k, rfl, hk⟩ := ih fun i v hv => h (i + 1) v (by simpa using hv)
    exact ⟨z :: k, rfl, fun y hy => (List.mem_cons.mp hy).elim (fun e => e ▸ hz) (hk y)⟩
section
variable {P : Program} {w : World} {K : PySem.W.Frag} {mg : Str → Option Value} {base : Heap}
theorem scLPath : FnScope ["more", "deep", "j"] ["more", "deep"] (defScope sLPath) := ⟨rfl, rfl, rfl, by decide +kernel, rfl, by decide +kernel, by decide +kernel⟩
theorem ok_lpath {f : Addr} {fd : FuncData} (F : L2.Fun K "_law_path" "_law_path" sLPath f fd) (hm : mg "_law_path" = some (.ref f)) (hb : Binds K fd ["more", "deep"] []) (T : Tx K mg) (Dd : Df P w K mg base "_law_drawn" 1 ["cell", "k"] spDrawn) : Df P w K mg base "_law_path" 2 ["more", "deep"] spLPath := by
  refine df_of F hm hb scLPath (fun vs H Q E h => by obtain ⟨_, _, rfl, _⟩ := h; rfl) (fun cdv A outer s H vs Q E hr h => ?_)
  obtain ⟨more, deep, rfl, h0, h1, kk⟩ := h
  refine ⟨_, pss_one (ps_ret (pe_callTy call_tuple_of (by rfl) T.tup boot_tuple (pa_cons (pe_lc (own := [("j", 2)]) (g := gName 2) (tt := tYes) rfl scLPath.nd (pi_range1 (by rfl) T.rng (pa_cons (pe_op op_mod (pv 0) (pe_op op_add (pv 1) pe_int)) pa_nil)) (blkOk_by (own := [("j", 2)]) (N := ["more", "deep", "j"]) (sc := defScope sLPath) (by decide +kernel))
      (fun _ _ _ _ _ => pg_name (i := 2) scLPath.nd rfl (Or.inl rfl)) (fun _ _ _ _ _ => pts_nil)
      (fun _ _ _ _ _ => pe_ix (r := rIxL K) ix_list (pe_lst (pa_cons pe_str (pa_cons pe_str (pa_cons pe_str pa_nil)))) (pe_op op_mod (pe_df Dd hr (Nat.le_refl _) (by rfl) passN (pa_cons (pv 0) (pa_cons (pv 2) pa_nil))) pe_int) (fun _ _ => rfl))) pa_nil))), ?_⟩
  have hn0 : 0 ≤ more % (deep + 1) := Int.emod_nonneg _ (by omega)
  have hn1 : more % (deep + 1) < deep + 1 := Int.emod_lt_of_pos _ (by omega)
  refine s_tupR (n := (more % (deep + 1)).toNat) (P := fun _ v => ∃ z ∈ abc, v = .str z) (el_rR1 (hi := more % (deep + 1)) (Evl.ea_cons (ev_I (K := K) (Evl.ev_var rfl) (ev_I0 (Evl.ev_var rfl) Evl.ev_c) (by omega)) Evl.ea_nil) hn0 (by omega) (fun _ => rfl) fun i H2 e2 hi Q2 q2 => ?_) fun ws l H2 hl e2 h2 hn hp => ?_
  · refine (ed_lst (eds_cons (ed_c (v := .str "a") (.str _ (by decide +kernel))) (eds_cons (ed_c (v := .str "b") (.str _ (by decide +kernel))) (eds_cons (ed_c (v := .str "cc") (.str _ (by decide +kernel))) eds_nil))) (by simp)) H2 (Ex.refl _) _ fun vl H3 e3 rl => ?_
    refine ⟨_, rfl, _, rfl, more, (i : Int), rfl, by omega, by omega, fun n H4 n0 n1 s4 => ?_⟩
    refine ⟨n, 3, rfl, rfl, (by show (0 : Int) < 3; decide), ?_⟩
    show rIxL K vl (.int (n % 3)) H4 Q2
    obtain ⟨m, hm'⟩ : ∃ m : Nat, n % 3 = (m : Int) := ⟨(n % 3).toNat, by have := Int.emod_nonneg n (b := 3) (by decide); omega⟩
    have hml : m < 3 := by have := Int.emod_lt_of_pos n (b := 3) (by decide); omega
    rw [hm']
    have r4 := rl.ext (exN s4)
    cases r4 with
    | @lst p xs _ hp rs =>
      have hds : ([.str "a", .str "b", .str "cc"] : List PyData) = abc.map PyData.str := rfl
      rw [hds] at rs
      obtain ⟨exs, _⟩ := rs_strs' rs
      subst exs
      have hma : m < abc.length := hml
      exact ⟨p, _, _, .str abc[m], rfl, rfl, .inl (.inl hp), atI_nat (by rw [List.getElem?_map, List.getElem?_eq_getElem hma]; rfl), q2 _ H4 (e3.trans s4) ⟨abc[m], List.getElem_mem _, rfl⟩⟩
  · obtain ⟨k, rfl, hk⟩ := strs_of hp
    rw [List.length_map] at hn
    exact kk k l H2 e2 hl h2 (by omega) hk
end
end Lk
set_option Elab.async false
set_option linter.all false
set_option maxRecDepth 100000
set_option maxHeartbeats 4000000
namespace Lk
open PySem PySem.Spec PyProof.Rows L2 HotX L2H LamX
open Evl (Ev EvL EvA EvT Ex EvU)
open TL
/-! ### states that the law draws -/
def hit (a b : List Str) : Bool := decide (a.take b.length = b) || decide (b.take a.length = a)
structure GoodL (l : Ps) : Prop where
  len : ∀ p ∈ l, 1 ≤ p.1.length ∧ p.1.length ≤ 4
  abc : ∀ p ∈ l, ∀ z ∈ p.1, z ∈ abc
  num : ∀ p ∈ l, p.2.natAbs ≤ 1000000000
  apart : ∀ p ∈ l, ∀ q ∈ l, p.1 ≠ q.1 → hit p.1 q.1 = false
theorem good_nil : GoodL [] := ⟨fun p hp => (by cases hp), fun p hp => (by cases hp), fun p hp => (by cases hp), fun p hp => (by cases hp)⟩
theorem abc_word : ∀ z ∈ abc, isWord (.str z) = true ∧ z.length ≤ 100000 := by decide +kernel
theorem path_abc {k : List Str} (h1 : k.length ≤ 4) (h2 : ∀ z ∈ k, z ∈ abc) : isPath (encK k) = true := by
  show (decide (((k.map PyData.str).length : Int) ≤ 4) && (k.map PyData.str).all isWord) = true
  rw [Bool.and_eq_true]
  refine ⟨decide_eq_true (by rw [List.length_map]; omega), ?_⟩
  rw [List.all_map, List.all_eq_true]
  exact fun z hz => (abc_word z (h2 z hz)).1
theorem eqv_enc (a b : List Str) : PyData.eqv (encK a) (encK b) = decide (a = b) := by
  have : ∀ a b : List Str, PyData.eqvAll (a.map PyData.str) (b.map PyData.str) = decide (a = b) := by
    intro a
    induction a with
    | nil => intro b; cases b <;> simp [PyData.eqvAll]
    | cons x a ih =>
      intro b
      cases b with
      | nil => simp [PyData.eqvAll]
      | cons y b =>
        simp only [List.map_cons, PyData.eqvAll, PyData.eqv, ih b, List.cons.injEq]
        by_cases h1 : x = y <;> by_cases h2 : a = b <;> simp [h1, h2]
  show PyData.eqv (.tuple _) (.tuple _) = _
  rw [PyData.eqv]
  exact this a b
theorem good_state {l : Ps} (g : GoodL l) : isState (.dict (dsOf l)) = true := by
  show (dsOf l).all (okEntry (dsOf l)) = true
  rw [List.all_eq_true]
  intro e he
  obtain ⟨p, hp, rfl⟩ := List.mem_map.mp he
  obtain ⟨h1, h4⟩ := g.len p hp
  have hpath := path_abc h4 (g.abc p hp)
  have hnum : isNumber 1000000000 (.int p.2) = true := decide_eq_true (by have := g.num p hp; omega)
  have hne : PyData.eqv (encK p.1) (.tuple []) = false := by
    have e0 : (PyData.tuple []) = encK [] := rfl
    rw [e0, eqv_enc]
    refine decide_eq_false fun h => ?_
    rw [h] at h1
    simp at h1
  have hab : aboveD (dsOf l) (encK p.1) = false := by
    unfold aboveD
    rw [List.any_eq_false]
    intro n hn
    have hn' : n < p.1.length - 1 := by
      have := List.mem_range.mp hn
      have e : lenD (encK p.1) = p.1.length := List.length_map ..
      omega
    rw [Bool.not_eq_true]
    unfold hasD
    rw [List.any_eq_false]
    intro e he2
    obtain ⟨q, hq, rfl⟩ := List.mem_map.mp he2
    have et : takeD (n + 1) (encK p.1) = encK (p.1.take (n + 1)) := by
      show PyData.tuple ((p.1.map PyData.str).take (n + 1)) = PyData.tuple ((p.1.take (n + 1)).map PyData.str)
      rw [List.map_take]
    rw [et]
    show ¬ PyData.eqv (encK q.1) _ = true
    rw [eqv_enc]
    intro h
    have hqe := of_decide_eq_true h
    have hql : q.1.length = n + 1 := by rw [hqe, List.length_take]; omega
    have hne2 : p.1 ≠ q.1 := fun e => by rw [e] at hn'; omega
    have := g.apart p hp q hq hne2
    unfold hit at this
    rw [Bool.or_eq_false_iff] at this
    have h3 := of_decide_eq_false this.1
    rw [hql] at h3
    exact h3 hqe.symm
  show (!(!isPath (encK p.1) || (PyData.eqv (encK p.1) (.tuple []) || !isNumber 1000000000 (.int p.2))) && !aboveD (dsOf l) (encK p.1)) = true
  rw [hpath, hne, hnum, hab]
  rfl
theorem good_put {l : Ps} {k : List Str} {n : Int} (g : GoodL l) (h1 : 1 ≤ k.length) (h4 : k.length ≤ 4) (ha : ∀ z ∈ k, z ∈ abc) (hn : n.natAbs ≤ 1000000000) (hh : (l.any fun p => hit k p.1) = false) : GoodL (putS l k n) ∧ putS l k n = l ++ [(k, n)] := by
  have hno : ∀ p ∈ l, hit k p.1 = false := fun p hp => by
    have := List.any_eq_false.mp hh p hp
    simpa using this
  have e : putS l k n = l ++ [(k, n)] := by
    unfold putS
    rw [if_neg]
    intro h
    obtain ⟨p, hp, e⟩ := List.any_eq_true.mp h
    have e' : p.1 = k := of_decide_eq_true e
    have := hno p hp
    unfold hit at this
    rw [e', List.take_of_length_le (Nat.le_refl _)] at this
    simp at this
  rw [e]
  have sym : ∀ a b, hit a b = hit b a := fun a b => by unfold hit; rw [Bool.or_comm]
  refine ⟨⟨fun p hp => ?_, fun p hp => ?_, fun p hp => ?_, fun p hp q hq hne => ?_⟩, rfl⟩
  · rcases List.mem_append.mp hp with hp | hp
    · exact g.len p hp
    · rw [List.mem_singleton.mp hp]; exact ⟨h1, h4⟩
  · rcases List.mem_append.mp hp with hp | hp
    · exact g.abc p hp
    · rw [List.mem_singleton.mp hp]; exact ha
  · rcases List.mem_append.mp hp with hp | hp
    · exact g.num p hp
    · rw [List.mem_singleton.mp hp]; exact hn
  · rcases List.mem_append.mp hp with hp | hp
    · rcases List.mem_append.mp hq with hq | hq
      · exact g.apart p hp q hq hne
      · rw [List.mem_singleton.mp hq, sym]; exact hno p hp
    · rw [List.mem_singleton.mp hp] at hne ⊢
      rcases List.mem_append.mp hq with hq | hq
      · exact hno q hq
      · rw [List.mem_singleton.mp hq] at hne; exact absurd rfl hne
section
variable {K : PySem.W.Frag} {σ : St} {H : Hp} {te : TE}
/-- [e for x in d], d a dict with tuple keys -/
theorem el_keysL {d : Addr} {kvs : List (List Key × V)} {i jx : Nat} {vs : List Nat} (h : σ[i]? = some (some (.ref d))) (hd : H d = some (.dT kvs)) (ws : List V) (hn : ws.length = kvs.length) (hz : kvs.length ≤ 40000) (hw : ∀ x, wipe ((wipe σ vs).set jx (some x)) vs = wipe σ vs)
    (he : ∀ (i : Nat) k v q H1, (∀ b xs, H b = some (.tup xs) → H1 b = some (.tup xs)) → kvs[i]? = some (k, v) → H1 q = some (.tup (k.map kV)) → Ev te ((wipe σ vs).set jx (some (.ref q))) H1 (ws.getD i .non)) :
    EvL (tLockE (tLc (iKeys (tVar i)) (gName jx) tYes te vs)) σ H ws := fun H0 e0 Q q => by
  have hd0 := e0 _ _ hd
  refine ⟨d, .dT kvs, hd0, trivial, fun od => ⟨_, h, d, od, rfl, .inr ⟨kvs, upd_same, fun D hD => ?_⟩⟩⟩
  have nD : D ≠ d := fun e => by rw [e, upd_same] at hD; cases hD
  refine lc_r (te := te) (Q := fun v H' => H' d = some (.frz od (.dT kvs)) ∧ Q v (upd H' d (.dT kvs))) (walk_keysT (d := d) (o := od) (kvs := kvs)) (fun i H x H' y => y.1) (fun H' e => e _ _ upd_same) (fun i v => v = ws.getD i .non) hz hw (fun i x H2 e2 hi y Q2 q2 => ?_) hD fun H2 ws' e2 h2 hl hp => ?_
  · obtain ⟨_, k, v, p, hk, rfl, hq⟩ := y
    refine he i k v p H2 (fun b xs hb => e2 _ _ ?_) hk hq H2 (Ex.refl _) Q2 fun H3 e3 => q2 _ H3 e3 rfl
    rw [upd_ne (ne_of (e0 _ _ hb) hd0 (fun z => nomatch z))]
    exact e0 _ _ hb
  · have ew : ws' = ws := by
      apply List.ext_getElem?
      intro j
      by_cases hj : j < ws'.length
      · rw [List.getElem?_eq_getElem hj]
        have h3 := hp j ws'[j] (List.getElem?_eq_getElem hj)
        have hj2 : j < ws.length := by omega
        rw [h3]
        simp [hj2]
      · rw [List.getElem?_eq_none (by omega), List.getElem?_eq_none (by omega)]
    subst ew
    refine ⟨e2 _ _ upd_same, q D _ ?_ (fun b o hb => ?_) ?_⟩
    · rw [upd_ne nD] at hD; exact hD
    · by_cases hbd : b = d
      · rw [hbd] at hb ⊢
        rw [upd_same]
        exact hd0.symm.trans hb
      · rw [upd_ne hbd]
        exact e2 _ _ (by rw [upd_ne hbd]; exact hb)
    · rw [upd_ne nD]; exact h2
end
theorem q_drawn {σ : St} {H : Hp} {ta tb : TE} {i : Nat} {tz : TS} {D : Ends} {E : XK} {c k : Int} (h1 : Ev ta σ H (.int c)) (h2 : Ev tb σ H (.int k)) (h0 : 0 ≤ k) (hk : k ≤ 100000) (q : ∀ n H1, 0 ≤ n → n < bigP → Ex H H1 → tz D (σ.set i (some (.int n))) H1) :
    tSeq (tAsg (tCall spDrawn [] E (tCons ta (tCons tb tNil))) (gName i)) tz D σ H :=
  h1 H (Ex.refl H) _ fun H1 e1 => h2 H1 e1 _ fun H2 e2 => ⟨c, k, rfl, h0, hk, fun n H3 n0 n1 s3 => q n H3 n0 n1 ((e1.trans e2).trans s3)⟩
theorem q_drawnC {K : PySem.W.Frag} {σ : St} {H : Hp} {ta tb tc : TE} {i : Nat} {tz : TS} {D : Ends} {E E' : XK} {a : Addr} {ns : List Int} {k : Int} (h1 : Ev ta σ H (.ref a)) (h2 : Ev tb σ H (.int k)) (h3 : Ev tc σ H (.int k)) (hs : ∀ H1, Ex H H1 → SqL K H1 a (ns.map V.int)) (hl : ns.length ≤ 1000) (h0 : 0 ≤ k) (hk : k ≤ 100000) (q : ∀ n H1, 0 ≤ n → n < bigP → Ex H H1 → tz D (σ.set i (some (.int n))) H1) :
    tSeq (tAsg (tCall spDrawn [] E (tCons (tCall (spCell K) [] E' (tCons ta (tCons tb tNil))) (tCons tc tNil))) (gName i)) tz D σ H :=
  h1 H (Ex.refl H) _ fun H1 e1 => h2 H1 e1 _ fun H2 e2 => ⟨a, ns, k, rfl, hs H2 (e1.trans e2), hl, h0, hk, fun c H3 s3 => h3 H3 ((e1.trans e2).trans s3) _ fun H4 e4 => ⟨c, k, rfl, h0, hk, fun n H5 n0 n1 s5 => q n H5 n0 n1 ((((e1.trans e2).trans s3).trans e4).trans s5)⟩⟩
/-- (x,) + _law_path(_law_drawn(here, 1), 3) -/
theorem q_lpath {K : PySem.W.Frag} {σ : St} {H : Hp} {ta tb : TE} {i : Nat} {tz : TS} {D : Ends} {E E' : XK} {z : Str} {c : Int} (h1 : EvD ta σ H (.tuple [.str z])) (hz : z ∈ abc) (h2 : Ev tb σ H (.int c))
    (q : ∀ (k : List Str) p H1, Ex H H1 → H1 p = some (.tup (k.map V.str)) → 1 ≤ k.length → k.length ≤ 4 → (∀ y ∈ k, y ∈ abc) → tz D (σ.set i (some (.ref p))) H1) :
    tSeq (tAsg (tOp (rCatT K) ta (tCall spLPath [] E (tCons (tCall spDrawn [] E' (tCons tb (tCons (tC (.int 1)) tNil))) (tCons (tC (.int 3)) tNil)))) (gName i)) tz D σ H :=
  h1 H (Ex.refl H) _ fun v H1 e1 r1 => h2 H1 e1 _ fun H2 e2 => ⟨c, 1, rfl, by decide, by decide, fun n H3 n0 n1 s3 => ⟨n, 3, rfl, by decide, by decide, fun k p H4 s4 hp hp4 hk ha => by
    have r4 := r1.ext (exN ((e2.trans s3).trans s4))
    cases r4 with
    | @tup a xs _ hx rs =>
      have rs' : Rs H4 xs (([z] : List Str).map PyData.str) := rs
      obtain ⟨exs, _⟩ := rs_strs' rs'
      subst exs
      have hkl : k.length ≤ 3 := by omega
      have e04 : Ex H H4 := ((e1.trans e2).trans s3).trans s4
      refine ⟨a, p, _, _, rfl, rfl, .inl (.inl hx), .inl (.inl hp4), by simp, Evl.sz_of (by simp; omega), fun hnil => ?_, fun _ p5 hp5 => ?_⟩
      · exact q [z] a H4 e04 hx (by simp) (by simp) (fun y hy => by rw [List.mem_singleton.mp hy]; exact hz)
      · refine q (z :: k) p5 _ (e04.trans (Ex.new hp5)) ?_ (by simp) (by simp; omega) (fun y hy => (List.mem_cons.mp hy).elim (fun e => e ▸ hz) (ha y))
        rw [upd_same]
        rfl⟩⟩
def spLState : Sp := fun vs H Q _ => ∃ more many : Int, vs = [.int more, .int many] ∧ 0 ≤ many ∧ many ≤ 20 ∧ ∀ (l : Ps) q H', Same H H' → H q = none → FdAt H' q l → GoodL l → (l.length : Int) ≤ many → Q (.ref q) H'
section
variable {P : Program} {w : World} {K : PySem.W.Frag} {mg : Str → Option Value} {base : Heap}
theorem scLState : FnScope ["more", "many", "found", "j", "here", "path", "one"] ["more", "many"] (defScope sLState) := ⟨rfl, rfl, rfl, by decide +kernel, rfl, by decide +kernel, by decide +kernel⟩
theorem take_strs (a : List Str) (n : Nat) : ((a.map PyData.str).take n) = (a.take n).map PyData.str := by rw [List.map_take]
theorem ok_lstate {f : Addr} {fd : FuncData} (F : L2.Fun K "_law_state" "_law_state" sLState f fd) (hm : mg "_law_state" = some (.ref f)) (hb : Binds K fd ["more", "many"] []) (T : Tx K mg) (Dd : Df P w K mg base "_law_drawn" 1 ["cell", "k"] spDrawn) (Dp : Df P w K mg base "_law_path" 2 ["more", "deep"] spLPath) : Df P w K mg base "_law_state" 3 ["more", "many"] spLState := by
  refine df_of F hm hb scLState (fun vs H Q E h => by obtain ⟨_, _, rfl, _⟩ := h; rfl) (fun cdv A outer s H vs Q E hr h => ?_)
  obtain ⟨more, many, rfl, h0, h1, kk⟩ := h
  have hu := hu_of hr
  refine ⟨_, PSs.nox (pss_cons (ps_set (i := 2) scLState.nd rfl (Or.inl rfl) pe_dnewT)
    (pss_cons (ps_for PassesOwn.never rfl (pi_range1 (by rfl) T.rng (pa_cons (pe_op op_mod (pv 0) (pe_op op_add (pv 1) pe_int)) pa_nil)) (pg_name (i := 3) scLState.nd rfl (Or.inl rfl))
      (pss_cons (ps_set (i := 4) scLState.nd rfl (Or.inl rfl) (pe_df Dd hr (by decide) (by rfl) passN (pa_cons (pv 0) (pa_cons (pv 3) pa_nil))))
      (pss_cons (ps_set (i := 5) scLState.nd rfl (Or.inr rfl) (pe_op op_catT (pe_tup (pa_cons (pe_ix ix_list (pe_lst (pa_cons pe_str (pa_cons pe_str (pa_cons pe_str pa_nil)))) (pe_op op_mod (pe_op op_fdiv (pv 4) pe_int) pe_int) (fun _ _ => rfl)) pa_nil)) (pe_df Dp hr (by decide) (by rfl) passN (pa_cons (pe_df Dd hr (by decide) (by rfl) passN (pa_cons (pv 4) (pa_cons pe_int pa_nil))) (pa_cons pe_int pa_nil)))))
      (pss_one (ps_if (pt_not (pt_val (pe_callB (cr_any rfl) (by rfl) T.any boot_any (pa_cons (pe_lock (pe_lc (own := [("one", 6)]) (g := gName 6) (tt := tYes) rfl scLState.nd (pi_keys (pv 2)) (blkOk_by (own := [("one", 6)]) (N := ["more", "many", "found", "j", "here", "path", "one"]) (sc := defScope sLState) (by decide +kernel))
          (fun _ _ _ _ _ => pg_name (i := 6) scLState.nd rfl (Or.inl rfl)) (fun _ _ _ _ _ => pts_nil)
          (fun _ _ _ _ _ => pe_or (pe_cmpR (r := rEqD K) (op_eqD hr.units) (pe_slice (r := rSlA K) sl_tupA (pv 5) po_none (po_some (pe_callB (r := Evl.rLenS K) call_len_seq (by rfl) T.len PySem.boot_len (pa_cons (pv 6) pa_nil)))) (pv 6) (nomark _)) (pe_one (pe_cmpR (r := rEqD K) (op_eqD hr.units) (pe_slice (r := rSlA K) sl_tupA (pv 6) po_none (po_some (pe_callB (r := Evl.rLenS K) call_len_seq (by rfl) T.len PySem.boot_len (pa_cons (pv 5) pa_nil)))) (pv 5) (nomark _)))))) pa_nil))))
        (pss_one (ps_dput hu (pv 2) (pv 5) (pe_ix ix_list (pe_lst (pa_cons (pe_op op_mod (pe_op op_fdiv (pv 4) pe_int) pe_int) (pa_cons pe_int (pa_cons (pe_op op_sub pe_int (pe_op op_mod (pe_op op_fdiv (pv 4) pe_int) pe_int)) (pa_cons pe_int pa_nil))))) (pe_op op_mod (pe_op op_fdiv (pv 4) (pe_op op_pow pe_int pe_int)) pe_int) (fun _ _ => rfl)) rfl)) pss_nil)))))
    (pss_one (ps_ret (pv 2))))), ?_⟩
  intro q hq
  have back : ∀ {H' : Hp}, But q (upd H q (.dT [])) H' → Same H H' := fun b b' o hb => by
    have n1 : b' ≠ q := fun e => by rw [e, hq] at hb; cases hb
    exact b b' o (by rw [upd_ne n1]; exact hb) n1
  have fd0 : FdAt (upd H q (.dT [])) q [] := ⟨upd_same, List.Pairwise.nil, fun k hk => by cases hk⟩
  generalize upd H q (.dT []) = H2 at back fd0
  show tSeq _ _ _ [some (.int more), some (.int many), some (.ref q), none, none, none, none] H2
  have hn0 : 0 ≤ more % (many + 1) := Int.emod_nonneg _ (by omega)
  have hn1 : more % (many + 1) < many + 1 := Int.emod_lt_of_pos _ (by omega)
  refine Evl.q_forR1 (n := more % (many + 1)) (Evl.ea_cons (ev_I (K := K) (C := fun x j => (0 : Int) < j) (g := fun i j => V.int (i % j)) (i := more) (j := many + 1) (Evl.ev_var rfl) (ev_I0 (Evl.ev_var rfl) Evl.ev_c) (by omega)) Evl.ea_nil) ⟨hn0, by omega⟩ (fun i σ' H' => (∃ o3 o4 o5 o6, σ' = [some (.int more), some (.int many), some (.ref q), o3, o4, o5, o6]) ∧ But q H2 H' ∧ ∃ l, FdAt H' q l ∧ GoodL l ∧ l.length ≤ i)
    (fun H3 e3 => ⟨⟨_, _, _, _, rfl⟩, But.ofEx e3, [], fd0.keep e3, good_nil, Nat.le_refl _⟩) (fun i σ' H3 hi ⟨⟨o3, o4, o5, o6, e⟩, b3, l, fl, gl, hl⟩ => ?_) (fun σ' H3 ⟨⟨o3, o4, o5, o6, e⟩, b3, l, fl, gl, hl⟩ => ?_)
  · subst e
    show tSeq _ _ _ [some (.int more), some (.int many), some (.ref q), some (.int (i : Int)), o4, o5, o6] H3
    refine q_drawn (k := (i : Int)) (Evl.ev_var rfl) (Evl.ev_var rfl) (by omega) (by omega) fun here H4 n0 n1 e4 => ?_
    show tSeq _ _ _ [some (.int more), some (.int many), some (.ref q), some (.int (i : Int)), some (.int here), o5, o6] H4
    obtain ⟨m, hm'⟩ : ∃ m : Nat, here / 4 % 3 = (m : Int) := ⟨(here / 4 % 3).toNat, by have := Int.emod_nonneg (here / 4) (b := 3) (by decide); omega⟩
    have hml : m < abc.length := by have := Int.emod_lt_of_pos (here / 4) (b := 3) (by decide); show m < 3; omega
    refine q_lpath (z := abc[m]) (c := here) (ed_tup (eds_cons (ed_ixL (k := m) (ds := abc.map PyData.str) (ed_lst (eds_cons (ed_c (v := .str "a") (.str _ (by decide +kernel))) (eds_cons (ed_c (v := .str "b") (.str _ (by decide +kernel))) (eds_cons (ed_c (v := .str "cc") (.str _ (by decide +kernel))) eds_nil))) (by decide +kernel)) (ed_is (d := .int (here / 4 % 3)) (ed_I (i := here / 4) (j := 3) (ed_I (i := here) (j := 4) (ed_var rfl (.int _)) (ed_c (.int 4)) ⟨by decide, by decide⟩ (.int _)) (ed_c (.int 3)) (by decide) (.int _)) (by rw [hm'])) (by rw [List.getElem?_map, List.getElem?_eq_getElem hml]; rfl)) eds_nil) (by simp)) (List.getElem_mem _) (Evl.ev_var rfl) fun k p H5 e5 hp k1 k4 ka => ?_
    show tIfS _ _ _ _ [some (.int more), some (.int many), some (.ref q), some (.int (i : Int)), some (.int here), some (.ref p), o6] H5
    have fl5 := (fl.keep e4).keep e5
    have kz : ∀ z ∈ k, z.length ≤ 100000 := fun z hz => (abc_word z (ka z hz)).2
    have hany : EvD _ [some (.int more), some (.int many), some (.ref q), some (.int (i : Int)), some (.int here), some (.ref p), o6] H5 (.bool (l.any fun x => hit k x.1)) := ed_is (ed_any (K := K) (bs := l.map fun x => hit k x.1) (el_keysL (i := 2) (jx := 6) (vs := [6]) (te := tOrV (tOp (rEqD K) (tSl (rSlA K) (tVar 5) tNoPart (tPart (tCB (Evl.rLenS K) (tCons (tVar 6) tNil)))) (tVar 6)) (tOp (rEqD K) (tSl (rSlA K) (tVar 6) tNoPart (tPart (tCB (Evl.rLenS K) (tCons (tVar 5) tNil)))) (tVar 5))) rfl fl5.at_ _ (by simp) (by rw [List.length_map]; omega) (fun _ => rfl) fun n kk v qq H6 hx hkv hq => ?_)) (by rw [List.any_map]; rfl)
    · refine Evl.s_if (b := !(l.any fun x => hit k x.1)) (Evl.et_not (et_b hany)) (fun hh H6 e6 => ?_) (fun hh H6 e6 => ?_)
      · have hh' : (l.any fun x => hit k x.1) = false := by simpa using hh
        have fl6 := fl5.keep e6
        have hp6 := e6 _ _ hp
        obtain ⟨n, hn⟩ : ∃ n : Nat, here / 1048576 % 4 = (n : Int) := ⟨(here / 1048576 % 4).toNat, by have := Int.emod_nonneg (here / 1048576) (b := 4) (by decide); omega⟩
        have hn4 : n < 4 := by have := Int.emod_lt_of_pos (here / 1048576) (b := 4) (by decide); omega
        have r1 := Int.emod_nonneg (here / 64) (b := 10) (by decide)
        have r2 := Int.emod_lt_of_pos (here / 64) (b := 10) (by decide)
        have r3 := Int.emod_nonneg (here / 64) (b := 50) (by decide)
        have r4 := Int.emod_lt_of_pos (here / 64) (b := 50) (by decide)
        obtain ⟨val, hval, hvb⟩ : ∃ val : Int, ([.int (here / 64 % 10), .int 0, .int (0 - here / 64 % 50), .int 1000000000] : List PyData)[n]? = some (.int val) ∧ val.natAbs ≤ 1000000000 := by
          match n, hn4 with
          | 0, _ => exact ⟨_, rfl, by omega⟩
          | 1, _ => exact ⟨_, rfl, by decide⟩
          | 2, _ => exact ⟨_, rfl, by omega⟩
          | 3, _ => exact ⟨_, rfl, by decide⟩
        have e64 : ∀ {H7 : Hp} (b : Int), 0 < b → EvD (tOp (rI (fun x j => 0 < j) fun i j => V.int (i % j)) (tOp (rI (fun x j => 0 < j ∧ j < 1073741824) fun i j => V.int (i / j)) (tVar 4) (tC (.int 64))) (tC (.int b))) [some (.int more), some (.int many), some (.ref q), some (.int (i : Int)), some (.int here), some (.ref p), o6] H7 (.int (here / 64 % b)) := fun b hb => ed_I (i := here / 64) (j := b) (ed_I (i := here) (j := 64) (ed_var rfl (.int _)) (ed_c (.int 64)) ⟨by decide, by decide⟩ (.int _)) (ed_c (.int b)) hb (.int _)
        refine (ed_ixL (K := K) (k := n) (ds := [.int (here / 64 % 10), .int 0, .int (0 - here / 64 % 50), .int 1000000000]) (d := .int val) (ed_lst (eds_cons (e64 10 (by decide)) (eds_cons (ed_c (.int 0)) (eds_cons (ed_I0 (ed_c (.int 0)) (e64 50 (by decide)) (.int _)) (eds_cons (ed_c (.int 1000000000)) eds_nil)))) (by simp)) (ed_is (d := .int (here / 1048576 % 4)) (ed_I (i := here / 1048576) (j := 4) (ed_I (i := here) (j := 1048576) (ed_var rfl (.int _)) (ed_I (i := 2) (j := 20) (ed_c (.int 2)) (ed_c (.int 20)) ⟨by decide, by decide, by decide⟩ (.int _)) ⟨by decide, by decide⟩ (.int _)) (ed_c (.int 4)) (by decide) (.int _)) (by rw [hn])) hval).ti H6 (Ex.refl _) _ fun H7 e7 => ?_
        refine ⟨_, rfl, _, rfl, q, _, rfl, DPut.t (k := k.map Sum.inr) (fl6.keep e7).at_ (by rw [e7 _ _ hp6, List.map_map]; rfl) (by rw [List.length_map]; exact Evl.sz_lt (by omega)), ?_⟩
        obtain ⟨g', ge⟩ := good_put gl k1 k4 ka hvb hh'
        refine ⟨⟨_, _, _, _, rfl⟩, fun b' o hb' hne => ?_, putS l k val, (fl6.keep e7).put kz, g', by rw [ge]; simp; omega⟩
        rw [upd_ne hne]
        exact e7 _ _ (e6 _ _ (e5 _ _ (e4 _ _ (b3 _ _ hb' hne))))
      · exact ⟨⟨_, _, _, _, rfl⟩, b3.trans (But.ofEx ((e4.trans e5).trans e6)), l, fl5.keep e6, gl, by omega⟩
    · have hkv' : (l.map kvOf)[n]? = some (kk, v) := hkv
      rw [List.getElem?_map] at hkv'
      obtain ⟨x, hxl, hxe⟩ : ∃ x, l[n]? = some x ∧ kvOf x = (kk, v) := by
        cases e : l[n]? with
        | none => rw [e] at hkv'; cases hkv'
        | some zz => rw [e] at hkv'; exact ⟨zz, rfl, Option.some.inj hkv'⟩
      have hgd : ((l.map fun x => hit k x.1).map V.bl).getD n .non = .bl (hit k x.1) := by simp [hxl]
      rw [hgd]
      have hkk : kk = x.1.map Sum.inr := (congrArg Prod.fst hxe).symm
      have hxm := List.mem_of_getElem? hxl
      have hq6 : H6 qq = some (.tup (x.1.map V.str)) := by rw [hq, hkk, List.map_map]; rfl
      have rq : R H6 (.ref qq) (encK x.1) := .tup hq6 (rs_strs fun z hz => (abc_word z (gl.abc x hxm z hz)).2)
      have rp : R H6 (.ref p) (encK k) := .tup (hx _ _ hp) (rs_strs kz)
      have sx : ∀ m : Nat, SeqAt.shaped (encK (x.1.take m)) = true := fun m => shaped_path (path_abc (by rw [List.length_take]; have := (gl.len x hxm).2; omega) fun z hz => gl.abc x hxm z (List.mem_of_mem_take hz))
      have sk : ∀ m : Nat, SeqAt.shaped (encK (k.take m)) = true := fun m => shaped_path (path_abc (by rw [List.length_take]; omega) fun z hz => ka z (List.mem_of_mem_take hz))
      have sx0 : SeqAt.shaped (encK x.1) = true := by have := sx x.1.length; rw [List.take_of_length_le (Nat.le_refl _)] at this; exact this
      have sk0 : SeqAt.shaped (encK k) = true := by have := sk k.length; rw [List.take_of_length_le (Nat.le_refl _)] at this; exact this
      refine EvD.vb (ed_or (b := decide (k.take x.1.length = x.1)) (c := decide (x.1.take k.length = k)) (ed_is (ed_eq (d := encK (k.take x.1.length)) (e := encK x.1) (ed_is (ed_slT (n := x.1.length) (ds := k.map PyData.str) (ed_var rfl rp) (ed_is (ed_lenQ (ds := x.1.map PyData.str) (ed_var rfl rq) (.inl rfl)) (by rw [List.length_map]))) (by rw [take_strs]; rfl)) (ed_var rfl rq) (sk _) sx0) (by rw [eqv_enc])) fun _ =>
        ed_is (ed_eq (d := encK (x.1.take k.length)) (e := encK k) (ed_is (ed_slT (n := k.length) (ds := x.1.map PyData.str) (ed_var rfl rq) (ed_is (ed_lenQ (ds := k.map PyData.str) (ed_var rfl rp) (.inl rfl)) (by rw [List.length_map]))) (by rw [take_strs]; rfl)) (ed_var rfl rp) (sx _) sk0) (by rw [eqv_enc]))
  · subst e
    exact ⟨_, rfl, kk l q H3 (back b3) hq fl gl (by omega)⟩
end
end Lk
set_option Elab.async false
set_option linter.all false
set_option maxRecDepth 100000
set_option maxHeartbeats 4000000
/-! The law's own writing of paths and states, and its own test of a state. -/
namespace Lk
open PySem PySem.Spec PyProof.Rows L2 HotX L2H LamX
open Evl (Ev EvL EvA EvT Ex EvU)
open TL
abbrev sLIS : Stmt := topS 47
abbrev sLPT : Stmt := topS 49
abbrev sLST : Stmt := topS 50
section
variable {P : Program} {w : World} {K : PySem.W.Frag} {mg : Str → Option Value} {base : Heap}
theorem scLPT : FnScope ["path"] ["path"] (defScope sLPT) := ⟨rfl, rfl, rfl, by decide +kernel, rfl, by decide +kernel, by decide +kernel⟩
theorem ok_LPT {f : Addr} {fd : FuncData} (F : L2.Fun K "_law_path_text" "_law_path_text" sLPT f fd) (hm : mg "_law_path_text" = some (.ref f)) (hb : Binds K fd ["path"] []) : Df P w K mg base "_law_path_text" 1 ["path"] spPathT := by
  refine df_of F hm hb scLPT (fun vs H Q E h => by obtain ⟨_, _, rfl, _⟩ := h; rfl) (fun cdv A outer s H vs Q E hr h => ?_)
  obtain ⟨v, d, rfl, rd, hp, k⟩ := h
  refine ⟨_, pss_one (ps_ret (pe_ifExp (pt_cmpR (op_neD hr.units) (pv 0) (pe_tup pa_nil) (nomark _)) (pe_join pe_str (pv 0)) pe_str)), ?_⟩
  obtain ⟨zs, e, es, h4, hw⟩ := path_strs hp
  refine s_retD (d := .str (pathText d)) ?_ fun v1 H1 e1 r1 => by cases r1; exact k H1 e1
  have hne : PyData.eqv d (.tuple []) = decide (zs = []) := by
    rw [e]
    cases zs <;> simp [PyData.eqv, PyData.eqvAll]
  refine ed_if (b := !PyData.eqv d (.tuple [])) (Evl.et_test (ed_ne (ed_var rfl rd) (ed_tup eds_nil (by decide)) (shaped_path hp) (by decide +kernel)).vb) (fun hb1 => ?_) (fun hb1 => ?_)
  · have hz : ¬ zs = [] := by rw [hne] at hb1; simpa using hb1
    refine ed_is (ed_join (X := cxOf (L2N.CX P w) P w K mg base ["path"] "_law_path_text" (defScope sLPT) f cdv A outer s H E) (y := dotS) (zs := zs) (ed_c (v := .str dotS) (.str _ (by decide +kernel))) (ed_var rfl rd) (.inl e) ?_) ?_
    · have h1 := sum_le fun z hz => (word_len (hw z hz)).2
      have h2 : dotS.length = 1 := by decide +kernel
      rw [h2]
      omega
    · unfold pathText
      rw [es, if_neg hz]
  · have hz : zs = [] := by rw [hne] at hb1; simpa using hb1
    refine ed_is (ed_c (v := .str dotS) (.str _ (by decide +kernel))) ?_
    unfold pathText
    rw [es, if_pos hz]
def spLST : Sp := fun vs H Q _ => ∃ d a kvs, vs = [.ref a] ∧ R H (.ref a) d ∧ H a = some (.dT kvs) ∧ isState d = true ∧ dlen d ≤ 2000 ∧ ∀ H', Same H H' → Q (.str (stateText d)) H'
theorem scLST : FnScope ["state", "path"] ["state"] (defScope sLST) := ⟨rfl, rfl, rfl, by decide +kernel, rfl, by decide +kernel, by decide +kernel⟩
theorem ok_LST {f : Addr} {fd : FuncData} (F : L2.Fun K "_law_state_text" "_law_state_text" sLST f fd) (hm : mg "_law_state_text" = some (.ref f)) (hb : Binds K fd ["state"] []) (T : Tx K mg) (B : Tb K mg) (Dp : Df P w K mg base "_law_path_text" 1 ["path"] spPathT) :
    Df P w K mg base "_law_state_text" 2 ["state"] spLST := by
  refine df_of F hm hb scLST (fun vs H Q E h => by obtain ⟨_, _, _, rfl, _⟩ := h; rfl) (fun cdv A outer s H vs Q E hr h => ?_)
  obtain ⟨d, a, kvs0, rfl, rd, ha0, z, hlen, k3⟩ := h
  have hu := hu_of hr
  have hun := hr.units
  refine ⟨_, (pss_one (ps_ret (pe_join pe_str (pe_lc (own := [("path", 1)]) (g := gName 1) (tt := tYes) rfl scLST.nd (pi_list (pe_callB (call_sortedDT rfl (Nat.lt_of_le_of_lt (Nat.add_le_add_left (by decide) _) hun)) (by rfl) B.srt (by decide +kernel) (pa_cons (pv 0) pa_nil))) (blkOk_by (own := [("path", 1)]) (N := ["state", "path"]) (sc := defScope sLST) (by decide +kernel))
      (fun _ _ _ _ _ => pg_name (i := 1) scLST.nd rfl (Or.inl rfl)) (fun _ _ _ _ _ => pts_nil)
      (fun _ _ _ _ _ => pe_op op_add_str (pe_op op_add_str (pe_df Dp hr (by decide) (by rfl) passN (pa_cons (pv 1) pa_nil)) pe_str) (pe_callTy call_str_int (by rfl) T.str boot_str (pa_cons (pe_dget hu (pv 0) (pv 1) (fun _ _ => rfl)) pa_nil))))))), ?_⟩
  cases rd with
  | @dT _ kvs ds ha hn hk hv =>
    have S := st_at (a := a) z hn.2 hk hv
    have ha1 := ha
    have hks : (keysOf ds).length = ds.length := List.length_map ..
    have hrl : ((isortK (keysOf ds)).map (rowT ds)).length = ds.length := by rw [List.length_map, (isortK_perm _).length_eq, hks]
    have hl2 : ds.length ≤ 2000 := hlen
    have hrows := state_rows S
    have hsum := sum_le hrows
    have l0 : nlS.length = 1 := by decide +kernel
    refine s_retD (d := .str (stateText (.dict ds))) (ed_join (X := cxOf (L2N.CX P w) P w K mg base ["state", "path"] "_law_state_text" (defScope sLST) f cdv A outer s H E) (y := nlS) (zs := (isortK (keysOf ds)).map (rowT ds)) (ed_c (v := .str nlS) (.str _ (by decide +kernel))) (EvD.ofL (el_lcSrt (a := a) (kvs := kvs) (ks := keysOf ds) (Evl.ev_var rfl) ha1 S.keys (fun k hk => (S.path k hk).1) (((isortK (keysOf ds)).map (rowT ds)).map V.str) ?_ ?_ (fun _ => rfl) fun i b k H2 e2 hk1 hb2 => ?_) (rs_strs fun z hz => Nat.le_trans (hrows z hz) (by decide))) (.inr rfl) ?_) fun v1 H5 e5 r1 => by cases r1; exact k3 H5 e5
    · rw [List.length_map, hrl, hks]
    · rw [hks]; omega
    · have hmem := (isortK_perm (keysOf ds)).mem_iff.mp (List.mem_of_getElem? hk1)
      obtain ⟨hne, hpath⟩ := S.path k hmem
      obtain ⟨hval, habs⟩ := S.val k hmem
      have hgd : (((isortK (keysOf ds)).map (rowT ds)).map V.str).getD i .non = .str (rowT ds k) := by simp [hk1]
      rw [hgd]
      obtain ⟨zs, ez, es, _, hw⟩ := path_strs hpath
      have ezk : zs = k := (strs_inj (PyData.tuple.inj (show PyData.tuple (k.map PyData.str) = .tuple (zs.map PyData.str) from ez))).symm
      have rb : R H2 (.ref b) (encK k) := .tup hb2 (rs_strs fun z hz => Nat.le_trans (word_len (hw z (by rw [ezk]; exact hz))).2 (by decide))
      have lb : blS.length = 1 := by decide +kernel
      have l1 := pathText_len hpath
      have l2 := numT_len habs
      refine EvD.ts (x := rowT ds k) (ed_addS (ed_addS (ed_pathT (ed_var rfl rb) hpath) (ed_c (v := .str blS) (.str _ (by decide +kernel))) (by rw [lb]; omega)) (ed_strI (i := valOf ds k) (fun H6 e6 Q6 q6 => ?_) habs) (by rw [len_app, lb]; show _ + (numT (valOf ds k)).length ≤ _; omega))
      refine ⟨_, rfl, _, rfl, a, .int (valOf ds k), rfl, .inr ⟨kvs, k.map Sum.inr, b, .inl (e6 _ _ (e2 _ _ ha1)), rfl, ?_, hval.symm⟩, q6 _ H6 (Ex.refl _) (.int _)⟩
      rw [e6 _ _ hb2, List.map_map]
      rfl
    · rw [l0, hrl]
      rw [hrl] at hsum
      omega
  | @dK _ kvs ds ha hn hk hv =>
    rw [ha] at ha0
    cases ha0
  | _ => cases z
def spLIS : Sp := fun vs H Q _ => ∃ ds a kvs, vs = [.ref a] ∧ R H (.ref a) (.dict ds) ∧ H a = some (.dT kvs) ∧ isState (.dict ds) = true ∧ ∀ H', Same H H' → Q (.bl true) H'
theorem scLIS : FnScope ["state", "path", "many"] ["state"] (defScope sLIS) := ⟨rfl, rfl, rfl, by decide +kernel, rfl, by decide +kernel, by decide +kernel⟩
theorem ok_LIS {f : Addr} {fd : FuncData} (F : L2.Fun K "_law_is_state" "_law_is_state" sLIS f fd) (hm : mg "_law_is_state" = some (.ref f)) (hb : Binds K fd ["state"] []) (T : Tx K mg) :
    Df P w K mg base "_law_is_state" 1 ["state"] spLIS := by
  refine df_of F hm hb scLIS (fun vs H Q E h => by obtain ⟨_, _, _, rfl, _⟩ := h; rfl) (fun cdv A outer s H vs Q E hr h => ?_)
  obtain ⟨ds, a, kvs0, rfl, rd, ha0, hst, k⟩ := h
  have hu := hu_of hr
  refine ⟨_, PSs.nox ((pss_cons (ps_lock (ps_for PassesOwn.never rfl (pi_keys (pv 0)) (pg_name (i := 1) scLIS.nd rfl (Or.inr rfl))
      (pss_cons (ps_if (PW.pt (pw_or (pt_not (pt_chain op_le op_le pe_int (pe_callB call_len_seq (by rfl) T.len PySem.boot_len (pa_cons (pv 1) pa_nil)) pe_int)) (pw_or1 (pt_cmpR op_gt (pe_callB call_abs (by rfl) T.abs (by decide +kernel) (pa_cons (pe_dget hu (pv 0) (pv 1) (fun _ _ => rfl)) pa_nil)) pe_int (nomark _))))) (pss_one (ps_ret pe_bl)) pss_nil)
      (pss_one (ps_if (pt_val (pe_callB (cr_any rfl) (by rfl) T.any boot_any (pa_cons (pe_lc (own := [("many", 2)]) (g := gName 2) (tt := tYes) rfl scLIS.nd (pi_range2 (by rfl) T.rng (pa_cons pe_int (pa_cons (pe_callB call_len_seq (by rfl) T.len PySem.boot_len (pa_cons (pv 1) pa_nil)) pa_nil))) (blkOk_by (own := [("many", 2)]) (N := ["state", "path", "many"]) (sc := defScope sLIS) (by decide +kernel))
        (fun _ _ _ _ _ => pg_name (i := 2) scLIS.nd rfl (Or.inl rfl)) (fun _ _ _ _ _ => pts_nil) (fun _ _ _ _ _ => pe_cmp (pc_din hu (pe_slice (r := rSlA K) sl_tupA (pv 1) po_none (po_some (pv 2))) (pv 0)) rfl)) pa_nil))) (pss_one (ps_ret pe_bl)) pss_nil)))))
    (pss_one (ps_ret pe_bl)))), ?_⟩
  cases rd with
    | @dK a kvs ds ha hn hk hv => (rw [ha] at ha0; cases ha0)
    | @dT a kvs ds ha hn hk hv =>
      have e1 : Ex H H := Ex.refl H
      refine ⟨a, _, ha, trivial, fun od => ?_⟩
      have ra : R H (.ref a) (.dict ds) := .dT ha hn hk hv
      have vz : sizeOf (ds.map Prod.snd) < sizeOf (PyData.dict ds) := by
        have := size_snd ds
        simp only [PyData.dict.sizeOf_spec]
        omega
      have hvL : Rs (upd H a (.frz od (.dT kvs))) (kvs.map Prod.snd) (ds.map Prod.snd) := Rs.but ra hv vz
      generalize hHL : upd H a (.frz od (.dT kvs)) = HL at hvL
      have hL : HL a = some (.frz od (.dT kvs)) := by rw [← hHL]; exact upd_same
      have back : ∀ {H2 : Hp}, Ex HL H2 → Same H (upd H2 a (.dT kvs)) := fun {H2} e2 b o hb => by
        by_cases z : b = a
        · subst z
          rw [upd_same]
          exact (ha.symm.trans (e1 _ _ hb))
        · rw [upd_ne z]
          refine e2 _ _ ?_
          rw [← hHL, upd_ne z]
          exact e1 _ _ hb
      refine ⟨_, rfl, a, od, rfl, .inr ⟨kvs, hL, ?_⟩⟩
      refine for_it (walk_keysT (d := a) (o := od) (kvs := kvs)) (fun i σ' H' => (∃ o1 o2, σ' = [some (.ref a), o1, o2]) ∧ Ex HL H') ⟨⟨_, _, rfl⟩, Ex.refl _⟩ (fun i σ' H' _ h => h.2 _ _ hL) ?_ ?_
      · rintro i x σ' H2 H3 hi ⟨⟨o1, o2, rfl⟩, e2⟩ ⟨rfl, kk, vv, q, hkv, rfl, hq⟩
        obtain ⟨p, hp, hp1, rp0⟩ := at_pair hk hvL (i := i) (x := .tuple (kk.map kD)) (v := vv) (by rw [List.getElem?_map, hkv]; rfl) (by rw [List.getElem?_map, hkv]; rfl)
        have rp : R H3 vv p.2 := rp0.ext (exN e2)
        have rq : R H3 (.ref q) p.1 := by
          rw [hp1]
          exact .tup hq (rs_keys kk fun x hx => hn.1 (kk, vv) (List.mem_of_getElem? hkv) x hx)
        have hva := val_at hn.2 hkv
        have aL : H3 a = some (.frz od (.dT kvs)) := e2 _ _ hL
        have hok : okEntry ds p = true := (List.all_eq_true.mp (show ds.all (okEntry ds) = true from hst)) p (List.mem_of_getElem? hp)
        obtain ⟨hpath, hne, hnum⟩ := okE hok
        obtain ⟨en, hn9⟩ := num_int hnum
        have hlen1 : 1 ≤ kk.length := by
          have : (strsOf p.1).length = kk.length := by rw [hp1]; simp [strsOf]
          have : 0 < (strsOf p.1).length := List.length_pos_iff.mpr hne
          omega
        have hab : aboveD ds p.1 = false := by
          have := hok
          simp only [okEntry, Bool.and_eq_true, Bool.not_eq_true'] at this
          exact this.2
        show tSeq _ _ _ [some (.ref a), some (.ref q), o2] H3
        have h4 : kk.length ≤ 4 := by
          rw [hp1] at hpath
          simp only [isPath, Bool.and_eq_true, List.length_map] at hpath
          have := of_decide_eq_true hpath.1
          omega
        refine Evl.q_when (b := !(decide ((1 : Int) ≤ (kk.length : Int)) && decide ((kk.length : Int) ≤ 4)) || decide (((intOf p.2).natAbs : Int) > 1000000000)) (Evl.et_or (Evl.et_not (et_b (ed_chain (i := 1) (j := (kk.length : Int)) (k := 4) (ed_c (.int 1)) (ed_is (ed_lenQ (ds := kk.map kD) (ed_var rfl rq) (.inl hp1)) (by rw [List.length_map])) (ed_c (.int 4))))) fun _ =>
          Evl.et_test (Evl.ev_op (x := .int ((intOf p.2).natAbs : Int)) (y := .int 1000000000) ?g1 Evl.ev_c Evl.rv_I0)) (fun hb4 H4 e4 => ?_) (fun hb4 H4 e4 => ?_)
        case g1 =>
          intro H5 e5 Q5 q5
          refine ⟨_, rfl, _, rfl, a, vv, rfl, .inr ⟨kvs, kk, q, .inr ⟨od, e5 _ _ aL⟩, rfl, e5 _ _ hq, hva.symm⟩, ?_⟩
          have rv : R H5 vv (.int (intOf p.2)) := by rw [← en]; exact rp.ext (exN e5)
          cases rv
          refine ⟨_, rfl, ?_⟩
          have : (if intOf p.2 < 0 then -intOf p.2 else intOf p.2) = ((intOf p.2).natAbs : Int) := by omega
          rw [this]
          exact q5 H5 (Ex.refl _)
        · exfalso
          rw [decide_eq_true (by omega : (1 : Int) ≤ (kk.length : Int)), decide_eq_true (by omega : (kk.length : Int) ≤ 4), decide_eq_false (by omega : ¬ (((intOf p.2).natAbs : Int) > 1000000000))] at hb4
          cases hb4
        · refine Evl.s_when (b := aboveD ds p.1) (et_b ?g2) (fun hb5 H5 e5 => ?_) (fun hb5 H5 e5 => ?_)
          case g2 =>
            have hlen : lenD p.1 = kk.length := by rw [hp1]; simp [lenD]
            refine ed_is (ed_any (bs := (List.range (kk.length - 1)).map fun n => hasD ds (takeD (n + 1) p.1)) (el_lcR2 (lo := 1) (hi := (kk.length : Int)) (eds_cons (ed_c (.int 1)) (eds_cons (ed_lenQ (ds := kk.map kD) (ed_var rfl (rq.ext (exN e4))) (.inl hp1) |> (ed_is · (by rw [List.length_map]))) eds_nil)) (by omega) (by omega) (by omega) (by omega) _ (by simp) (by omega) (fun x => rfl) fun n H5 e5 hn5 => ?_)) ?_
            · have hlt : n < kk.length - 1 := by omega
              have e45 : Ex H3 H5 := e4.trans e5
              have hv5 : (((List.range (kk.length - 1)).map fun n => hasD ds (takeD (n + 1) p.1)).map V.bl).getD n .non = .bl (hasD ds (takeD (n + 1) p.1)) := by
                simp [hlt]
              rw [hv5]
              intro H6 e6 Q6 q6
              have e36 : Ex H3 H6 := e45.trans e6
              refine ⟨_, rfl, _, rfl, _, rfl, q, kk.map kV, rfl, .inl (.inl (e36 _ _ hq)), fun hwh => ?_, fun _ p6 hp6 => ?_⟩
              · exfalso
                have z := hwh.2
                have e7 : (1 : Int) + (n : Int) = ((n + 1 : Nat) : Int) := by omega
                rw [e7, HT.sIx_nat, List.length_map] at z
                omega
              · have ecut : cutV (kk.map kV) none (some (1 + (n : Int))) = (kk.take (n + 1)).map kV := by
                  have e7 : (1 : Int) + (n : Int) = ((n + 1 : Nat) : Int) := by omega
                  unfold cutV
                  rw [e7, HT.sIx_nat, HT.sIx_none, List.length_map, List.drop_zero, Nat.sub_zero, Nat.min_eq_left (by omega), List.map_take]
                refine ⟨_, rfl, a, _, rfl, .inr ⟨kvs, kk.take (n + 1), p6, .inr ⟨od, ?_⟩, rfl, by rw [ecut]; exact upd_same, rfl⟩, ?_⟩
                · rw [upd_ne (ne_of_none (e36 _ _ aL) hp6)]
                  exact e36 _ _ aL
                · have := q6 (upd H6 p6 (.tup (cutV (kk.map kV) none (some (1 + (n : Int)))))) (Ex.new hp6)
                  have e8 : hasD ds (takeD (n + 1) p.1) = (valV kvs (kk.take (n + 1))).isSome := by
                    rw [hp1, ← has_key hk]
                    simp only [takeD, hasD, List.map_take]
                  rw [← e8]
                  exact this
            · rw [List.any_map]
              unfold aboveD
              rw [hlen]
              rfl
          · exact absurd hb5 (by rw [hab]; exact Bool.false_ne_true)
          · exact ⟨⟨_, _, rfl⟩, (e2.trans e4).trans e5⟩
      · rintro σ' H2 ⟨⟨o1, o2, rfl⟩, e2⟩
        exact ⟨e2 _ _ hL, k _ (back e2)⟩
end
end Lk
set_option Elab.async false
set_option linter.all false
set_option maxRecDepth 100000
set_option maxHeartbeats 4000000
/-! A term's text, read back: plainly. -/
namespace Lk
open PySem PySem.Spec PyProof.Rows L2 HotX L2H LamX
open TL
/-! ### one sign replaced -/
def rep1 (c : Nat) (z : List Nat) (l : List Nat) : List Nat := l.flatMap fun x => if x = c then z else [x]
theorem replL_one {c : Nat} {z : List Nat} : ∀ l, StrLaws.replL [c] z l = rep1 c z l
  | [] => StrLaws.replL_nil
  | x :: r => by
    by_cases h : x = c
    · rw [StrLaws.replL_hit (by simp) (by simp [h])]
      show z ++ StrLaws.replL [c] z r = _
      rw [replL_one r]
      simp [rep1, h]
    · rw [StrLaws.replL_miss (by simp [h]), replL_one r]
      simp [rep1, h]
theorem rep1_app (c : Nat) (z a b : List Nat) : rep1 c z (a ++ b) = rep1 c z a ++ rep1 c z b := List.flatMap_append
theorem rep1_free {c : Nat} {z l : List Nat} (h : c ∉ l) : rep1 c z l = l := by
  induction l with
  | nil => rfl
  | cons x r ih =>
    have h1 : x ≠ c := fun e => h (e ▸ List.mem_cons_self)
    have h2 := ih fun e => h (List.mem_cons_of_mem _ e)
    show (if x = c then z else [x]) ++ rep1 c z r = _
    rw [if_neg h1, h2]
    rfl
def wl (l : List Nat) : List Nat := rep1 41 [32, 41] (rep1 40 [40, 32] l)
theorem wl_app (a b : List Nat) : wl (a ++ b) = wl a ++ wl b := by unfold wl; rw [rep1_app, rep1_app]
theorem wl_free {l : List Nat} (h : 40 ∉ l) (h' : 41 ∉ l) : wl l = l := by unfold wl; rw [rep1_free h, rep1_free h']
theorem words_wl (z : Str) : (wordsOf z).map tl = spl [32] 0 [] (wl (tl z)) := by
  unfold wordsOf
  rw [split_spl _ _ (by decide +kernel) (kind_ok (by decide +kernel))]
  have e1 : tl (" " : Str) = [32] := by decide +kernel
  have e2 : ∀ (x y z : Str), 1 ≤ y.length → tl (Txt.replace x y z) = StrLaws.replL (tl y) (tl z) (tl x) := fun x y z h => StrLaws.replace_list h
  rw [e1, e2 _ _ _ (by decide +kernel), e2 _ _ _ (by decide +kernel)]
  have f1 : tl (")" : Str) = [41] := by decide +kernel
  have f2 : tl (" )" : Str) = [32, 41] := by decide +kernel
  have f3 : tl ("(" : Str) = [40] := by decide +kernel
  have f4 : tl ("( " : Str) = [40, 32] := by decide +kernel
  rw [f1, f2, f3, f4, replL_one, replL_one]
  rfl
theorem words_join {z : Str} {ts : List Str} (h : ts ≠ []) (hf : ∀ t ∈ ts, 32 ∉ tl t) (e : wl (tl z) = joinL [32] (ts.map tl)) : wordsOf z = ts := by
  refine map_tl_inj ?_
  rw [words_wl, e]
  refine spl_join (fun e => h (List.map_eq_nil_iff.mp e)) fun p hp => ?_
  obtain ⟨t, ht, rfl⟩ := List.mem_map.mp hp
  exact hf t ht
theorem joinL_app (S : List Nat) : ∀ {a b : List (List Nat)}, a ≠ [] → b ≠ [] → joinL S (a ++ b) = joinL S a ++ (S ++ joinL S b)
  | [], b, h, _ => absurd rfl h
  | [p], q :: r, _, _ => rfl
  | [p], [], _, h => absurd rfl h
  | p :: q :: r, b, _, hb => by
    show p ++ (S ++ joinL S ((q :: r) ++ b)) = (p ++ (S ++ joinL S (q :: r))) ++ (S ++ joinL S b)
    rw [joinL_app S (by simp) hb]
    simp [List.append_assoc]
/-! ### signs of words, paths, numbers -/
theorem word_sign {z : Str} (h : isWord (.str z) = true) : ∀ c ∈ tl z, 97 ≤ c ∧ c ≤ 122 := by
  simp only [isWord, Bool.and_eq_true] at h
  intro c hc
  have key : ∀ c ∈ smallS.cps.toList, 97 ≤ c ∧ c ≤ 122 := by decide +kernel
  have := List.all_eq_true.mp h.2 c hc
  exact key c (of_decide_eq_true this)
theorem joinL_mem (S : List Nat) : ∀ (ps : List (List Nat)) (c : Nat), c ∈ joinL S ps → c ∈ S ∨ ∃ p ∈ ps, c ∈ p
  | [], c, h => by cases h
  | [p], c, h => .inr ⟨p, List.mem_singleton.mpr rfl, h⟩
  | p :: q :: r, c, h => by
    rcases List.mem_append.mp h with h | h
    · exact .inr ⟨p, List.mem_cons_self, h⟩
    · rcases List.mem_append.mp h with h | h
      · exact .inl h
      · rcases joinL_mem S (q :: r) c h with h | ⟨x, hx, hc⟩
        · exact .inl h
        · exact .inr ⟨x, List.mem_cons_of_mem _ hx, hc⟩
theorem path_sign {d : PyData} (h : isPath d = true) : ∀ c ∈ tl (pathText d), c = 46 ∨ 97 ≤ c ∧ c ≤ 122 := by
  obtain ⟨zs, e, es, h4, hw⟩ := path_strs h
  unfold pathText
  rw [es]
  have ed : tl dotS = [46] := by decide +kernel
  intro c hc
  by_cases hz : zs = []
  · rw [if_pos hz, ed] at hc
    exact .inl (List.mem_singleton.mp hc)
  · rw [if_neg hz, join_eq, tl_join, ed] at hc
    rcases joinL_mem _ _ c hc with h | ⟨p, hp, hc⟩
    · exact .inl (List.mem_singleton.mp h)
    · obtain ⟨z, hz, rfl⟩ := List.mem_map.mp hp
      exact .inr (word_sign (hw z hz) c hc)
theorem path_back {d : PyData} (h : isPath d = true) : pathIn (pathText d) = d := by
  obtain ⟨zs, e, es, h4, hw⟩ := path_strs h
  unfold pathText pathIn
  rw [es]
  have ed : tl dotS = [46] := by decide +kernel
  by_cases hz : zs = []
  · rw [if_pos hz, if_pos rfl, e, hz]
    rfl
  · rw [if_neg hz]
    have hs : Txt.split (Txt.join dotS zs) dotS = zs := split_join ed (by decide +kernel) hz fun p hp hc => by
      have := word_sign (hw p hp) _ hc
      omega
    have hne : ¬ Txt.join dotS zs = dotS := fun z => by
      rw [z] at hs
      have : Txt.split dotS dotS = ([("" : Str), ""] : List Str) := by decide +kernel
      rw [this] at hs
      have := hw "" (by rw [← hs]; simp)
      exact absurd this (by decide +kernel)
    rw [if_neg hne, hs, e]
theorem num_sign (i : Int) : ∀ c ∈ tl (numT i), c = 45 ∨ 48 ≤ c ∧ c ≤ 57 := fun c hc => by
  rw [tl_numT] at hc
  split at hc
  · rcases List.mem_cons.mp hc with h | h
    · exact .inl h
    · exact .inr (numL_digits _ c h)
  · exact .inr (numL_digits _ c hc)
theorem fig_all {l : List Nat} (h : NumText.AllDigits l) : (l.all fun c => decide (c ∈ figS.cps.toList)) = true := by
  rw [List.all_eq_true]
  intro c hc
  have := h c hc
  refine decide_eq_true ?_
  have e : figS.cps.toList = [48, 49, 50, 51, 52, 53, 54, 55, 56, 57] := by decide +kernel
  rw [e]
  simp
  omega
theorem num_back {i : Int} (h : i.natAbs ≤ 1000000000) : okNum (numT i) = true ∧ numVal (numT i) = i := by
  have hl := numL_len (n := i.natAbs) (k := 10) (by decide) (by omega)
  have hne := numL_ne i.natAbs
  have hd := numL_digits i.natAbs
  have et := tl_numT i
  have em : tl minusS = [45] := by decide +kernel
  have hfig : tl (figs (numT i)) = numL i.natAbs := by
    unfold figs
    by_cases hi : i < 0
    · rw [if_pos hi] at et
      have : cutS (numT i) none (some 1) = minusS := ext_tl (by
        show (cutS (numT i) none (some 1)).cps.toList = _
        rw [cut_head, em]
        show (tl (numT i)).take 1 = _
        rw [et]; rfl)
      rw [if_pos this]
      show (cutS (numT i) (some 1) none).cps.toList = _
      rw [cut_tail]
      show (tl (numT i)).drop 1 = _
      rw [et]; rfl
    · rw [if_neg hi] at et
      have : ¬ cutS (numT i) none (some 1) = minusS := fun e => by
        have e2 : (tl (numT i)).take 1 = [45] := by
          have := congrArg tl e
          rw [em] at this
          rw [← this]
          exact (cut_head _).symm
        rw [et] at e2
        have : 45 ∈ numL i.natAbs := List.mem_of_mem_take (i := 1) (by rw [e2]; simp)
        have := hd 45 this
        omega
      rw [if_neg this, et]
  have hlf : (figs (numT i)).length = (numL i.natAbs).length := by rw [len_tl, hfig]
  have h1 : 1 ≤ (numL i.natAbs).length := List.length_pos_iff.mpr hne
  constructor
  · unfold okNum
    rw [hlf, Bool.and_eq_true, Bool.and_eq_true]
    refine ⟨⟨decide_eq_true (by omega), decide_eq_true (by omega)⟩, ?_⟩
    have : (figs (numT i)).cps.toList = numL i.natAbs := hfig
    rw [this]
    exact fig_all hd
  · unfold numVal
    have hlen := numT_len h
    by_cases hi : i < 0
    · rw [if_pos hi] at et
      rw [intText_neg et hd hne (by omega), numL_val]
      simp
      omega
    · rw [if_neg hi] at et
      have et' : (numT i).cps.toList = numL i.natAbs := et
      rw [intText_digits (by rw [et']; exact hd) (by rw [et']; exact hne) (by omega), et', numL_val]
      simp
      omega
end Lk
set_option Elab.async false
set_option linter.all false
set_option maxRecDepth 100000
set_option maxHeartbeats 4000000
namespace Lk
open PySem PySem.Spec PyProof.Rows L2 HotX L2H LamX
open TL
structure Tk (n : Nat) (d : PyData) (ts : List Str) : Prop where
  ne : ts ≠ []
  fr : ∀ t ∈ ts, 32 ∉ tl t
  jo : wl (tl (textOf n d)) = joinL [32] (ts.map tl)
  pa : ∀ rest, parseT n (ts ++ rest) = some (d, rest)
  hd : (ts.take 1 = [("when" : Str)]) → False
def clean (l : List Nat) : Bool := !decide (40 ∈ l) && !decide (41 ∈ l) && !decide (32 ∈ l)
theorem clean_iff {l : List Nat} (h : clean l = true) : 40 ∉ l ∧ 41 ∉ l ∧ 32 ∉ l := by
  simp only [clean, Bool.and_eq_true, Bool.not_eq_true', decide_eq_false_iff_not] at h
  exact ⟨h.1.1, h.1.2, h.2⟩
theorem clean_of {l : List Nat} (h : ∀ c ∈ l, c ≠ 40 ∧ c ≠ 41 ∧ c ≠ 32) : clean l = true := by
  simp only [clean, Bool.and_eq_true, Bool.not_eq_true', decide_eq_false_iff_not]
  exact ⟨⟨fun z => (h _ z).1 rfl, fun z => (h _ z).2.1 rfl⟩, fun z => (h _ z).2.2 rfl⟩
theorem read_clean : ∀ z ∈ readW, clean (tl z) = true ∧ ¬ z = "when" := by decide +kernel
theorem two_clean : ∀ z ∈ twoW, clean (tl z) = true := by decide +kernel
theorem read_num : ∀ z ∈ readW, okNum z = false := by decide +kernel
theorem two_toks {a b : Str} (ha : clean (tl a) = true) (hb : clean (tl b) = true) : wl (tl (a ++ blS ++ b)) = joinL [32] ([a, b].map tl) := by
  have hbl : tl blS = [32] := by decide +kernel
  obtain ⟨a1, a2, _⟩ := clean_iff ha
  obtain ⟨b1, b2, _⟩ := clean_iff hb
  rw [tl_append, tl_append, wl_app, wl_app, wl_free a1 a2, wl_free b1 b2, hbl, wl_free (by decide) (by decide)]
  simp [joinL]
theorem step_read {pi : PT} {z : Str} {r : List Str} (h : z ∈ readW) : stepT pi z r = (headW r).bind fun p => some (.tuple [.str z, pathIn p.1], p.2) := if_pos h
theorem step_look {pi : PT} {r : List Str} : stepT pi "look" r = (headW r).bind fun p => some (.tuple [.str "look", .str p.1], p.2) := by
  unfold stepT
  rw [if_neg (by decide +kernel), if_pos rfl]
theorem step_num {pi : PT} {z : Str} {r : List Str} (h : okNum z = true) : stepT pi z r = some (.tuple [.str "num", .int (numVal z)], r) := by
  unfold stepT
  have h1 : ¬ z ∈ readW := fun e => by rw [read_num z e] at h; cases h
  have h2 : ¬ z = "look" := fun e => by rw [e] at h; exact absurd h (by decide +kernel)
  have h3 : z ≠ "(" := fun e => by rw [e] at h; exact absurd h (by decide +kernel)
  rw [if_neg h1, if_neg h2, if_pos h3, if_pos h]
theorem step_open {pi : PT} {r : List Str} : stepT pi "(" r = (pi r).bind fun p => (takeW ")" p.2).bind fun r2 => some (p.1, r2) := by
  unfold stepT
  rw [if_neg (by decide +kernel), if_neg (by decide +kernel), if_neg (fun h => h rfl)]
theorem take_ok {w : Str} {r : List Str} : takeW w (w :: r) = some r := if_pos rfl
theorem parse_succ {n : Nat} {z : Str} {r : List Str} : parseT (n + 1) (z :: r) = stepT (parseI (parseT n)) z r := rfl
theorem free_mem {t : Str} {a : List Str} {b : List Str} (h1 : ∀ t ∈ a, 32 ∉ tl t) (h2 : ∀ t ∈ b, 32 ∉ tl t) : ∀ t ∈ a ++ b, 32 ∉ tl t := fun t ht => (List.mem_append.mp ht).elim (h1 t) (h2 t)
theorem tk : ∀ (n : Nat) (d : PyData), deepOk n d = true → ∃ ts, Tk n d ts
  | 0, d, h => by cases h
  | n + 1, d, h => by
    have dt := deepT_of h
    generalize htx : textOf (n + 1) d = tx at dt
    have hop : tl opS = [40] := by decide +kernel
    have hcl : tl clS = [41] := by decide +kernel
    have hbl : tl blS = [32] := by decide +kernel
    have hwh : wl (tl whS) = [40, 32, 119, 104, 101, 110, 32] := by decide +kernel
    have hth : wl (tl thS) = [32, 116, 104, 101, 110, 32] := by decide +kernel
    have hel : wl (tl elS) = [32, 101, 108, 115, 101, 32] := by decide +kernel
    have w1 : wl [40] = [40, 32] := by decide +kernel
    have w2 : wl [41] = [32, 41] := by decide +kernel
    have w3 : wl [32] = [32] := by decide +kernel
    have t1 : tl ("(" : Str) = [40] := by decide +kernel
    have t2 : tl (")" : Str) = [41] := by decide +kernel
    have t3 : tl ("when" : Str) = [119, 104, 101, 110] := by decide +kernel
    have t4 : tl ("then" : Str) = [116, 104, 101, 110] := by decide +kernel
    have t5 : tl ("else" : Str) = [101, 108, 115, 101] := by decide +kernel
    cases dt with
    | @num x hx =>
      obtain ⟨ex, hi⟩ := num_int hx
      obtain ⟨k1, k2⟩ := num_back hi
      have hc : clean (tl (numT (intOf x))) = true := clean_of fun c hc => by
        have := num_sign _ c hc
        omega
      obtain ⟨c1, c2, c3⟩ := clean_iff hc
      refine ⟨[numT (intOf x)], by simp, fun t ht => by rw [List.mem_singleton.mp ht]; exact c3, ?_, fun rest => ?_, fun e => ?_⟩
      · rw [htx, wl_free c1 c2]; rfl
      · show parseT (n + 1) (numT (intOf x) :: rest) = _
        rw [parse_succ, step_num k1, k2, ← ex]
      · have e' : numT (intOf x) = "when" := by simpa using e
        rw [e'] at k1
        exact absurd k1 (by decide +kernel)
    | @read z x hz h0 hx =>
      obtain ⟨hc, hw⟩ := read_clean z hz
      have hp : clean (tl (pathText x)) = true := clean_of fun c hc => by
        have := path_sign hx c hc
        omega
      refine ⟨[z, pathText x], by simp, fun t ht => ?_, ?_, fun rest => ?_, fun e => hw (by simpa using e)⟩
      · rcases List.mem_cons.mp ht with e | ht
        · rw [e]; exact (clean_iff hc).2.2
        · rw [List.mem_singleton.mp ht]; exact (clean_iff hp).2.2
      · rw [htx]; exact two_toks hc hp
      · show parseT (n + 1) (z :: pathText x :: rest) = _
        rw [parse_succ, step_read hz]
        show some (PyData.tuple [.str z, pathIn (pathText x)], rest) = _
        rw [path_back hx]
    | @look x hx =>
      have ex := word_str hx
      have hs := word_sign (z := strOf x) (by rw [← ex]; exact hx)
      have hp : clean (tl (strOf x)) = true := clean_of fun c hc => by
        have := hs c hc
        omega
      have hc : clean (tl ("look" : Str)) = true := by decide +kernel
      refine ⟨["look", strOf x], by simp, fun t ht => ?_, ?_, fun rest => ?_, fun e => ?_⟩
      · rcases List.mem_cons.mp ht with e | ht
        · rw [e]; exact (clean_iff hc).2.2
        · rw [List.mem_singleton.mp ht]; exact (clean_iff hp).2.2
      · rw [htx]; exact two_toks hc hp
      · show parseT (n + 1) ("look" :: strOf x :: rest) = _
        rw [parse_succ, step_look]
        show some (PyData.tuple [.str "look", .str (strOf x)], rest) = _
        rw [← ex]
      · have : ("look" : Str) = "when" := by simpa using e
        exact absurd this (by decide +kernel)
    | @when x y w hx hy hw =>
      obtain ⟨tx, kx⟩ := tk n x hx
      obtain ⟨ty, ky⟩ := tk n y hy
      obtain ⟨tw, kw⟩ := tk n w hw
      refine ⟨[("(" : Str), "when"] ++ (tx ++ ([("then" : Str)] ++ (ty ++ ([("else" : Str)] ++ (tw ++ [(")" : Str)]))))), by simp, ?_, ?_, fun rest => ?_, fun e => ?_⟩
      · refine free_mem (t := "") (fun t ht => ?_) (free_mem (t := "") kx.fr (free_mem (t := "") (fun t ht => ?_) (free_mem (t := "") ky.fr (free_mem (t := "") (fun t ht => ?_) (free_mem (t := "") kw.fr fun t ht => ?_)))))
        · rcases List.mem_cons.mp ht with e | ht
          · rw [e, t1]; decide
          · rw [List.mem_singleton.mp ht, t3]; decide
        · rw [List.mem_singleton.mp ht, t4]; decide
        · rw [List.mem_singleton.mp ht, t5]; decide
        · rw [List.mem_singleton.mp ht, t2]; decide
      · rw [htx]
        simp only [tl_append, wl_app, hwh, hth, hel, hcl, w2, kx.jo, ky.jo, kw.jo]
        have nx : tx.map tl ≠ [] := fun e => kx.ne (List.map_eq_nil_iff.mp e)
        have ny : ty.map tl ≠ [] := fun e => ky.ne (List.map_eq_nil_iff.mp e)
        have nw : tw.map tl ≠ [] := fun e => kw.ne (List.map_eq_nil_iff.mp e)
        simp only [List.map_append]
        rw [joinL_app [32] (by simp) (by simp), joinL_app [32] nx (by simp), joinL_app [32] (by simp) (by simp), joinL_app [32] ny (by simp), joinL_app [32] (by simp) (by simp), joinL_app [32] nw (by simp)]
        simp only [List.map_cons, List.map_nil, t1, t2, t3, t4, t5, joinL]
        simp [List.append_assoc]
      · have e0 : [("(" : Str), "when"] ++ (tx ++ ([("then" : Str)] ++ (ty ++ ([("else" : Str)] ++ (tw ++ [(")" : Str)]))))) ++ rest = ("(" : Str) :: ("when" : Str) :: (tx ++ (("then" : Str) :: (ty ++ (("else" : Str) :: (tw ++ ((")" : Str) :: rest)))))) := by simp [List.append_assoc]
        rw [e0, parse_succ, step_open]
        have e1 : parseI (parseT n) (("when" : Str) :: (tx ++ (("then" : Str) :: (ty ++ (("else" : Str) :: (tw ++ ((")" : Str) :: rest))))))) = some (.tuple [.str "when", x, y, w], (")" : Str) :: rest) := by
          unfold parseI
          rw [if_pos (by simp)]
          unfold parseW
          simp only [take_ok, kx.pa, ky.pa, kw.pa, Option.bind_some]
        simp only [e1, take_ok, Option.bind_some]
      · have : ("(" : Str) = "when" := by simpa using e
        exact absurd this (by decide +kernel)
    | @two z x y hz h0 h1 h2 hx hy =>
      obtain ⟨tx, kx⟩ := tk n x hx
      obtain ⟨ty, ky⟩ := tk n y hy
      obtain ⟨c1, c2, c3⟩ := clean_iff (two_clean z hz)
      refine ⟨[("(" : Str)] ++ (tx ++ ([z] ++ (ty ++ [(")" : Str)]))), by simp, ?_, ?_, fun rest => ?_, fun e => ?_⟩
      · refine free_mem (t := "") (fun t ht => ?_) (free_mem (t := "") kx.fr (free_mem (t := "") (fun t ht => ?_) (free_mem (t := "") ky.fr fun t ht => ?_)))
        · rw [List.mem_singleton.mp ht, t1]; decide
        · rw [List.mem_singleton.mp ht]; exact c3
        · rw [List.mem_singleton.mp ht, t2]; decide
      · rw [htx]
        simp only [tl_append, wl_app, hop, hbl, hcl, w1, w2, w3, kx.jo, ky.jo, wl_free c1 c2]
        have nx : tx.map tl ≠ [] := fun e => kx.ne (List.map_eq_nil_iff.mp e)
        have ny : ty.map tl ≠ [] := fun e => ky.ne (List.map_eq_nil_iff.mp e)
        simp only [List.map_append]
        rw [joinL_app [32] (by simp) (by simp), joinL_app [32] nx (by simp), joinL_app [32] (by simp) (by simp), joinL_app [32] ny (by simp)]
        simp only [List.map_cons, List.map_nil, t1, t2, joinL]
        simp [List.append_assoc]
      · have e0 : [("(" : Str)] ++ (tx ++ ([z] ++ (ty ++ [(")" : Str)]))) ++ rest = ("(" : Str) :: (tx ++ (z :: (ty ++ ((")" : Str) :: rest)))) := by simp [List.append_assoc]
        rw [e0, parse_succ, step_open]
        have e1 : parseI (parseT n) (tx ++ (z :: (ty ++ ((")" : Str) :: rest)))) = some (.tuple [.str z, x, y], (")" : Str) :: rest) := by
          unfold parseI
          have hn : ¬ (tx ++ (z :: (ty ++ ((")" : Str) :: rest)))).take 1 = [("when" : Str)] := fun e => kx.hd (by
            cases hh : tx with
            | nil => exact absurd hh kx.ne
            | cons a r => rw [hh] at e; simpa using e)
          rw [if_neg hn]
          unfold parse2
          simp only [kx.pa, ky.pa, headW, if_pos hz, Option.bind_some]
        simp only [e1, take_ok, Option.bind_some]
      · have : ("(" : Str) = "when" := by simpa using e
        exact absurd this (by decide +kernel)
theorem term_back {d : PyData} (h : deepOk 8 d = true) : termIn (.str (textOf 8 d)) = some d := by
  obtain ⟨ts, k⟩ := tk 8 d h
  show (parseT 8 (wordsOf (textOf 8 d))).bind _ = _
  rw [words_join k.ne k.fr k.jo]
  have := k.pa []
  rw [List.append_nil] at this
  rw [this]
  show (if deepOk 8 d = true then (if textOf 8 d = textOf 8 d then some d else none) else none) = _
  rw [if_pos h, if_pos rfl]
/-! ### deeper is as good -/
theorem deep_mono : ∀ (n : Nat) (d : PyData), deepOk n d = true → deepOk (n + 1) d = true ∧ textOf (n + 1) d = textOf n d
  | 0, d, h => by cases h
  | n + 1, d, h => by
    have dt := deepT_of h
    generalize htx : textOf (n + 1) d = tx at dt
    cases dt with
    | @num x hx => exact ⟨by simp [deepOk, hx], rfl⟩
    | @read z x hz h0 hx =>
      refine ⟨by simp [deepOk, hz, h0, hx], ?_⟩
      simp [textOf, hz, h0]
    | @look x hx =>
      have a : ¬ ("look" : Str) = "num" := by decide +kernel
      have b : ¬ ("look" : Str) ∈ readW := by decide +kernel
      refine ⟨by simp [deepOk, a, b, hx], ?_⟩
      simp [textOf, a, b]
    | @when x y w hx hy hw =>
      obtain ⟨x1, x2⟩ := deep_mono n x hx
      obtain ⟨y1, y2⟩ := deep_mono n y hy
      obtain ⟨w1, w2⟩ := deep_mono n w hw
      have a : ¬ ("when" : Str) = "num" := by decide +kernel
      have b : ¬ ("when" : Str) ∈ readW := by decide +kernel
      have c : ¬ ("when" : Str) = "look" := by decide +kernel
      refine ⟨by rw [deepOk, if_neg a, if_neg b, if_neg c]; simp [x1, y1, w1], ?_⟩
      rw [textOf, if_neg a, if_neg b, if_neg c, if_pos rfl]
      show whS ++ textOf (n + 1) x ++ thS ++ textOf (n + 1) y ++ elS ++ textOf (n + 1) w ++ clS = _
      rw [x2, y2, w2]
    | @two z x y hz h0 h1 h2 hx hy =>
      obtain ⟨x1, x2⟩ := deep_mono n x hx
      obtain ⟨y1, y2⟩ := deep_mono n y hy
      have h3 := two_when z hz
      refine ⟨by rw [deepOk, if_neg h0, if_neg h1, if_neg h2]; simp [x1, y1, hz], ?_⟩
      rw [textOf, if_neg h0, if_neg h1, if_neg h2, if_neg h3]
      show opS ++ textOf (n + 1) x ++ blS ++ z ++ blS ++ textOf (n + 1) y ++ clS = _
      rw [x2, y2]
theorem deep_le {m n : Nat} {d : PyData} (h : deepOk n d = true) (hm : n ≤ m) : deepOk m d = true ∧ textOf m d = textOf n d := by
  obtain ⟨k, rfl⟩ := Nat.le.dest hm
  induction k with
  | zero => exact ⟨h, rfl⟩
  | succ k ih =>
    obtain ⟨a, b⟩ := ih (Nat.le_add_right _ _)
    obtain ⟨c, e⟩ := deep_mono _ d a
    exact ⟨c, by rw [← b]; exact e⟩
end Lk
set_option Elab.async false
set_option linter.all false
set_option maxRecDepth 100000
set_option maxHeartbeats 4000000
/-! Two dicts with tuple keys and numbers that are the same: ==, != -/
namespace Lk
open PySem PySem.Spec PyProof.Rows L2 HotX L2H LamX
section
variable {prog : Program} {w : World} {K : Type} [DecidableEq K] {knd : HeapKind prog w K} {A : Around} {E : Value → Shared → Prop} {s : Shared}
theorem same_true {nm : String} {a b : Addr} {xa xb : List (K × Addr × Value)} {Q : Bool → Shared → Prop} (ha : (a == sysModules) = false) (hb : (b == sysModules) = false) (da : s.heap.DictOfH knd a xa) (db : s.heap.DictOfH knd b xb) (hl : xa.length = xb.length) (hu : knd.room A)
    (hits : ∀ x ∈ xa, ∃ (j : Nat) (p : Addr × Value), xb[j]? = some (x.1, p) ∧ ∃ n t u, x.2.2 = .int n t ∧ p.2 = .int n u) (h : Q true s) : wpAny (model prog w) A (Builtin.Dict.samePairs nm a b) Q E s := by
  obtain ⟨oa, es, ep, hoa, _, hda, hea, hia, _⟩ := da
  obtain ⟨ob, es', ep', hob, _, hdb, heb, hib, hnb⟩ := db
  have la : es.size = xa.length := size_of_entries hea
  have lb : es'.size = xb.length := size_of_entries heb
  unfold Builtin.Dict.samePairs Builtin.Dict.showsAll
  rw [if_neg (show ¬ (a == sysModules) = true by rw [ha]; exact Bool.false_ne_true), if_neg (show ¬ (b == sysModules) = true by rw [hb]; exact Bool.false_ne_true)]
  refine wpAny_bind (wpAny_pure (wpAny_bind (wpAny_pure (wpAny_bind (wpAny_dictEntries hoa hda ?_)))))
  dsimp only
  refine wpAny_bind (wpAny_dictEntries hob hdb ?_)
  rw [if_neg (by simp; omega)]
  refine wpAny_bind (wpAny_dictEpoch hoa hda (wpAny_bind ?_))
  rw [Std.Legacy.Range.forIn_eq_forIn_range']
  simp only [Std.Legacy.Range.size, Nat.sub_zero, Nat.add_sub_cancel, Nat.div_one]
  refine wpAny_forIn_list _ (fun rest q s' => s' = s ∧ q = (none, ()) ∧ ∃ i, rest = List.range' i (es.size - i) ∧ i ≤ es.size) _ ?_ ?_ _ _ ⟨rfl, rfl, 0, by simp, Nat.zero_le _⟩
  · rintro x rest q s' ⟨rfl, rfl, i, hr, hi⟩
    have hlt : i < es.size := by
      by_cases hz : i < es.size
      · exact hz
      · rw [Nat.sub_eq_zero_of_le (by omega)] at hr; simp at hr
    rw [show es.size - i = (es.size - (i + 1)) + 1 by omega, List.range'_succ] at hr
    injection hr with h1 h2
    subst h1
    refine wpAny_bind (wpAny_dictEntries hoa hda ?_)
    have hlx : x < xa.length := by omega
    have en := entry_at hea x
    rw [List.getElem?_eq_getElem hlx] at en
    rw [en]
    obtain ⟨j, p, hj, n, t, u, e1, e2⟩ := hits xa[x] (List.getElem_mem _)
    show wpAny _ _ (holding _ (do
      let y ← dictFind b (.ref xa[x].2.1) (knd.hash xa[x].1)
      _) >>= _) _ _ _
    refine wpAny_bind (wpAny_holding (wpAny_bind (wpAny_dictFind_heap hu (hia _ (List.getElem_mem _)) hob hdb heb hib hnb (fun hno => absurd hj (hno j p)) fun j' p' hj' => ?_)))
    have hjj : j' = j := by
      have n1 : (xb.map (·.1))[j']? = some xa[x].1 := by rw [List.getElem?_map, hj']; rfl
      have n2 : (xb.map (·.1))[j]? = some xa[x].1 := by rw [List.getElem?_map, hj]; rfl
      exact (List.getElem?_inj (List.getElem?_eq_some_iff.mp n1).1 hnb).mp (n1.trans n2.symm)
    subst hjj
    refine wpAny_bind (wpAny_dictEntries hob hdb ?_)
    have en' := entry_at heb j'
    rw [hj] at en'
    rw [en']
    show wpAny _ _ (holding _ (eqBool (xa[x].2.2) p.2)) _ _ _
    rw [e1, e2]
    refine wpAny_holding (wpAny_eqBool_int ?_)
    rw [show (n == n) = true by simp]
    show wpAny _ _ (if (!true) = true then _ else _) _ _ _
    rw [if_neg (by decide)]
    refine wpAny_bind (wpAny_dictEpoch hoa hda ?_)
    rw [if_neg (by simp)]
    exact wpAny_pure ⟨rfl, rfl, x + 1, h2, hlt⟩
  · rintro q s' ⟨rfl, rfl, _⟩
    exact wpAny_pure h
theorem dicts_eq {a b : Addr} {xa xb : List (K × Addr × Value)} {Q : Value → Shared → Prop} (ha : (a == sysModules) = false) (hb : (b == sysModules) = false) (da : s.heap.DictOfH knd a xa) (db : s.heap.DictOfH knd b xb) (hl : xa.length = xb.length) (hu : knd.room A.in1) (hc : A.units < cLine)
    (hits : ∀ x ∈ xa, ∃ (j : Nat) (p : Addr × Value), xb[j]? = some (x.1, p) ∧ ∃ n t u, x.2.2 = .int n t ∧ p.2 = .int n u) (h : Q (.bool true) s) : wpAny (model prog w) A (compareOp .Eq (.ref a) (.ref b)) Q E s := by
  refine wpAny_richCompare_same_room (op := .Eq) da.typeIs db.typeIs PySem.F.slot_dict_eq (wpAny_call_entry PySem.F.slot_dict_eq da.typeIs PySem.F.entry_dict_eq ?_ (PySem.F.args_dict_eq_2 _ _)) hc
  show wpAny _ _ (Builtin.Dict.dictSlotArgs "__eq__" ⟨[.ref a, .ref b], []⟩ >>= _) _ _ s
  unfold Builtin.Dict.dictSlotArgs
  refine wpAny_bind (wpAny_bind (wpAny_notOrdered_dict da.typeIs (wpAny_pure (wpAny_bind (wpAny_isInstance (T := "dict") db.typeIs PySem.F.sub_dict_dict ?_)))))
  simp only [Bool.not_true, Bool.false_eq_true, if_false]
  exact wpAny_bind (wpAny_pure (wpAny_bind (wpAny_pure (wpAny_bind (same_true ha hb da db hl hu hits (wpAny_pure ⟨_, rfl, (fun x => nomatch x), h⟩))))))
theorem dicts_ne {a b : Addr} {xa xb : List (K × Addr × Value)} {Q : Value → Shared → Prop} (ha : (a == sysModules) = false) (hb : (b == sysModules) = false) (da : s.heap.DictOfH knd a xa) (db : s.heap.DictOfH knd b xb) (hl : xa.length = xb.length) (hu : knd.room A.in1) (hc : A.units < cLine)
    (hits : ∀ x ∈ xa, ∃ (j : Nat) (p : Addr × Value), xb[j]? = some (x.1, p) ∧ ∃ n t u, x.2.2 = .int n t ∧ p.2 = .int n u) (h : Q (.bool false) s) : wpAny (model prog w) A (compareOp .NotEq (.ref a) (.ref b)) Q E s := by
  refine wpAny_richCompare_same_room (op := .NotEq) da.typeIs db.typeIs PySem.F.slot_dict_ne (wpAny_call_entry PySem.F.slot_dict_ne da.typeIs PySem.F.entry_dict_ne ?_ (PySem.F.args_dict_ne_2 _ _)) hc
  show wpAny _ _ (Builtin.Dict.dictSlotArgs "__ne__" ⟨[.ref a, .ref b], []⟩ >>= _) _ _ s
  unfold Builtin.Dict.dictSlotArgs
  refine wpAny_bind (wpAny_bind (wpAny_notOrdered_dict da.typeIs (wpAny_pure (wpAny_bind (wpAny_isInstance (T := "dict") db.typeIs PySem.F.sub_dict_dict ?_)))))
  simp only [Bool.not_true, Bool.false_eq_true, if_false]
  exact wpAny_bind (wpAny_pure (wpAny_bind (wpAny_pure (wpAny_bind (same_true ha hb da db hl hu hits (wpAny_pure ⟨_, rfl, (fun x => nomatch x), h⟩))))))
end
/-- two tracked dicts that hold the same numbers -/
def SameDT (H : Hp) (x y : V) : Prop := ∃ a b kvs lvs, x = .ref a ∧ y = .ref b ∧ H a = some (.dT kvs) ∧ H b = some (.dT lvs) ∧ kvs.length = lvs.length ∧ ∀ k v, (k, v) ∈ kvs → ∃ n, v = .int n ∧ valV lvs k = some (.int n)
theorem kt_find {H : Hp} : ∀ {lvs : List (List Key × V)} {xs : List (List Key × Addr × Value)} {k : List Key} {n : Int}, KT H lvs xs → valV lvs k = some (.int n) → ∃ (j : Nat) (p : Addr × Value), xs[j]? = some (k, p) ∧ ∃ u, p.2 = .int n u
  | _, _, k, n, .nil, h => by cases h
  | _, _, k, n, .cons (a := x) (b := y) h0 t, h => by
    by_cases e : x.1 = k
    · rw [valV_pos e] at h
      have hx : x.2 = .int n := Option.some.inj h
      obtain ⟨h1, h2, h3⟩ := h0
      rw [hx] at h3
      obtain ⟨u, hu⟩ := h3
      refine ⟨0, y.2, ?_, u, hu⟩
      show some y = some (k, y.2)
      rw [← e, h1]
    · rw [valV_neg e] at h
      obtain ⟨j, p, h1, h2⟩ := kt_find t h
      exact ⟨j + 1, p, by simpa using h1, h2⟩
section
variable {X : Cx} {pins : List (Addr × Obj)} {σ : L2.St} {H : Hp} {s : Shared}
theorem samedt {x y : V} (I : Inv X pins σ H s) (h : SameDT H x y) : ∃ a b xa xb, x = .ref a ∧ y = .ref b ∧ (a == sysModules) = false ∧ (b == sysModules) = false ∧ s.heap.DictOfH (tupleKind (mixKind X.prog X.w)) a xa ∧ s.heap.DictOfH (tupleKind (mixKind X.prog X.w)) b xb ∧ xa.length = xb.length ∧
    ∀ z ∈ xa, ∃ (j : Nat) (p : Addr × Value), xb[j]? = some (z.1, p) ∧ ∃ n t u, z.2.2 = .int n t ∧ p.2 = .int n u := by
  obtain ⟨a, b, kvs, lvs, rfl, rfl, ha, hb, hl, hits⟩ := h
  obtain ⟨_, h1, xa, ka, da⟩ := dt_of I.hok ha
  obtain ⟨_, h2, xb, kb, db⟩ := dt_of I.hok hb
  refine ⟨a, b, xa, xb, rfl, rfl, h1, h2, da, db, by rw [← Paired.length ka, ← Paired.length kb]; exact hl, fun z hz => ?_⟩
  have key : ∀ {kvs : List (List Key × V)} {xa : List (List Key × Addr × Value)}, KT H kvs xa → ∀ z ∈ xa, ∃ v, (z.1, v) ∈ kvs ∧ RelV v z.2.2 := by
    intro kvs xa r
    induction r with
    | nil => intro z hz; cases hz
    | @cons p q _ _ h0 t ih =>
      intro z hz
      rcases List.mem_cons.mp hz with e | hz
      · rw [e, ← h0.1]; exact ⟨p.2, List.mem_cons_self, h0.2.2⟩
      · obtain ⟨v, hv, hr⟩ := ih z hz
        exact ⟨v, List.mem_cons_of_mem _ hv, hr⟩
  obtain ⟨v, hv, rv⟩ := key ka z hz
  obtain ⟨n, rfl, hn⟩ := hits z.1 v hv
  obtain ⟨j, p, hj, u, hp⟩ := kt_find kb hn
  obtain ⟨t, ht⟩ := rv
  exact ⟨j, p, hj, n, t, u, ht, hp⟩
theorem op_eqDT (hu : X.A.units + 1 < cLine) : OpR X (compareOp .Eq) (fun x y H Q => SameDT H x y ∧ Q (.bl true) H) := by
  intro pins s σ H x y v u Q I rx ry ⟨h, q⟩
  obtain ⟨a, b, xa, xb, rfl, rfl, h1, h2, da, db, hl, hits⟩ := samedt I h
  cases rx
  cases ry
  exact dicts_eq h1 h2 da db hl hu (show X.A.units < cLine by omega) hits ⟨.bl true, H, I, rfl, q⟩
theorem op_neDT (hu : X.A.units + 1 < cLine) : OpR X (compareOp .NotEq) (fun x y H Q => SameDT H x y ∧ Q (.bl false) H) := by
  intro pins s σ H x y v u Q I rx ry ⟨h, q⟩
  obtain ⟨a, b, xa, xb, rfl, rfl, h1, h2, da, db, hl, hits⟩ := samedt I h
  cases rx
  cases ry
  exact dicts_ne h1 h2 da db hl hu (show X.A.units < cLine by omega) hits ⟨.bl false, H, I, rfl, q⟩
end
end Lk
set_option Elab.async false
set_option linter.all false
set_option maxRecDepth 100000
set_option maxHeartbeats 4000000
/-! A state's text, read back: plainly. -/
namespace Lk
open PySem PySem.Spec PyProof.Rows L2 HotX L2H LamX
open TL
theorem strs_enc (k : List Str) : strsOf (encK k) = k := by
  show (k.map PyData.str).map strOf = k
  rw [List.map_map]
  exact List.map_id'' (fun _ => rfl) k
theorem enc_inj {a b : List Str} (h : encK a = encK b) : a = b := by rw [← strs_enc a, h, strs_enc]
theorem keys_ds (l : Ps) : keysOf (dsOf l) = l.map Prod.fst := by
  unfold keysOf dsOf
  rw [List.map_map]
  exact List.map_congr_left fun p _ => strs_enc p.1
theorem val_ds {l : Ps} (hn : (l.map Prod.fst).Nodup) {k : List Str} {n : Int} (h : (k, n) ∈ l) : valOf (dsOf l) k = n := by
  unfold valOf
  induction l with
  | nil => cases h
  | cons p r ih =>
    have hn' := List.nodup_cons.mp hn
    show (match ((encK p.1, PyData.int p.2) :: dsOf r).find? _ with | some p => intOf p.2 | none => 0) = n
    rw [List.find?_cons]
    rcases List.mem_cons.mp h with e | h
    · rw [← e]
      simp [strs_enc, intOf]
    · have hne : p.1 ≠ k := fun e => hn'.1 (List.mem_map.mpr ⟨(k, n), h, e.symm⟩)
      simp only [strs_enc, decide_eq_false hne]
      exact ih hn'.2 h
theorem key_val {l : Ps} (hn : (l.map Prod.fst).Nodup) {k : List Str} (h : k ∈ l.map Prod.fst) : (k, valOf (dsOf l) k) ∈ l := by
  obtain ⟨p, hp, rfl⟩ := List.mem_map.mp h
  rw [val_ds hn (n := p.2) hp]
  exact hp
def srtP (l : Ps) : Ps := (isortK (l.map Prod.fst)).map fun k => (k, valOf (dsOf l) k)
theorem srtP_fst (l : Ps) : (srtP l).map Prod.fst = isortK (l.map Prod.fst) := by
  unfold srtP
  rw [List.map_map]
  exact List.map_id'' (fun _ => rfl) _
theorem srtP_mem {l : Ps} (hn : (l.map Prod.fst).Nodup) {p : List Str × Int} (h : p ∈ srtP l) : p ∈ l := by
  obtain ⟨k, hk, rfl⟩ := List.mem_map.mp h
  exact key_val hn ((isortK_perm _).mem_iff.mp hk)
theorem srtP_len (l : Ps) : (srtP l).length = l.length := by
  unfold srtP
  rw [List.length_map, (isortK_perm _).length_eq, List.length_map]
theorem srtP_nd {l : Ps} (hn : (l.map Prod.fst).Nodup) : ((srtP l).map Prod.fst).Nodup := by
  rw [srtP_fst]
  exact (isortK_perm _).nodup_iff.mpr hn
theorem isortK_idem (ks : List (List Str)) : isortK (isortK ks) = isortK ks := srt_uniq (fun _ _ => leK_anti) (isortK_perm _) (isortK_srt _) (isortK_srt _)
theorem srtP_good {l : Ps} (hn : (l.map Prod.fst).Nodup) (g : GoodL l) : GoodL (srtP l) :=
  ⟨fun p hp => g.len p (srtP_mem hn hp), fun p hp => g.abc p (srtP_mem hn hp), fun p hp => g.num p (srtP_mem hn hp), fun p hp q hq => g.apart p (srtP_mem hn hp) q (srtP_mem hn hq)⟩
theorem srtP_text {l : Ps} (hn : (l.map Prod.fst).Nodup) : stateText (.dict (dsOf (srtP l))) = stateText (.dict (dsOf l)) := by
  show Txt.join nlS ((isortK (keysOf (dsOf (srtP l)))).map (rowT (dsOf (srtP l)))) = Txt.join nlS ((isortK (keysOf (dsOf l))).map (rowT (dsOf l)))
  rw [keys_ds, keys_ds, srtP_fst, isortK_idem]
  congr 1
  refine List.map_congr_left fun k hk => ?_
  unfold rowT
  have hk' : k ∈ (srtP l).map Prod.fst := by rw [srtP_fst]; exact hk
  have h1 := srtP_mem hn (key_val (srtP_nd hn) hk')
  rw [val_ds hn h1]
theorem join_two (y a b : Str) : Txt.join y [a, b] = a ++ y ++ b := by
  rw [join_eq]
  rfl
theorem row_back {ds : List (PyData × PyData)} {k : List Str} (h1 : isPath (encK k) = true) (h2 : (valOf ds k).natAbs ≤ 1000000000) : rowIn (rowT ds k) = some (k, valOf ds k) := by
  have hbl : tl blS = [32] := by decide +kernel
  have hs : Txt.split (rowT ds k) blS = [pathText (encK k), numT (valOf ds k)] := by
    unfold rowT
    rw [← join_two]
    refine split_join hbl (by decide +kernel) (by simp) fun p hp hc => ?_
    rcases List.mem_cons.mp hp with e | hp
    · rw [e] at hc
      have := path_sign h1 _ hc
      omega
    · rw [List.mem_singleton.mp hp] at hc
      have := num_sign _ _ hc
      omega
  obtain ⟨n1, n2⟩ := num_back h2
  have hk : keyIn (pathText (encK k)) = k := enc_inj (by rw [← pathIn_key, path_back h1])
  unfold rowIn
  rw [hs]
  show (if okNum (numT (valOf ds k)) = true then some (keyIn (pathText (encK k)), numVal (numT (valOf ds k))) else none) = _
  rw [if_pos n1, n2, hk]
theorem fold_back {ds : List (PyData × PyData)} : ∀ (ks : List (List Str)) (acc : Ps), (∀ k ∈ ks, isPath (encK k) = true ∧ (valOf ds k).natAbs ≤ 1000000000) → (∀ k ∈ ks, k ∉ acc.map Prod.fst) → ks.Nodup → foldRows (ks.map (rowT ds)) acc = some (acc ++ ks.map fun k => (k, valOf ds k))
  | [], acc, _, _, _ => by simp [foldRows]
  | k :: r, acc, h1, h2, h3 => by
    obtain ⟨a, b⟩ := h1 k List.mem_cons_self
    obtain ⟨c1, c2⟩ := List.nodup_cons.mp h3
    rw [List.map_cons, foldRows, row_back a b, Option.bind_some]
    have hp : putS acc k (valOf ds k) = acc ++ [(k, valOf ds k)] := by
      unfold putS
      rw [if_neg]
      intro z
      obtain ⟨kv, hkv, e⟩ := List.any_eq_true.mp z
      exact h2 k List.mem_cons_self (List.mem_map.mpr ⟨kv, hkv, of_decide_eq_true e⟩)
    show foldRows (r.map (rowT ds)) (putS acc k (valOf ds k)) = _
    rw [hp, fold_back r _ (fun q hq => h1 q (List.mem_cons_of_mem _ hq)) (fun q hq => ?_) c2]
    · simp
    · rw [List.map_append]
      intro z
      rcases List.mem_append.mp z with z | z
      · exact h2 q (List.mem_cons_of_mem _ hq) z
      · have : q = k := by simpa using z
        exact c1 (this ▸ hq)
theorem state_back {l : Ps} (hn : (l.map Prod.fst).Nodup) (g : GoodL l) : stateIn (.str (stateText (.dict (dsOf l)))) = some (.dict (dsOf (srtP l))) := by
  have hnl : tl nlS = [10] := by decide +kernel
  have hbl : tl blS = [32] := by decide +kernel
  have hks : ∀ k ∈ isortK (l.map Prod.fst), isPath (encK k) = true ∧ (valOf (dsOf l) k).natAbs ≤ 1000000000 := fun k hk => by
    have hm := key_val hn ((isortK_perm _).mem_iff.mp hk)
    exact ⟨path_abc (g.len _ hm).2 (g.abc _ hm), g.num _ hm⟩
  have hrows : rowsIn (stateText (.dict (dsOf l))) = (isortK (l.map Prod.fst)).map (rowT (dsOf l)) := by
    show rowsIn (Txt.join nlS ((isortK (keysOf (dsOf l))).map (rowT (dsOf l)))) = _
    rw [keys_ds]
    unfold rowsIn
    by_cases hl : isortK (l.map Prod.fst) = []
    · rw [hl]
      show (if Txt.join nlS [] = Str.empty then [] else _) = []
      rw [if_pos (by decide +kernel)]
    · have hs : Txt.split (Txt.join nlS ((isortK (l.map Prod.fst)).map (rowT (dsOf l)))) nlS = (isortK (l.map Prod.fst)).map (rowT (dsOf l)) := by
        refine split_join hnl (by decide +kernel) (fun e => hl (List.map_eq_nil_iff.mp e)) fun p hp hc => ?_
        obtain ⟨k, hk, rfl⟩ := List.mem_map.mp hp
        obtain ⟨a, b⟩ := hks k hk
        unfold rowT at hc
        rw [tl_append, tl_append, hbl] at hc
        rcases List.mem_append.mp hc with hc | hc
        · rcases List.mem_append.mp hc with hc | hc
          · have := path_sign a _ hc
            omega
          · simp at hc
        · have := num_sign _ _ hc
          omega
      have hne : ¬ Txt.join nlS ((isortK (l.map Prod.fst)).map (rowT (dsOf l))) = Str.empty := fun z => by
        rw [z] at hs
        have e0 : Txt.split Str.empty nlS = [Str.empty] := by decide +kernel
        rw [e0] at hs
        have hm : Str.empty ∈ (isortK (l.map Prod.fst)).map (rowT (dsOf l)) := by rw [← hs]; simp
        obtain ⟨k, hk, e⟩ := List.mem_map.mp hm
        have h32 : 32 ∈ tl (rowT (dsOf l) k) := by unfold rowT; rw [tl_append, tl_append, hbl]; simp
        rw [e] at h32
        cases h32
      rw [if_neg hne, hs]
  have hf := fold_back (ds := dsOf l) (isortK (l.map Prod.fst)) [] hks (fun k _ z => by cases z) ((isortK_perm _).nodup_iff.mpr hn)
  show (foldRows (rowsIn (stateText (.dict (dsOf l)))) []).bind _ = _
  rw [hrows, hf, List.nil_append, Option.bind_some]
  show (if (isState (.dict (dsOf (srtP l))) && decide (stateText (.dict (dsOf (srtP l))) = stateText (.dict (dsOf l)))) = true then some (PyData.dict (dsOf (srtP l))) else none) = _
  rw [good_state (srtP_good hn g), srtP_text hn, if_pos (by simp)]
theorem same_back {H : Hp} {a b : Addr} {l : Ps} (fa : FdAt H a (srtP l)) (fb : FdAt H b l) : SameDT H (.ref a) (.ref b) := by
  refine ⟨a, b, _, _, rfl, rfl, fa.at_, fb.at_, by rw [List.length_map, List.length_map, srtP_len], fun k v hkv => ?_⟩
  obtain ⟨p, hp, e⟩ := List.mem_map.mp hkv
  have hm := srtP_mem fb.nd hp
  cases e
  refine ⟨p.2, rfl, ?_⟩
  have hn2 : ((l.map kvOf).map Prod.fst).Nodup := by
    rw [List.map_map]
    have : (Prod.fst ∘ kvOf : List Str × Int → List Key) = (fun k : List Str => k.map Sum.inr) ∘ Prod.fst := rfl
    rw [this, ← List.map_map]
    exact List.Pairwise.map _ (fun a b hab e => hab (inr_inj e)) fb.nd
  obtain ⟨i, hi, e⟩ := List.getElem_of_mem hm
  exact val_at hn2 (i := i) (by rw [List.getElem?_map, List.getElem?_eq_getElem hi, e]; rfl)
end Lk
set_option Elab.async false
set_option linter.all false
set_option maxRecDepth 100000
set_option maxHeartbeats 4000000
/-! The law's own writing of terms. -/
namespace Lk
open PySem PySem.Spec PyProof.Rows L2 HotX L2H LamX
open Evl (Ev EvL EvA EvT Ex EvU)
open TL
abbrev sLTT : Stmt := topS 51
section
variable {K : PySem.W.Frag} {σ : St} {H : Hp} {ta te tz : TE} {ds : List PyData} {x0 : PyData}
/-- a comprehension over the items of a tuple behind its first -/
theorem el_lcD1 {jx : Nat} {vs : List Nat} (h : EvD ta σ H (.tuple (x0 :: ds))) (hne : ds ≠ []) (ws : List V) (hn : ws.length = ds.length) (hz : ds.length ≤ 40000)
    (hw : ∀ x, wipe ((wipe σ vs).set jx (some x)) vs = wipe σ vs) (he : ∀ (i : Nat) d x H1, Ex H H1 → ds[i]? = some d → R H1 x d → Ev te ((wipe σ vs).set jx (some x)) H1 (ws.getD i .non)) :
    EvL (tLc (iTup K (tSl (rSlA K) ta (tPart (tC (.int 1))) tNoPart)) (gName jx) tYes te vs) σ H ws := fun H0 e Q q => h H0 e _ fun v H1 e1 rv => by
  cases rv with
  | @tup p xs _ hp rs =>
    cases rs with
    | @cons y ys _ _ r1 rs1 =>
      have hl : ys.length = ds.length := rs1.length
      have hpos : 0 < ds.length := List.length_pos_iff.mpr hne
      refine ⟨1, rfl, p, y :: ys, rfl, .inl (.inl hp), fun hw' => ?_, fun _ b hb => ?_⟩
      · exfalso
        have z := hw'.1
        have e7 : (1 : Int) = ((1 : Nat) : Int) := rfl
        rw [e7, HT.sIx_nat, List.length_cons] at z
        omega
      · have ecut : cutV (y :: ys) (some 1) none = ys := by
          have e7 : (1 : Int) = ((1 : Nat) : Int) := rfl
          unfold cutV
          rw [e7, HT.sIx_nat, HT.sIx_none, List.length_cons, Nat.min_eq_left (by omega)]
          simp
        rw [ecut]
        have hx := Ex.new (o := .tup ys) hb
        refine ⟨b, rfl, ⟨ys, .inl (.inl upd_same)⟩, fun D hD => ?_⟩
        refine lc_w (H := upd H1 b (.tup ys)) (walk_tup (K := K) (a := b) (xs := ys)) (fun H' e2 => .inl (.inl (e2 _ _ upd_same))) ws (by rw [hn, hl]) (by omega) hw (fun i x hi hx' => ?_) hD fun H2 e2 h2 => q D H2 (Evl.fresh_back (e1.trans hx) hD) ((e1.trans hx).trans e2) h2
        obtain ⟨d, hd', rx⟩ := rs1.get' hx'
        exact he i d x _ ((e.trans e1).trans hx) hd' (rx.ext (exN hx))
end
section
variable {P : Program} {w : World} {K : PySem.W.Frag} {mg : Str → Option Value} {base : Heap}
theorem scLTT : FnScope ["term", "row", "one"] ["term"] (defScope sLTT) := ⟨rfl, rfl, rfl, by decide +kernel, rfl, by decide +kernel, by decide +kernel⟩
theorem deep_tup {n : Nat} {d : PyData} (h : deepOk n d = true) : isStr d = false := by
  cases n with
  | zero => cases h
  | succ n =>
    cases d with
    | str z => cases h
    | _ => rfl
theorem path_nstr {d : PyData} (h : isPath d = true) : isStr d = false := by
  cases d with
  | str z => cases h
  | _ => rfl
theorem ok_LTT {f : Addr} {fd : FuncData} (F : L2.Fun K "_law_term_text" "_law_term_text" sLTT f fd) (hm : mg "_law_term_text" = some (.ref f)) (hb : Binds K fd ["term"] []) (T : Tx K mg) (Dp : Df P w K mg base "_law_path_text" 1 ["path"] spPathT) :
    ∀ n ≤ 8, Df P w K mg base "_law_term_text" (n + 1) ["term"] (spTextOf n)
  | 0, _ => by
    refine df_of F hm hb scLTT (fun vs H Q E h => by obtain ⟨_, _, rfl, _⟩ := h; rfl) (fun cdv A outer s H vs Q E hr h => ?_)
    obtain ⟨v, d, rfl, rd, hd, k⟩ := h
    cases hd
  | n + 1, hn => by
    have ih := ok_LTT F hm hb T Dp n (by omega)
    refine df_of F hm hb scLTT (fun vs H Q E h => by obtain ⟨_, _, rfl, _⟩ := h; rfl) (fun cdv A outer s H vs Q E hr h => ?_)
    obtain ⟨v, d, rfl, rd, hd, k⟩ := h
    have ix : ∀ {m : Int} {t : Nat} {q : Pos} {q2 : Pos} {q3 : Pos}, PE (cxOf (L2N.CX P w) P w K mg base ["term", "row", "one"] "_law_term_text" (defScope sLTT) f cdv A outer s H E) (.Subscript (.Name "term" q) (.Constant (.int m) t q2) q3) (tOp (rIxT K) (tVar 0) (tC (.int m))) := pe_ix ix_tup (pv 0) pe_int (fun _ _ => rfl)
    have ixr : ∀ {m : Int} {t : Nat} {q : Pos} {q2 : Pos} {q3 : Pos}, PE (cxOf (L2N.CX P w) P w K mg base ["term", "row", "one"] "_law_term_text" (defScope sLTT) f cdv A outer s H E) (.Subscript (.Name "row" q) (.Constant (.int m) t q2) q3) (tOp (rIxL K) (tVar 1) (tC (.int m))) := pe_ix ix_list (pv 1) pe_int (fun _ _ => rfl)
    have dt := deepT_of hd
    generalize htx : textOf (n + 1) d = tx at dt k
    have lB := lenB_le (n + 1) hn
    have lt := textOf_len _ _ hd
    rw [htx] at lt
    refine ⟨_, pss_cons (ps_if (pt_cmpR op_eq ix pe_str (nomark _)) (pss_one (ps_ret (pe_callTy call_str_int (by rfl) T.str boot_str (pa_cons ix pa_nil)))) pss_nil)
      (pss_cons (ps_if (pt_val (pe_callB (call_isD (T := "str")) (by rfl) T.isi boot_isinstance (pa_cons ix (pa_cons (pe_bltn (v := .ty "str") (by rfl) T.str boot_str rfl) pa_nil)))) (pss_one (ps_ret (pe_op op_add_str pe_str ix))) pss_nil)
      (pss_cons (ps_if (pt_cmpR op_eq (pe_callB call_len_seq (by rfl) T.len PySem.boot_len (pa_cons (pv 0) pa_nil)) pe_int (nomark _)) (pss_one (ps_ret (pe_op op_add_str (pe_op op_add_str ix pe_str) (pe_df Dp hr (by omega) (by rfl) passN (pa_cons ix pa_nil))))) pss_nil)
      (pss_cons (ps_setLc (i := 1) (own := [("one", 2)]) (g := gName 2) (tt := tYes) rfl scLTT.nd rfl rfl (sw_true rfl rfl rfl rfl) (pi_tup (pe_slice sl_tupA (pv 0) (po_some pe_int) po_none)) (blkOk_by (own := [("one", 2)]) (N := ["term", "row", "one"]) (sc := defScope sLTT) (by decide +kernel))
        (fun _ _ _ _ _ => pg_name (i := 2) scLTT.nd rfl (Or.inl rfl)) (fun _ _ _ _ _ => pts_nil) (fun _ _ _ _ _ => pe_df ih hr (Nat.le_refl _) (by rfl) passN (pa_cons (pv 2) pa_nil)))
      (pss_cons (ps_if (pt_cmpR op_eq (pe_callB call_len_seq (by rfl) T.len PySem.boot_len (pa_cons (pv 0) pa_nil)) pe_int (nomark _)) (pss_one (ps_ret (pe_op op_add_str (pe_op op_add_str (pe_op op_add_str (pe_op op_add_str (pe_op op_add_str (pe_op op_add_str pe_str ixr) pe_str) ixr) pe_str) ixr) pe_str))) pss_nil)
      (pss_one (ps_ret (pe_op op_add_str (pe_op op_add_str (pe_op op_add_str (pe_op op_add_str (pe_op op_add_str (pe_op op_add_str pe_str ixr) pe_str) ix) pe_str) ixr) pe_str))))))), ?_⟩
    have l0 : blS.length = 1 ∧ opS.length = 1 ∧ clS.length = 1 ∧ whS.length = 6 ∧ thS.length = 6 ∧ elS.length = 6 := by decide +kernel
    have fin : ∀ {te : TE} {σ : St} {H1 : Hp}, Ex H H1 → EvD te σ H1 (.str tx) → tRet te { nx := fun _ H' => Q .non H', rt := Q } σ H1 := fun e1 h => s_retD h fun v H2 e2 r => by cases r; exact k H2 (e1.trans e2)
    show tSeq _ _ _ [some v, none, none] H
    cases dt with
    | @num x hx =>
      obtain ⟨ex, hi⟩ := num_int hx
      refine Evl.q_when (b := true) (Evl.et_is (Evl.et_test (ed_eqS (ed_ixT (d := .str "num") (k := 0) (ed_var rfl rd) (ed_c (.int 0)) rfl) (ed_c (v := .str "num") (.str _ (by decide +kernel)))).vb) (by decide +kernel)) (fun _ H2 e2 => ?_) (fun z => by cases z)
      exact fin e2 (ed_strI (ed_ixT (k := 1) (ds := [.str "num", x]) (ed_var rfl (rd.ext (exN e2))) (ed_c (.int 1)) (by rw [← ex]; rfl)) hi)
    | @read z x hz h0 hx =>
      refine Evl.q_when (b := false) (Evl.et_is (Evl.et_test (ed_eqS (ed_ixT (d := .str z) (k := 0) (ed_var rfl rd) (ed_c (.int 0)) rfl) (ed_c (v := .str "num") (.str _ (by decide +kernel)))).vb) (decide_eq_false h0)) (fun z => by cases z) (fun _ H2 e2 => ?_)
      refine Evl.q_when (b := false) (Evl.et_is (et_b (ed_isi (ed_ixT (d := x) (k := 1) (ed_var rfl (rd.ext (exN e2))) (ed_c (.int 1)) rfl) (kit_str x))) (path_nstr hx)) (fun z => by cases z) (fun _ H3 e3 => ?_)
      have e23 := e2.trans e3
      refine Evl.q_when (b := true) (Evl.et_is (Evl.et_test (ed_eqI (i := 2) (j := 2) (ed_is (ed_lenQ (ds := [.str z, x]) (ed_var rfl (rd.ext (exN e23))) (.inl rfl)) rfl) (ed_c (.int 2))).vb) (by decide)) (fun _ H4 e4 => ?_) (fun z => by cases z)
      have e24 := e23.trans e4
      have h5 := read_len z hz
      have h27 := pathText_len hx
      exact fin e24 (ed_addS (ed_addS (ed_ixT (d := .str z) (k := 0) (ed_var rfl (rd.ext (exN e24))) (ed_c (.int 0)) rfl) (ed_c (v := .str blS) (.str _ (by decide +kernel))) (by rw [l0.1]; omega)) (ed_pathT (ed_ixT (k := 1) (ds := [.str z, x]) (ed_var rfl (rd.ext (exN e24))) (ed_c (.int 1)) rfl) hx) (by rw [len_app, l0.1]; omega))
    | @look x hx =>
      have ex := word_str hx
      have hlw : (strOf x).length ≤ 6 := by rw [ex] at hx; exact (word_len hx).2
      refine Evl.q_when (b := false) (Evl.et_is (Evl.et_test (ed_eqS (ed_ixT (d := .str "look") (k := 0) (ed_var rfl rd) (ed_c (.int 0)) rfl) (ed_c (v := .str "num") (.str _ (by decide +kernel)))).vb) (by decide +kernel)) (fun z => by cases z) (fun _ H2 e2 => ?_)
      refine Evl.q_when (b := true) (Evl.et_is (et_b (ed_isi (ed_ixT (d := x) (k := 1) (ed_var rfl (rd.ext (exN e2))) (ed_c (.int 1)) rfl) (kit_str x))) (by rw [ex]; rfl)) (fun _ H3 e3 => ?_) (fun z => by cases z)
      have e23 := e2.trans e3
      have h4 : ("look " : Str).length = 5 ∧ ("look " : Str) = "look" ++ blS := by decide +kernel
      exact fin e23 (ed_is (ed_addS (x := "look ") (y := strOf x) (ed_c (v := .str "look ") (.str _ (by decide +kernel))) (ed_ixT (k := 1) (ds := [.str "look", x]) (ed_var rfl (rd.ext (exN e23))) (ed_c (.int 1)) (by rw [← ex]; rfl)) (by rw [h4.1]; omega)) (by rw [h4.2]))
    | @when x y w hx hy hw =>
      refine Evl.q_when (b := false) (Evl.et_is (Evl.et_test (ed_eqS (ed_ixT (d := .str "when") (k := 0) (ed_var rfl rd) (ed_c (.int 0)) rfl) (ed_c (v := .str "num") (.str _ (by decide +kernel)))).vb) (by decide +kernel)) (fun z => by cases z) (fun _ H2 e2 => ?_)
      refine Evl.q_when (b := false) (Evl.et_is (et_b (ed_isi (ed_ixT (d := x) (k := 1) (ed_var rfl (rd.ext (exN e2))) (ed_c (.int 1)) rfl) (kit_str x))) (deep_tup hx)) (fun z => by cases z) (fun _ H3 e3 => ?_)
      have e23 := e2.trans e3
      refine Evl.q_when (b := false) (Evl.et_is (Evl.et_test (ed_eqI (i := 4) (j := 2) (ed_is (ed_lenQ (ds := [.str "when", x, y, w]) (ed_var rfl (rd.ext (exN e23))) (.inl rfl)) rfl) (ed_c (.int 2))).vb) (by decide)) (fun z => by cases z) (fun _ H4 e4 => ?_)
      have e24 := e23.trans e4
      simp only [len_app] at lt
      refine q_asgD (d := .list ([textOf n x, textOf n y, textOf n w].map PyData.str)) (EvD.ofL (el_lcD1 (ds := [x, y, w]) (ed_var rfl (rd.ext (exN e24))) (by simp) ([textOf n x, textOf n y, textOf n w].map V.str) rfl (by simp) (fun _ => rfl) fun i d' u H5 e5 hd' ru => ?_) (rs_strs fun z hz => ?_)) fun vr H5 e5 rr => ?_
      · have hd8 : deepOk n d' = true := by
          have := List.mem_of_getElem? hd'
          simp only [List.mem_cons, List.not_mem_nil, or_false] at this
          rcases this with rfl | rfl | rfl
          · exact hx
          · exact hy
          · exact hw
        refine Evl.ev_is (EvD.ts (ed_textOf (E := E0) (n := n) (ed_var rfl ru) hd8 (by omega))) ?_
        match i, hd' with
        | 0, hd' => cases hd'; rfl
        | 1, hd' => cases hd'; rfl
        | 2, hd' => cases hd'; rfl
        | i + 3, hd' => simp at hd'
      · simp only [List.mem_cons, List.not_mem_nil, or_false] at hz
        rcases hz with rfl | rfl | rfl <;> omega
      have e25 := e24.trans e5
      show tSeq _ _ _ [some v, some vr, none] H5
      refine Evl.q_when (b := true) (Evl.et_is (Evl.et_test (ed_eqI (i := 4) (j := 4) (ed_is (ed_lenQ (ds := [.str "when", x, y, w]) (ed_var rfl (rd.ext (exN e25))) (.inl rfl)) rfl) (ed_c (.int 4))).vb) (by decide)) (fun _ H6 e6 => ?_) (fun z => by cases z)
      have r6 := rr.ext (exN e6)
      have tx1 : ∀ (m : Nat) (c : Str), ([textOf n x, textOf n y, textOf n w].map PyData.str)[m]? = some (.str c) → EvD (tOp (rIxL K) (tVar 1) (tC (.int m))) [some v, some vr, none] H6 (.str c) := fun m c hc => ed_ixL (k := m) (ed_var rfl r6) (ed_c (.int m)) hc
      exact fin (e25.trans e6) (ed_addS (ed_addS (ed_addS (ed_addS (ed_addS (ed_addS (ed_c (v := .str whS) (.str _ (by decide +kernel))) (tx1 0 _ rfl) (by omega)) (ed_c (v := .str thS) (.str _ (by decide +kernel))) (by simp only [len_app]; omega)) (tx1 1 _ rfl) (by simp only [len_app]; omega)) (ed_c (v := .str elS) (.str _ (by decide +kernel))) (by simp only [len_app]; omega)) (tx1 2 _ rfl) (by simp only [len_app]; omega)) (ed_c (v := .str clS) (.str _ (by decide +kernel))) (by simp only [len_app]; omega))
    | @two z x y hz h0 h1 h2 hx hy =>
      refine Evl.q_when (b := false) (Evl.et_is (Evl.et_test (ed_eqS (ed_ixT (d := .str z) (k := 0) (ed_var rfl rd) (ed_c (.int 0)) rfl) (ed_c (v := .str "num") (.str _ (by decide +kernel)))).vb) (decide_eq_false h0)) (fun z => by cases z) (fun _ H2 e2 => ?_)
      refine Evl.q_when (b := false) (Evl.et_is (et_b (ed_isi (ed_ixT (d := x) (k := 1) (ed_var rfl (rd.ext (exN e2))) (ed_c (.int 1)) rfl) (kit_str x))) (deep_tup hx)) (fun z => by cases z) (fun _ H3 e3 => ?_)
      have e23 := e2.trans e3
      refine Evl.q_when (b := false) (Evl.et_is (Evl.et_test (ed_eqI (i := 3) (j := 2) (ed_is (ed_lenQ (ds := [.str z, x, y]) (ed_var rfl (rd.ext (exN e23))) (.inl rfl)) rfl) (ed_c (.int 2))).vb) (by decide)) (fun z => by cases z) (fun _ H4 e4 => ?_)
      have e24 := e23.trans e4
      simp only [len_app] at lt
      refine q_asgD (d := .list ([textOf n x, textOf n y].map PyData.str)) (EvD.ofL (el_lcD1 (ds := [x, y]) (ed_var rfl (rd.ext (exN e24))) (by simp) ([textOf n x, textOf n y].map V.str) rfl (by simp) (fun _ => rfl) fun i d' u H5 e5 hd' ru => ?_) (rs_strs fun z hz => ?_)) fun vr H5 e5 rr => ?_
      · have hd8 : deepOk n d' = true := by
          have := List.mem_of_getElem? hd'
          simp only [List.mem_cons, List.not_mem_nil, or_false] at this
          rcases this with rfl | rfl
          · exact hx
          · exact hy
        refine Evl.ev_is (EvD.ts (ed_textOf (E := E0) (n := n) (ed_var rfl ru) hd8 (by omega))) ?_
        match i, hd' with
        | 0, hd' => cases hd'; rfl
        | 1, hd' => cases hd'; rfl
        | i + 2, hd' => simp at hd'
      · simp only [List.mem_cons, List.not_mem_nil, or_false] at hz
        rcases hz with rfl | rfl <;> omega
      have e25 := e24.trans e5
      show tSeq _ _ _ [some v, some vr, none] H5
      refine Evl.q_when (b := false) (Evl.et_is (Evl.et_test (ed_eqI (i := 3) (j := 4) (ed_is (ed_lenQ (ds := [.str z, x, y]) (ed_var rfl (rd.ext (exN e25))) (.inl rfl)) rfl) (ed_c (.int 4))).vb) (by decide)) (fun z => by cases z) (fun _ H6 e6 => ?_)
      have r6 := rr.ext (exN e6)
      have tx1 : ∀ (m : Nat) (c : Str), ([textOf n x, textOf n y].map PyData.str)[m]? = some (.str c) → EvD (tOp (rIxL K) (tVar 1) (tC (.int m))) [some v, some vr, none] H6 (.str c) := fun m c hc => ed_ixL (k := m) (ed_var rfl r6) (ed_c (.int m)) hc
      exact fin (e25.trans e6) (ed_addS (ed_addS (ed_addS (ed_addS (ed_addS (ed_addS (ed_c (v := .str opS) (.str _ (by decide +kernel))) (tx1 0 _ rfl) (by omega)) (ed_c (v := .str blS) (.str _ (by decide +kernel))) (by simp only [len_app]; omega)) (ed_ixT (d := .str z) (k := 0) (ed_var rfl (rd.ext (exN (e25.trans e6)))) (ed_c (.int 0)) rfl) (by simp only [len_app]; omega)) (ed_c (v := .str blS) (.str _ (by decide +kernel))) (by simp only [len_app]; omega)) (tx1 1 _ rfl) (by simp only [len_app]; omega)) (ed_c (v := .str clS) (.str _ (by decide +kernel))) (by simp only [len_app]; omega))
end
end Lk
set_option Elab.async false
set_option linter.all false
set_option maxRecDepth 100000
set_option maxHeartbeats 4000000
/-! The law's drawn terms. -/
namespace Lk
open PySem PySem.Spec PyProof.Rows L2 HotX L2H LamX
open Evl (Ev EvL EvA EvT Ex EvU)
open TL
abbrev sLTerm : Stmt := topS 48
/-- what of H' is not yet in H -/
def newOf (H H' : Hp) : Hp := fun b => match H b with | none => H' b | some _ => none
theorem new_at {H H' : Hp} {b : Addr} {o : HO} (h : H b = none) (h' : H' b = some o) : newOf H H' b = some o := by unfold newOf; rw [h]; exact h'
theorem new_of {H H' : Hp} {b : Addr} {o : HO} (h : newOf H H' b = some o) : H b = none ∧ H' b = some o := by
  unfold newOf at h
  cases e : H b with
  | none => rw [e] at h; exact ⟨rfl, h⟩
  | some x => rw [e] at h; cases h
theorem new_sub (H H' : Hp) : Ex (newOf H H') H' := fun b o h => (new_of h).2
theorem new_ext {H H1 H2 : Hp} (e : Ex H1 H2) : Ex (newOf H H1) (newOf H H2) := fun b o h => new_at (new_of h).1 (e _ _ (new_of h).2)
theorem new_back {H0 H H' : Hp} (e : Ex H0 H) : Ex (newOf H H') (newOf H0 H') := fun b o h => new_at (Evl.fresh_back e (new_of h).1) (new_of h).2
section
variable {K : PySem.W.Frag} {σ : St} {H0 H H' : Hp} {ta tb te : TE} {tr : TA} {d e : PyData} {ds : List PyData} {v : V}
/-- evaluates to a thing that is new since H0 -/
def EvN (H0 : Hp) (te : TE) (σ : St) (H : Hp) (d : PyData) : Prop := ∀ H1, Ex H H1 → ∀ Q : VK, (∀ v H2, Ex H1 H2 → R (newOf H0 H2) v d → Q v H2) → te σ H1 Q
def EvNs (H0 : Hp) (tr : TA) (σ : St) (H : Hp) (ds : List PyData) : Prop := ∀ H1, Ex H H1 → ∀ Q : List V → Hp → Prop, (∀ vs H2, Ex H1 H2 → Rs (newOf H0 H2) vs ds → Q vs H2) → tr σ H1 Q
theorem en_nil : EvNs H0 tNil σ H [] := fun H1 _ _ q => q [] H1 (Ex.refl _) .nil
theorem en_cons (h : EvN H0 te σ H d) (t : EvNs H0 tr σ H ds) : EvNs H0 (tCons te tr) σ H (d :: ds) := fun H1 e Q q =>
  h H1 e _ fun v H2 e2 r => t H2 (e.trans e2) _ fun vs H3 e3 rs => q _ H3 (e2.trans e3) (.cons (r.ext (exN (new_ext e3))) rs)
theorem en_tup (e0 : Ex H0 H) (h : EvNs H0 tr σ H ds) (hl : ds.length ≤ 100000) : EvN H0 (tTup tr) σ H (.tuple ds) := fun H1 e Q q =>
  h H1 e _ fun vs H2 e2 rs => ⟨Evl.sz_of (by rw [rs.length]; exact hl), fun p hp => q (.ref p) _ (e2.trans (Ex.new hp)) (.tup (new_at (Evl.fresh_back ((e0.trans e).trans e2) hp) upd_same) (rs.ext (exN (new_ext (Ex.new hp)))))⟩
theorem en_v (h : Ev te σ H v) (r : R (newOf H0 H) v d) : EvN H0 te σ H d := fun H1 e Q q => h H1 e _ fun H2 e2 => q v H2 e2 (r.ext (exN (new_ext (e.trans e2))))
theorem en_s {z : Str} (h : EvD te σ H (.str z)) : EvN H0 te σ H (.str z) := fun H1 e Q q => h H1 e _ fun v H2 e2 r => q v H2 e2 (by cases r with | str _ hz => exact .str z hz)
theorem en_i {i : Int} (h : EvD te σ H (.int i)) : EvN H0 te σ H (.int i) := fun H1 e Q q => h H1 e _ fun v H2 e2 r => q v H2 e2 (by cases r; exact .int i)
theorem s_retN {D : Ends} (h : EvN H0 te σ H d) (k : ∀ v H1, Ex H H1 → R (newOf H0 H1) v d → D.rt v H1) : tRet te D σ H := h H (Ex.refl H) _ k
/-- what of H' is neither in H nor at D -/
def newBut (H : Hp) (D : Addr) (H' : Hp) : Hp := fun b => if b = D then none else newOf H H' b
theorem nb_at {D b : Addr} {o : HO} (h : b ≠ D) (h' : newOf H H' b = some o) : newBut H D H' b = some o := by unfold newBut; rw [if_neg h]; exact h'
theorem nb_of {D b : Addr} {o : HO} (h : newBut H D H' b = some o) : b ≠ D ∧ newOf H H' b = some o := by
  unfold newBut at h
  by_cases e : b = D
  · rw [if_pos e] at h; cases h
  · rw [if_neg e] at h; exact ⟨e, h⟩
theorem nb_sub (H : Hp) (D : Addr) (H' : Hp) : Ex (newBut H D H') (newOf H H') := fun b o h => (nb_of h).2
/-- a comprehension's loop; its items by what is true of them in what is new -/
theorem lc_n {J : It} {n : Nat} {G : Hp → Prop} {Y : Nat → Hp → V → Hp → Prop} {jx : Nat} {vs : List Nat} {D : Addr} {Q : VK} (wk : Walk J n G Y) (hY : ∀ i H x H', Y i H x H' → H' = H) (hG : ∀ H', Ex H H' → G H') (P : V → Hp → Prop) (hP : ∀ v H1 H2, Ex H1 H2 → P v H1 → P v H2) (hz : n ≤ 40000)
    (hw : ∀ x, wipe ((wipe σ vs).set jx (some x)) vs = wipe σ vs) (he : ∀ i x H1, Ex H H1 → i < n → Y i H1 x H1 → ∀ Q : VK, (∀ v H2, Ex H1 H2 → P v (newOf H1 H2) → Q v H2) → te ((wipe σ vs).set jx (some x)) H1 Q) (hD : H D = none)
    (q : ∀ H2 ws, Ex H H2 → H2 D = some (.lst ws) → ws.length = n → (∀ (i : Nat) v, ws[i]? = some v → P v (newBut H D H2)) → Q (.ref D) H2) :
    ∃ W : Nat → Nat → Hp → Prop, (∃ m, W 0 m (upd H D (.lst []))) ∧ ∀ i m H, W i m H →
      (J.stop i H ∧ Q (.ref D) H) ∨ (J.go i H ∧ ∃ Nx : Hp → Prop, (∀ H', Nx H' → ∃ m', m' < m ∧ W (i + 1) m' H') ∧ ∀ x H', J.yld i H x H' → gName jx x (wipe σ vs) H' fun σ2 H2 => wipe σ2 vs = wipe σ vs ∧ tYes σ2 H2 fun b H3 =>
        if b = true then te σ2 H3 fun y H4 => ∃ acc, H4 D = some (.lst acc) ∧ acc.length < sizeLine ∧ Nx (upd H4 D (.lst (acc ++ [y]))) else Nx H3) :=
  lc_it (σ := σ) (vs := vs) (g := gName jx) (tt := tYes) (te := te) (Qd := fun H => Q (.ref D) H) wk (fun i H' => Ex H H' ∧ ∃ ws, H' D = some (.lst ws) ∧ ws.length = i ∧ ∀ (j : Nat) v, ws[j]? = some v → P v (newBut H D H'))
    ⟨Ex.new hD, [], upd_same, rfl, fun j v h => by simp at h⟩ (fun i H' _ p => hG H' p.1)
    (fun i x H1 H' hi ⟨ex, ws, h1, h2, h3⟩ y => by
      have e1 := hY _ _ _ _ y
      subst e1
      refine ⟨hw x, ?_⟩
      unfold tYes
      simp only [if_true]
      refine he i x H' ex hi y _ fun v H2 e2 hp => ⟨ws, e2 _ _ h1, Evl.sz_lt (by omega), (ex.trans e2).mut hD, ws ++ [v], upd_same, by simp [h2], fun j u hj => ?_⟩
      have hmut : ∀ {o : HO}, Ex (newBut H D H2) (newBut H D (upd H2 D o)) := fun {o} b o' hb => by
        obtain ⟨nD, hb⟩ := nb_of hb
        obtain ⟨a1, a2⟩ := new_of hb
        exact nb_at nD (new_at a1 (by rw [upd_ne nD]; exact a2))
      by_cases hjl : j < ws.length
      · rw [List.getElem?_append_left hjl] at hj
        refine hP _ _ _ hmut (hP _ _ _ (fun b o' hb => ?_) (h3 j u hj))
        obtain ⟨nD, hb⟩ := nb_of hb
        obtain ⟨a1, a2⟩ := new_of hb
        exact nb_at nD (new_at a1 (e2 _ _ a2))
      · rw [List.getElem?_append_right (by omega)] at hj
        have : j - ws.length = 0 := by
          by_cases hj0 : j - ws.length = 0
          · exact hj0
          · rw [List.getElem?_eq_none (by simp; omega)] at hj; cases hj
        rw [this] at hj
        have hv : v = u := by simpa using hj
        rw [← hv]
        refine hP _ _ _ hmut (hP _ _ _ (fun b o' hb => ?_) hp)
        obtain ⟨a1, a2⟩ := new_of hb
        exact nb_at (fun z => by rw [z, h1] at a1; cases a1) (new_at (Evl.fresh_back ex a1) a2))
    (fun H' ⟨ex, ws, h1, h2, h3⟩ => q H' ws ex h1 h2 h3)
end
def EvLn (te : TE) (σ : St) (H : Hp) (n : Nat) (P : V → Hp → Prop) : Prop := ∀ H1, Ex H H1 → ∀ Q : VK, (∀ p ws H2, H1 p = none → Ex H1 H2 → H2 p = some (.lst ws) → ws.length = n → (∀ (i : Nat) v, ws[i]? = some v → P v (newOf H1 H2)) → Q (.ref p) H2) → te σ H1 Q
theorem el_nR1 {σ : St} {H : Hp} {te : TE} {tr : TA} {hi : Int} {jx : Nat} {vs : List Nat} {P : V → Hp → Prop} (hP : ∀ v H1 H2, Ex H1 H2 → P v H1 → P v H2) (h : EvA tr σ H [.int hi]) (h0 : 0 ≤ hi) (h1 : hi ≤ 40000) (hw : ∀ x, wipe ((wipe σ vs).set jx (some x)) vs = wipe σ vs)
    (he : ∀ (i : Nat) H1, Ex H H1 → (i : Int) < hi → ∀ Q : VK, (∀ v H2, Ex H1 H2 → P v (newOf H1 H2) → Q v H2) → te ((wipe σ vs).set jx (some (.int i))) H1 Q) : EvLn (tLc (iRng1 tr) (gName jx) tYes te vs) σ H hi.toNat P := fun H0 e0 Q q =>
  h H0 e0 _ fun H1 e1 => ⟨hi, rfl, by omega, by omega, fun D hD =>
    lc_n (walk_range (lo := 0) (n := hi.toNat)) (fun i H x H' y => y.1) (fun _ _ => trivial) P hP (by omega) hw (fun i x H2 e2 hi' y Q2 q2 => by
      have hx : x = .int (0 + (i : Int)) := y.2
      rw [Int.zero_add] at hx
      subst hx
      exact he i H2 ((e0.trans e1).trans e2) (by omega) Q2 q2) hD fun H2 ws e2 h2 hl hp => q D ws H2 (Evl.fresh_back e1 hD) (e1.trans e2) h2 hl fun i v hv => hP _ _ _ ((nb_sub _ _ _).trans (new_back e1)) (hp i v hv)⟩
/-! ### _law_term -/
def lenT : Nat → Nat
  | 0 => 14
  | n + 1 => 3 * lenT n + 19
theorem lenT_le : ∀ n ≤ 4, lenT n ≤ 1894 := by decide
def namesL : List Str := ["a", "look", "when"]
def TermN (n : Nat) (v : V) (H : Hp) : Prop := ∃ d, R H v d ∧ deepOk (n + 1) d = true ∧ (textOf (n + 1) d).length ≤ lenT n
theorem TermN.ext {n : Nat} : ∀ v H1 H2, Ex H1 H2 → TermN n v H1 → TermN n v H2 := fun v H1 H2 e ⟨d, r, h⟩ => ⟨d, r.ext (exN e), h⟩
def spLTerm (n : Nat) : Sp := fun vs H Q _ => ∃ (more : Int) (a : Addr), vs = [.int more, .int n, .ref a] ∧ R H (.ref a) (.list (namesL.map PyData.str)) ∧ ∀ v H', Same H H' → TermN n v (newOf H H') → Q v H'
end Lk
set_option Elab.async false
set_option linter.all false
set_option maxRecDepth 100000
set_option maxHeartbeats 4000000
namespace Lk
open PySem PySem.Spec PyProof.Rows L2 HotX L2H LamX
open Evl (Ev EvL EvA EvT Ex EvU)
open TL
theorem q_asgLn {te : TE} {σ : St} {H : Hp} {n i : Nat} {P : V → Hp → Prop} {tz : TS} {D : Ends} (h : EvLn te σ H n P) (q : ∀ p ws H2, H p = none → Ex H H2 → H2 p = some (.lst ws) → ws.length = n → (∀ (i : Nat) v, ws[i]? = some v → P v (newOf H H2)) → tz D (σ.set i (some (.ref p))) H2) : tSeq (tAsg te (gName i)) tz D σ H := h H (Ex.refl H) _ q
theorem lenT_ge : ∀ n, 14 ≤ lenT n
  | 0 => Nat.le_refl _
  | n + 1 => by have := lenT_ge n; unfold lenT; omega
theorem names_word : ∀ z ∈ namesL, isWord (.str z) = true ∧ z.length ≤ 4 := by decide +kernel
def readL : List Str := ["at", "sum", "many", "there", "at"]
def twoL : List Str := ["plus", "less", "times", "same", "below"]
theorem readL_ok : ∀ z ∈ readL, z ∈ readW ∧ ¬ z = "num" := by decide +kernel
theorem twoL_ok : ∀ z ∈ twoL, z ∈ twoW ∧ ¬ z = "num" ∧ ¬ z ∈ readW ∧ ¬ z = "look" := by decide +kernel
theorem leaf_look {n : Nat} {z : Str} (h : z ∈ namesL) : deepOk (n + 1) (.tuple [.str "look", .str z]) = true ∧ (textOf (n + 1) (.tuple [.str "look", .str z])).length ≤ lenT n := by
  have a : ¬ ("look" : Str) = "num" := by decide +kernel
  have b : ¬ ("look" : Str) ∈ readW := by decide +kernel
  obtain ⟨hw, hl⟩ := names_word z h
  refine ⟨by simp [deepOk, a, b, hw], ?_⟩
  have e : textOf (n + 1) (.tuple [.str "look", .str z]) = "look" ++ blS ++ z := by simp [textOf, a, b, strOf]
  have l1 : ("look" : Str).length = 4 ∧ blS.length = 1 := by decide +kernel
  have := lenT_ge n
  rw [e, len_app, len_app, l1.1, l1.2]
  omega
theorem leaf_num {n : Nat} {i : Int} (h : i.natAbs ≤ 1000000000) : deepOk (n + 1) (.tuple [.str "num", .int i]) = true ∧ (textOf (n + 1) (.tuple [.str "num", .int i])).length ≤ lenT n := by
  have hn : isNumber 1000000000 (.int i) = true := decide_eq_true (by omega)
  refine ⟨by simp [deepOk, hn], ?_⟩
  have e : textOf (n + 1) (.tuple [.str "num", .int i]) = numT i := by simp [textOf, intOf]
  have := lenT_ge n
  have := numT_len h
  rw [e]
  omega
theorem abc_len : ∀ z ∈ abc, z.length ≤ 2 := by decide +kernel
theorem leaf_read {n : Nat} {z : Str} {k : List Str} (h : z ∈ readL) (h3 : k.length ≤ 3) (ha : ∀ y ∈ k, y ∈ abc) : deepOk (n + 1) (.tuple [.str z, encK k]) = true ∧ (textOf (n + 1) (.tuple [.str z, encK k])).length ≤ lenT n := by
  obtain ⟨h1, h2⟩ := readL_ok z h
  have hp := path_abc (k := k) (by omega) ha
  refine ⟨by simp [deepOk, h1, h2, hp], ?_⟩
  have e : textOf (n + 1) (.tuple [.str z, encK k]) = z ++ blS ++ pathText (encK k) := by simp [textOf, h1, h2]
  have l1 : blS.length = 1 := by decide +kernel
  have l2 := read_len z h1
  have l3 : (pathText (encK k)).length ≤ 8 := by
    unfold pathText
    rw [strs_enc]
    by_cases hz : k = []
    · rw [if_pos hz]; decide +kernel
    · rw [if_neg hz]
      show (Builtin.Str.glued dotS k).length ≤ 8
      rw [size_glued]
      have q1 := sum_le fun y hy => abc_len y (ha y hy)
      have q2 : dotS.length = 1 := by decide +kernel
      rw [q2]
      omega
  have := lenT_ge n
  rw [e, len_app, len_app, l1]
  omega
theorem node_two {n : Nat} {z : Str} {x y : PyData} (h : z ∈ twoL) (hx : deepOk (n + 1) x = true) (hy : deepOk (n + 1) y = true) (lx : (textOf (n + 1) x).length ≤ lenT n) (ly : (textOf (n + 1) y).length ≤ lenT n) : deepOk (n + 1 + 1) (.tuple [.str z, x, y]) = true ∧ (textOf (n + 1 + 1) (.tuple [.str z, x, y])).length ≤ lenT (n + 1) := by
  obtain ⟨h1, h2, h3, h4⟩ := twoL_ok z h
  have h5 := two_when z h1
  refine ⟨by rw [deepOk, if_neg h2, if_neg h3, if_neg h4]; simp [hx, hy, h1], ?_⟩
  have e : textOf (n + 1 + 1) (.tuple [.str z, x, y]) = opS ++ textOf (n + 1) x ++ blS ++ z ++ blS ++ textOf (n + 1) y ++ clS := by
    rw [textOf, if_neg h2, if_neg h3, if_neg h4, if_neg h5]; rfl
  have l0 : blS.length = 1 ∧ opS.length = 1 ∧ clS.length = 1 := by decide +kernel
  have l2 := two_len z h1
  rw [e]
  simp only [len_app, l0]
  show _ ≤ 3 * lenT n + 19
  omega
theorem node_when {n : Nat} {x y w : PyData} (hx : deepOk (n + 1) x = true) (hy : deepOk (n + 1) y = true) (hw : deepOk (n + 1) w = true) (lx : (textOf (n + 1) x).length ≤ lenT n) (ly : (textOf (n + 1) y).length ≤ lenT n) (lw : (textOf (n + 1) w).length ≤ lenT n) : deepOk (n + 1 + 1) (.tuple [.str "when", x, y, w]) = true ∧ (textOf (n + 1 + 1) (.tuple [.str "when", x, y, w])).length ≤ lenT (n + 1) := by
  have a : ¬ ("when" : Str) = "num" := by decide +kernel
  have b : ¬ ("when" : Str) ∈ readW := by decide +kernel
  have c : ¬ ("when" : Str) = "look" := by decide +kernel
  refine ⟨by rw [deepOk, if_neg a, if_neg b, if_neg c]; simp [hx, hy, hw], ?_⟩
  have e : textOf (n + 1 + 1) (.tuple [.str "when", x, y, w]) = whS ++ textOf (n + 1) x ++ thS ++ textOf (n + 1) y ++ elS ++ textOf (n + 1) w ++ clS := by
    rw [textOf, if_neg a, if_neg b, if_neg c, if_pos rfl]; rfl
  have l0 : blS.length = 1 ∧ opS.length = 1 ∧ clS.length = 1 ∧ whS.length = 6 ∧ thS.length = 6 ∧ elS.length = 6 := by decide +kernel
  rw [e]
  simp only [len_app, l0]
  show _ ≤ 3 * lenT n + 19
  omega
theorem shaped_names : SeqAt.shaped (.list (namesL.map PyData.str)) = true := by decide +kernel
section
variable {P : Program} {w : World} {K : PySem.W.Frag} {mg : Str → Option Value} {base : Heap}
theorem scLTerm : FnScope ["more", "deep", "names", "here", "row", "way", "j"] ["more", "deep", "names"] (defScope sLTerm) := ⟨rfl, rfl, rfl, by decide +kernel, rfl, by decide +kernel, by decide +kernel⟩
theorem ok_LTerm0 {f : Addr} {fd : FuncData} (F : L2.Fun K "_law_term" "_law_term" sLTerm f fd) (hm : mg "_law_term" = some (.ref f)) (hb : Binds K fd ["more", "deep", "names"] []) (T : Tx K mg) (Dd : Df P w K mg base "_law_drawn" 1 ["cell", "k"] spDrawn) (Dp : Df P w K mg base "_law_path" 2 ["more", "deep"] spLPath) :
    FnOk P w K mg base (L2N.CX P w) 3 f fd ["more", "deep", "names"] (spLTerm 0) := by
  refine okN F scLTerm (fun vs H Q E h => by obtain ⟨_, _, rfl, _⟩ := h; rfl) (fun cdv A outer s H vs Q E hr h => ?_)
  obtain ⟨more, a, rfl, ra, kk⟩ := h
  refine ⟨_, pss_cons (ps_set (i := 3) scLTerm.nd rfl (Or.inr rfl) (pe_op op_fdiv (pv 0) pe_int))
    (pss_cons (ps_if (PW.pt (pw_or (pt_cmpR op_eq (pv 1) pe_int (nomark _)) (pw_or1 (pt_cmpR op_eq (pe_op op_mod (pv 0) pe_int) pe_int (nomark _)))))
      (pss_cons (ps_if (PW.pt (pw_and (pt_cmpR (op_neD hr.units) (pv 2) (pe_lst pa_nil) (nomark _)) (pw_and1 (pt_cmpR op_eq (pe_op op_mod (pv 3) pe_int) pe_int (nomark _)))))
        (pss_one (ps_ret (pe_tup (pa_cons pe_str (pa_cons (pe_ix (r := rIxL K) ix_list (pv 2) (pe_op op_mod (pe_op op_fdiv (pv 3) pe_int) (pe_callB call_len_seq (by rfl) T.len PySem.boot_len (pa_cons (pv 2) pa_nil))) (fun _ _ => rfl)) pa_nil))))) pss_nil)
      (pss_cons (ps_if (pt_cmpR op_eq (pe_op op_mod (pv 3) pe_int) pe_int (nomark _))
        (pss_one (ps_ret (pe_tup (pa_cons pe_str (pa_cons (pe_ix (r := rIxL K) ix_list (pe_lst (pa_cons (pe_op op_mod (pe_op op_fdiv (pv 3) pe_int) pe_int) (pa_cons (pe_op op_sub pe_int (pe_op op_mod (pe_op op_fdiv (pv 3) pe_int) pe_int)) (pa_cons pe_int pa_nil)))) (pe_op op_mod (pe_op op_fdiv (pv 3) pe_int) pe_int) (fun _ _ => rfl)) pa_nil))))) pss_nil)
      (pss_one (ps_ret (pe_tup (pa_cons (pe_ix (r := rIxL K) ix_list (pe_lst (pa_cons pe_str (pa_cons pe_str (pa_cons pe_str (pa_cons pe_str (pa_cons pe_str pa_nil)))))) (pe_op op_mod (pe_op op_fdiv (pv 3) pe_int) pe_int) (fun _ _ => rfl)) (pa_cons (pe_df Dp hr (by omega) (by rfl) passN (pa_cons (pe_df Dd hr (by omega) (by rfl) passN (pa_cons (pv 3) (pa_cons pe_int pa_nil))) (pa_cons pe_int pa_nil))) pa_nil))))))) pss_nil)
    pss_never), ?_⟩
  refine q_asgD (d := .int (more / 16)) (ed_I (i := more) (j := 16) (ed_var rfl (.int more)) (ed_c (.int 16)) ⟨by decide, by decide⟩ (.int _)) fun vh H1 e1 r1 => ?_
  generalize hhere : more / 16 = here at r1
  cases r1
  show tSeq _ _ _ [some (.int more), some (.int ((0 : Nat) : Int)), some (.ref a), some (.int here), none, none, none] H1
  have fin : ∀ {te : TE} {σ : St} {H2 : Hp} {d : PyData}, Ex H H2 → EvN H te σ H2 d → deepOk (0 + 1) d = true ∧ (textOf (0 + 1) d).length ≤ lenT (0) → tRet te { nx := fun _ H' => Q .non H', rt := Q } σ H2 := fun e h g => s_retN h fun v H3 e3 r => kk v H3 (e.trans e3) ⟨_, r, g⟩
  have strs5 : ∀ {σ : St} {H2 : Hp} (a b c d e : Str), a.length ≤ 100000 → b.length ≤ 100000 → c.length ≤ 100000 → d.length ≤ 100000 → e.length ≤ 100000 → EvD (tLst (tCons (tC (.str a)) (tCons (tC (.str b)) (tCons (tC (.str c)) (tCons (tC (.str d)) (tCons (tC (.str e)) tNil)))))) σ H2 (.list ([a, b, c, d, e].map PyData.str)) := fun a b c d e ha hb hc hd he => ed_lst (eds_cons (ed_c (.str a ha)) (eds_cons (ed_c (.str b hb)) (eds_cons (ed_c (.str c hc)) (eds_cons (ed_c (.str d hd)) (eds_cons (ed_c (.str e he)) eds_nil))))) (by simp)
  have hdm : ∀ {o4 o5 o6 : Option V} {H2 : Hp} (b c : Int), 0 < b → b < 1073741824 → 0 < c → EvD (tOp (rI (fun x j => 0 < j) fun i j => V.int (i % j)) (tOp (rI (fun x j => 0 < j ∧ j < 1073741824) fun i j => V.int (i / j)) (tVar 3) (tC (.int b))) (tC (.int c))) [some (.int more), some (.int ((0 : Nat) : Int)), some (.ref a), some (.int here), o4, o5, o6] H2 (.int (here / b % c)) := fun b c hb hb' hc => ed_I (i := here / b) (j := c) (ed_I (i := here) (j := b) (ed_var rfl (.int _)) (ed_c (.int b)) ⟨hb, hb'⟩ (.int _)) (ed_c (.int c)) hc (.int _)
  have hmo : ∀ {o4 o5 o6 : Option V} {H2 : Hp} (c : Int), 0 < c → EvD (tOp (rI (fun x j => 0 < j) fun i j => V.int (i % j)) (tVar 3) (tC (.int c))) [some (.int more), some (.int ((0 : Nat) : Int)), some (.ref a), some (.int here), o4, o5, o6] H2 (.int (here % c)) := fun c hc => ed_I (i := here) (j := c) (ed_var rfl (.int _)) (ed_c (.int c)) hc (.int _)
  have nat : ∀ (x c : Int), 0 < c → ∃ m : Nat, x % c = (m : Int) ∧ (m : Int) < c := fun x c hc => ⟨(x % c).toNat, by have := Int.emod_nonneg x (b := c) (by omega); omega, by have := Int.emod_nonneg x (b := c) (by omega); have := Int.emod_lt_of_pos x (b := c) hc; omega⟩
  refine Evl.q_when (b := decide (((0 : Nat) : Int) = 0) || decide (more % 4 = 0)) (Evl.et_or (Evl.et_test (ed_eqI (i := ((0 : Nat) : Int)) (ed_var rfl (.int _)) (ed_c (.int 0))).vb) fun _ => Evl.et_test (ed_eqI (i := more % 4) (ed_I (i := more) (j := 4) (ed_var rfl (.int _)) (ed_c (.int 4)) (by decide) (.int _)) (ed_c (.int 0))).vb) (fun hc H2 e2 => ?_) (fun hc H2 e2 => ?_)
  · have e02 := e1.trans e2
    have ra2 := ra.ext (exN e02)
    refine Evl.q_when (b := true && decide (here % 3 = 0)) (Evl.et_and (a := true) (Evl.et_is (Evl.et_test (ed_ne (d := .list (namesL.map PyData.str)) (e := .list []) (ed_var rfl ra2) (ed_lst eds_nil (by simp)) shaped_names (by decide +kernel)).vb) (by decide +kernel)) fun _ => Evl.et_test (ed_eqI (i := here % 3) (hmo 3 (by decide)) (ed_c (.int 0))).vb) (fun h3 H3 e3 => ?_) (fun h3 H3 e3 => ?_)
    · have e03 := e02.trans e3
      have ra3 := ra2.ext (exN e3)
      obtain ⟨m, hm1, hm2⟩ := nat (here / 4) 3 (by decide)
      have hml : m < namesL.length := by show m < 3; omega
      refine fin e03 (en_tup e03 (en_cons (en_s (ed_c (v := .str "look") (.str _ (by decide +kernel)))) (en_cons (en_s (z := namesL[m]) (ed_ixL (k := m) (ds := namesL.map PyData.str) (ed_var rfl ra3) (ed_is (d := .int (here / 4 % 3)) (ed_I (i := here / 4) (j := 3) (ed_I (i := here) (j := 4) (ed_var rfl (.int _)) (ed_c (.int 4)) ⟨by decide, by decide⟩ (.int _)) (ed_is (ed_lenQ (ds := namesL.map PyData.str) (ed_var rfl ra3) (.inr rfl)) rfl) (by decide) (.int _)) (by rw [hm1])) (by rw [List.getElem?_map, List.getElem?_eq_getElem hml]; rfl))) en_nil)) (by simp)) (leaf_look (List.getElem_mem _))
    · have e03 := e02.trans e3
      refine Evl.q_when (b := decide (here % 7 = 0)) (Evl.et_test (ed_eqI (i := here % 7) (hmo 7 (by decide)) (ed_c (.int 0))).vb) (fun h4 H4 e4 => ?_) (fun h4 H4 e4 => ?_)
      · have e04 := e03.trans e4
        obtain ⟨m, hm1, hm2⟩ := nat (here / 128) 3 (by decide)
        have q1 := Int.emod_nonneg (here / 8) (b := 10) (by decide)
        have q2 := Int.emod_lt_of_pos (here / 8) (b := 10) (by decide)
        have q3 := Int.emod_nonneg (here / 8) (b := 9) (by decide)
        have q4 := Int.emod_lt_of_pos (here / 8) (b := 9) (by decide)
        obtain ⟨val, hval, hvb⟩ : ∃ val : Int, ([.int (here / 8 % 10), .int (0 - here / 8 % 9), .int 1000000000] : List PyData)[m]? = some (.int val) ∧ val.natAbs ≤ 1000000000 := by
          match m, hm2 with
          | 0, _ => exact ⟨_, rfl, by omega⟩
          | 1, _ => exact ⟨_, rfl, by omega⟩
          | 2, _ => exact ⟨_, rfl, by decide⟩
          | m + 3, h => exact absurd h (by omega)
        exact fin e04 (en_tup e04 (en_cons (en_s (ed_c (v := .str "num") (.str _ (by decide +kernel)))) (en_cons (en_i (i := val) (ed_ixL (k := m) (ds := [.int (here / 8 % 10), .int (0 - here / 8 % 9), .int 1000000000]) (ed_lst (eds_cons (hdm 8 10 (by decide) (by decide) (by decide)) (eds_cons (ed_I0 (i := 0) (ed_c (.int 0)) (hdm 8 9 (by decide) (by decide) (by decide)) (.int _)) (eds_cons (ed_c (.int 1000000000)) eds_nil))) (by simp)) (ed_is (hdm 128 3 (by decide) (by decide) (by decide)) (by rw [hm1])) hval)) en_nil)) (by simp)) (leaf_num hvb)
      · have e04 := e03.trans e4
        obtain ⟨m, hm1, hm2⟩ := nat (here / 8) 5 (by decide)
        have hml : m < readL.length := by show m < 5; omega
        refine (ed_ixL (K := K) (k := m) (d := .str readL[m]) (ds := readL.map PyData.str) (strs5 "at" "sum" "many" "there" "at" (by decide +kernel) (by decide +kernel) (by decide +kernel) (by decide +kernel) (by decide +kernel)) (ed_is (hdm 8 5 (by decide) (by decide) (by decide)) (by rw [hm1])) (by rw [List.getElem?_map, List.getElem?_eq_getElem hml]; rfl)).ts H4 (Ex.refl _) _ fun H5 e5 => ?_
        refine ⟨_, rfl, here, 1, rfl, by decide, by decide, fun nn H6 n0 n1 s6 => ⟨nn, 3, rfl, by decide, by decide, fun k p H7 s7 hp hp7 hk ha => ?_⟩⟩
        refine ⟨Evl.sz_of (by simp), fun b hb => ?_⟩
        have e06 : Ex H H6 := (e04.trans e5).trans s6
        refine kk _ _ ((e06.trans s7).trans (Ex.new hb)) ⟨.tuple [.str readL[m], encK k], ?_, leaf_read (List.getElem_mem _) (by omega) ha⟩
        refine .tup (new_at (Evl.fresh_back (e06.trans s7) hb) upd_same) (.cons (.str _ ?_) (.cons ?_ .nil))
        · exact Nat.le_trans (read_len _ (readL_ok _ (List.getElem_mem _)).1) (by decide)
        · exact .tup (new_at (Evl.fresh_back e06 hp) (Ex.new hb _ _ hp7)) (rs_strs fun y hy => (abc_word y (ha y hy)).2)
  · exact absurd hc (by simp)
theorem ok_LTerm1 {f : Addr} {fd : FuncData} {n : Nat} (F : L2.Fun K "_law_term" "_law_term" sLTerm f fd) (hm : mg "_law_term" = some (.ref f)) (hb : Binds K fd ["more", "deep", "names"] []) (T : Tx K mg) (Dd : Df P w K mg base "_law_drawn" 1 ["cell", "k"] spDrawn) (Dp : Df P w K mg base "_law_path" 2 ["more", "deep"] spLPath)
    (ih : Df P w K mg base "_law_term" (n + 3) ["more", "deep", "names"] (spLTerm n)) : FnOk P w K mg base (L2N.CX P w) (n + 1 + 3) f fd ["more", "deep", "names"] (spLTerm (n + 1)) := by
  refine okN F scLTerm (fun vs H Q E h => by obtain ⟨_, _, rfl, _⟩ := h; rfl) (fun cdv A outer s H vs Q E hr h => ?_)
  obtain ⟨more, a, rfl, ra, kk⟩ := h
  refine ⟨_, pss_cons (ps_set (i := 3) scLTerm.nd rfl (Or.inr rfl) (pe_op op_fdiv (pv 0) pe_int))
    (pss_cons (ps_if (PW.pt (pw_or (pt_cmpR op_eq (pv 1) pe_int (nomark _)) (pw_or1 (pt_cmpR op_eq (pe_op op_mod (pv 0) pe_int) pe_int (nomark _)))))
      (pss_cons (ps_if (PW.pt (pw_and (pt_cmpR (op_neD hr.units) (pv 2) (pe_lst pa_nil) (nomark _)) (pw_and1 (pt_cmpR op_eq (pe_op op_mod (pv 3) pe_int) pe_int (nomark _)))))
        (pss_one (ps_ret (pe_tup (pa_cons pe_str (pa_cons (pe_ix (r := rIxL K) ix_list (pv 2) (pe_op op_mod (pe_op op_fdiv (pv 3) pe_int) (pe_callB call_len_seq (by rfl) T.len PySem.boot_len (pa_cons (pv 2) pa_nil))) (fun _ _ => rfl)) pa_nil))))) pss_nil)
      (pss_cons (ps_if (pt_cmpR op_eq (pe_op op_mod (pv 3) pe_int) pe_int (nomark _))
        (pss_one (ps_ret (pe_tup (pa_cons pe_str (pa_cons (pe_ix (r := rIxL K) ix_list (pe_lst (pa_cons (pe_op op_mod (pe_op op_fdiv (pv 3) pe_int) pe_int) (pa_cons (pe_op op_sub pe_int (pe_op op_mod (pe_op op_fdiv (pv 3) pe_int) pe_int)) (pa_cons pe_int pa_nil)))) (pe_op op_mod (pe_op op_fdiv (pv 3) pe_int) pe_int) (fun _ _ => rfl)) pa_nil))))) pss_nil)
      (pss_one (ps_ret (pe_tup (pa_cons (pe_ix (r := rIxL K) ix_list (pe_lst (pa_cons pe_str (pa_cons pe_str (pa_cons pe_str (pa_cons pe_str (pa_cons pe_str pa_nil)))))) (pe_op op_mod (pe_op op_fdiv (pv 3) pe_int) pe_int) (fun _ _ => rfl)) (pa_cons (pe_df Dp hr (by omega) (by rfl) passN (pa_cons (pe_df Dd hr (by omega) (by rfl) passN (pa_cons (pv 3) (pa_cons pe_int pa_nil))) (pa_cons pe_int pa_nil))) pa_nil))))))) pss_nil)
    (pss_cons (ps_setLc (i := 4) (own := [("j", 6)]) (g := gName 6) (tt := tYes) rfl scLTerm.nd rfl rfl (sw_true rfl rfl rfl rfl) (pi_range1 (by rfl) T.rng (pa_cons pe_int pa_nil)) (blkOk_by (own := [("j", 6)]) (N := ["more", "deep", "names", "here", "row", "way", "j"]) (sc := defScope sLTerm) (by decide +kernel))
      (fun _ _ _ _ _ => pg_name (i := 6) scLTerm.nd rfl (Or.inl rfl)) (fun _ _ _ _ _ => pts_nil) (fun _ _ _ _ _ => pe_df ih hr (Nat.le_refl _) (by rfl) passN (pa_cons (pe_df Dd hr (by omega) (by rfl) passN (pa_cons (pv 3) (pa_cons (pv 6) pa_nil))) (pa_cons (pe_op (r := rI0 fun i j => V.int (i - j)) op_sub (pv 1) pe_int) (pa_cons (pv 2) pa_nil)))))
    (pss_cons (ps_set (i := 5) scLTerm.nd rfl (Or.inl rfl) (pe_op op_mod (pv 3) pe_int))
    (pss_cons (ps_if (pt_cmpR op_lt (pv 5) pe_int (nomark _)) (pss_one (ps_ret (pe_tup (pa_cons (pe_ix (r := rIxL K) ix_list (pe_lst (pa_cons pe_str (pa_cons pe_str (pa_cons pe_str (pa_cons pe_str (pa_cons pe_str pa_nil)))))) (pv 5) (fun _ _ => rfl)) (pa_cons (pe_ix (r := rIxL K) ix_list (pv 4) pe_int (fun _ _ => rfl)) (pa_cons (pe_ix (r := rIxL K) ix_list (pv 4) pe_int (fun _ _ => rfl)) pa_nil)))))) pss_nil)
    (pss_one (ps_ret (pe_tup (pa_cons pe_str (pa_cons (pe_ix (r := rIxL K) ix_list (pv 4) pe_int (fun _ _ => rfl)) (pa_cons (pe_ix (r := rIxL K) ix_list (pv 4) pe_int (fun _ _ => rfl)) (pa_cons (pe_ix (r := rIxL K) ix_list (pv 4) pe_int (fun _ _ => rfl)) pa_nil))))))))))), ?_⟩
  refine q_asgD (d := .int (more / 16)) (ed_I (i := more) (j := 16) (ed_var rfl (.int more)) (ed_c (.int 16)) ⟨by decide, by decide⟩ (.int _)) fun vh H1 e1 r1 => ?_
  generalize hhere : more / 16 = here at r1
  cases r1
  show tSeq _ _ _ [some (.int more), some (.int ((n + 1 : Nat) : Int)), some (.ref a), some (.int here), none, none, none] H1
  have fin : ∀ {te : TE} {σ : St} {H2 : Hp} {d : PyData}, Ex H H2 → EvN H te σ H2 d → deepOk (n + 1 + 1) d = true ∧ (textOf (n + 1 + 1) d).length ≤ lenT (n + 1) → tRet te { nx := fun _ H' => Q .non H', rt := Q } σ H2 := fun e h g => s_retN h fun v H3 e3 r => kk v H3 (e.trans e3) ⟨_, r, g⟩
  have strs5 : ∀ {σ : St} {H2 : Hp} (a b c d e : Str), a.length ≤ 100000 → b.length ≤ 100000 → c.length ≤ 100000 → d.length ≤ 100000 → e.length ≤ 100000 → EvD (tLst (tCons (tC (.str a)) (tCons (tC (.str b)) (tCons (tC (.str c)) (tCons (tC (.str d)) (tCons (tC (.str e)) tNil)))))) σ H2 (.list ([a, b, c, d, e].map PyData.str)) := fun a b c d e ha hb hc hd he => ed_lst (eds_cons (ed_c (.str a ha)) (eds_cons (ed_c (.str b hb)) (eds_cons (ed_c (.str c hc)) (eds_cons (ed_c (.str d hd)) (eds_cons (ed_c (.str e he)) eds_nil))))) (by simp)
  have hdm : ∀ {o4 o5 o6 : Option V} {H2 : Hp} (b c : Int), 0 < b → b < 1073741824 → 0 < c → EvD (tOp (rI (fun x j => 0 < j) fun i j => V.int (i % j)) (tOp (rI (fun x j => 0 < j ∧ j < 1073741824) fun i j => V.int (i / j)) (tVar 3) (tC (.int b))) (tC (.int c))) [some (.int more), some (.int ((n + 1 : Nat) : Int)), some (.ref a), some (.int here), o4, o5, o6] H2 (.int (here / b % c)) := fun b c hb hb' hc => ed_I (i := here / b) (j := c) (ed_I (i := here) (j := b) (ed_var rfl (.int _)) (ed_c (.int b)) ⟨hb, hb'⟩ (.int _)) (ed_c (.int c)) hc (.int _)
  have hmo : ∀ {o4 o5 o6 : Option V} {H2 : Hp} (c : Int), 0 < c → EvD (tOp (rI (fun x j => 0 < j) fun i j => V.int (i % j)) (tVar 3) (tC (.int c))) [some (.int more), some (.int ((n + 1 : Nat) : Int)), some (.ref a), some (.int here), o4, o5, o6] H2 (.int (here % c)) := fun c hc => ed_I (i := here) (j := c) (ed_var rfl (.int _)) (ed_c (.int c)) hc (.int _)
  have nat : ∀ (x c : Int), 0 < c → ∃ m : Nat, x % c = (m : Int) ∧ (m : Int) < c := fun x c hc => ⟨(x % c).toNat, by have := Int.emod_nonneg x (b := c) (by omega); omega, by have := Int.emod_nonneg x (b := c) (by omega); have := Int.emod_lt_of_pos x (b := c) hc; omega⟩
  refine Evl.q_when (b := decide (((n + 1 : Nat) : Int) = 0) || decide (more % 4 = 0)) (Evl.et_or (Evl.et_test (ed_eqI (i := ((n + 1 : Nat) : Int)) (ed_var rfl (.int _)) (ed_c (.int 0))).vb) fun _ => Evl.et_test (ed_eqI (i := more % 4) (ed_I (i := more) (j := 4) (ed_var rfl (.int _)) (ed_c (.int 4)) (by decide) (.int _)) (ed_c (.int 0))).vb) (fun hc H2 e2 => ?_) (fun hc H2 e2 => ?_)
  · have e02 := e1.trans e2
    have ra2 := ra.ext (exN e02)
    refine Evl.q_when (b := true && decide (here % 3 = 0)) (Evl.et_and (a := true) (Evl.et_is (Evl.et_test (ed_ne (d := .list (namesL.map PyData.str)) (e := .list []) (ed_var rfl ra2) (ed_lst eds_nil (by simp)) shaped_names (by decide +kernel)).vb) (by decide +kernel)) fun _ => Evl.et_test (ed_eqI (i := here % 3) (hmo 3 (by decide)) (ed_c (.int 0))).vb) (fun h3 H3 e3 => ?_) (fun h3 H3 e3 => ?_)
    · have e03 := e02.trans e3
      have ra3 := ra2.ext (exN e3)
      obtain ⟨m, hm1, hm2⟩ := nat (here / 4) 3 (by decide)
      have hml : m < namesL.length := by show m < 3; omega
      refine fin e03 (en_tup e03 (en_cons (en_s (ed_c (v := .str "look") (.str _ (by decide +kernel)))) (en_cons (en_s (z := namesL[m]) (ed_ixL (k := m) (ds := namesL.map PyData.str) (ed_var rfl ra3) (ed_is (d := .int (here / 4 % 3)) (ed_I (i := here / 4) (j := 3) (ed_I (i := here) (j := 4) (ed_var rfl (.int _)) (ed_c (.int 4)) ⟨by decide, by decide⟩ (.int _)) (ed_is (ed_lenQ (ds := namesL.map PyData.str) (ed_var rfl ra3) (.inr rfl)) rfl) (by decide) (.int _)) (by rw [hm1])) (by rw [List.getElem?_map, List.getElem?_eq_getElem hml]; rfl))) en_nil)) (by simp)) (leaf_look (List.getElem_mem _))
    · have e03 := e02.trans e3
      refine Evl.q_when (b := decide (here % 7 = 0)) (Evl.et_test (ed_eqI (i := here % 7) (hmo 7 (by decide)) (ed_c (.int 0))).vb) (fun h4 H4 e4 => ?_) (fun h4 H4 e4 => ?_)
      · have e04 := e03.trans e4
        obtain ⟨m, hm1, hm2⟩ := nat (here / 128) 3 (by decide)
        have q1 := Int.emod_nonneg (here / 8) (b := 10) (by decide)
        have q2 := Int.emod_lt_of_pos (here / 8) (b := 10) (by decide)
        have q3 := Int.emod_nonneg (here / 8) (b := 9) (by decide)
        have q4 := Int.emod_lt_of_pos (here / 8) (b := 9) (by decide)
        obtain ⟨val, hval, hvb⟩ : ∃ val : Int, ([.int (here / 8 % 10), .int (0 - here / 8 % 9), .int 1000000000] : List PyData)[m]? = some (.int val) ∧ val.natAbs ≤ 1000000000 := by
          match m, hm2 with
          | 0, _ => exact ⟨_, rfl, by omega⟩
          | 1, _ => exact ⟨_, rfl, by omega⟩
          | 2, _ => exact ⟨_, rfl, by decide⟩
          | m + 3, h => exact absurd h (by omega)
        exact fin e04 (en_tup e04 (en_cons (en_s (ed_c (v := .str "num") (.str _ (by decide +kernel)))) (en_cons (en_i (i := val) (ed_ixL (k := m) (ds := [.int (here / 8 % 10), .int (0 - here / 8 % 9), .int 1000000000]) (ed_lst (eds_cons (hdm 8 10 (by decide) (by decide) (by decide)) (eds_cons (ed_I0 (i := 0) (ed_c (.int 0)) (hdm 8 9 (by decide) (by decide) (by decide)) (.int _)) (eds_cons (ed_c (.int 1000000000)) eds_nil))) (by simp)) (ed_is (hdm 128 3 (by decide) (by decide) (by decide)) (by rw [hm1])) hval)) en_nil)) (by simp)) (leaf_num hvb)
      · have e04 := e03.trans e4
        obtain ⟨m, hm1, hm2⟩ := nat (here / 8) 5 (by decide)
        have hml : m < readL.length := by show m < 5; omega
        refine (ed_ixL (K := K) (k := m) (d := .str readL[m]) (ds := readL.map PyData.str) (strs5 "at" "sum" "many" "there" "at" (by decide +kernel) (by decide +kernel) (by decide +kernel) (by decide +kernel) (by decide +kernel)) (ed_is (hdm 8 5 (by decide) (by decide) (by decide)) (by rw [hm1])) (by rw [List.getElem?_map, List.getElem?_eq_getElem hml]; rfl)).ts H4 (Ex.refl _) _ fun H5 e5 => ?_
        refine ⟨_, rfl, here, 1, rfl, by decide, by decide, fun nn H6 n0 n1 s6 => ⟨nn, 3, rfl, by decide, by decide, fun k p H7 s7 hp hp7 hk ha => ?_⟩⟩
        refine ⟨Evl.sz_of (by simp), fun b hb => ?_⟩
        have e06 : Ex H H6 := (e04.trans e5).trans s6
        refine kk _ _ ((e06.trans s7).trans (Ex.new hb)) ⟨.tuple [.str readL[m], encK k], ?_, leaf_read (List.getElem_mem _) (by omega) ha⟩
        refine .tup (new_at (Evl.fresh_back (e06.trans s7) hb) upd_same) (.cons (.str _ ?_) (.cons ?_ .nil))
        · exact Nat.le_trans (read_len _ (readL_ok _ (List.getElem_mem _)).1) (by decide)
        · exact .tup (new_at (Evl.fresh_back e06 hp) (Ex.new hb _ _ hp7)) (rs_strs fun y hy => (abc_word y (ha y hy)).2)
  · have e02 := e1.trans e2
    refine q_asgLn (n := 3) (P := TermN n) (el_nR1 (σ := [some (.int more), some (.int ((n + 1 : Nat) : Int)), some (.ref a), some (.int here), none, none, none]) (P := TermN n) (jx := 6) (vs := [6]) TermN.ext (hi := 3) (Evl.ea_cons Evl.ev_c Evl.ea_nil) (by decide) (by decide) (fun _ => rfl) (fun i H3 e3 hi Q3 q3 => ?_)) fun D ws H3 hD e3 h3 hl hp => ?_
    · refine ⟨_, rfl, _, rfl, here, (i : Int), rfl, by omega, by omega, fun nn H4 n0 n1 s4 => ?_⟩
      refine (ev_I0 (i := ((n + 1 : Nat) : Int)) (j := 1) (Evl.ev_var rfl) Evl.ev_c) H4 (Ex.refl _) _ fun H5 e5 => ?_
      refine ⟨_, rfl, nn, a, ?_, ra.ext (exN (((e02.trans e3).trans s4).trans e5)), fun v H6 s6 t6 => q3 v H6 ((s4.trans e5).trans s6) (TermN.ext _ _ _ (new_back (s4.trans e5)) t6)⟩
      show [V.int nn, V.int (((n + 1 : Nat) : Int) - 1), V.ref a] = [V.int nn, V.int (n : Int), V.ref a]
      congr 3
      omega
    · have e03 := e02.trans e3
      match ws, hl with
      | [v0, v1, v2], _ =>
        obtain ⟨d0, r0, g0, l0⟩ := hp 0 v0 rfl
        obtain ⟨d1, r1, g1, l1⟩ := hp 1 v1 rfl
        obtain ⟨d2, r2, g2, l2⟩ := hp 2 v2 rfl
        have r0 := r0.ext (exN (new_back e02))
        have r1 := r1.ext (exN (new_back e02))
        have r2 := r2.ext (exN (new_back e02))
        show tSeq _ _ _ [some (.int more), some (.int ((n + 1 : Nat) : Int)), some (.ref a), some (.int here), some (.ref D), none, none] H3
        obtain ⟨m, hm1, hm2⟩ := nat here 8 (by decide)
        refine q_asgD (d := .int m) (ed_is (hmo 8 (by decide)) (by rw [hm1])) fun vw H4 e4 r4 => ?_
        cases r4
        show tSeq _ _ _ [some (.int more), some (.int ((n + 1 : Nat) : Int)), some (.ref a), some (.int here), some (.ref D), some (.int (m : Int)), none] H4
        have row : ∀ {H5 : Hp} (j : Nat) (v : V) (d : PyData), Ex H3 H5 → ([v0, v1, v2] : List V)[j]? = some v → R (newOf H H3) v d → EvN H (tOp (rIxL K) (tVar 4) (tC (.int j))) [some (.int more), some (.int ((n + 1 : Nat) : Int)), some (.ref a), some (.int here), some (.ref D), some (.int (m : Int)), none] H5 d := fun j v d e hj r => en_v (v := v) (fun H6 e6 Q6 q6 => ⟨_, rfl, D, _, _, v, rfl, rfl, .inl (.inl (e6 _ _ (e _ _ h3))), atI_nat hj, q6 H6 (Ex.refl _)⟩) (r.ext (exN (new_ext e)))
        refine Evl.q_when (b := decide ((m : Int) < 5)) (Evl.et_test (Evl.ev_op (x := .int m) (y := .int 5) (Evl.ev_var rfl) Evl.ev_c Evl.rv_I0)) (fun h5 H5 e5 => ?_) (fun h5 H5 e5 => ?_)
        · have e35 := e4.trans e5
          have h5' := of_decide_eq_true h5
          have hml : m < twoL.length := by show m < 5; omega
          exact fin (e03.trans e35) (en_tup (e03.trans e35) (en_cons (en_s (z := twoL[m]) (ed_ixL (k := m) (ds := twoL.map PyData.str) (strs5 "plus" "less" "times" "same" "below" (by decide +kernel) (by decide +kernel) (by decide +kernel) (by decide +kernel) (by decide +kernel)) (ed_var rfl (.int _)) (by rw [List.getElem?_map, List.getElem?_eq_getElem hml]; rfl))) (en_cons (row 0 v0 d0 e35 rfl r0) (en_cons (row 1 v1 d1 e35 rfl r1) en_nil))) (by simp)) (node_two (List.getElem_mem _) g0 g1 l0 l1)
        · have e35 := e4.trans e5
          exact fin (e03.trans e35) (en_tup (e03.trans e35) (en_cons (en_s (ed_c (v := .str "when") (.str _ (by decide +kernel)))) (en_cons (row 0 v0 d0 e35 rfl r0) (en_cons (row 1 v1 d1 e35 rfl r1) (en_cons (row 2 v2 d2 e35 rfl r2) en_nil)))) (by simp)) (node_when g0 g1 g2 l0 l1 l2)
theorem ok_LTerm {f : Addr} {fd : FuncData} (F : L2.Fun K "_law_term" "_law_term" sLTerm f fd) (hm : mg "_law_term" = some (.ref f)) (hb : Binds K fd ["more", "deep", "names"] []) (T : Tx K mg) (Dd : Df P w K mg base "_law_drawn" 1 ["cell", "k"] spDrawn) (Dp : Df P w K mg base "_law_path" 2 ["more", "deep"] spLPath) :
    ∀ n, FnOk P w K mg base (L2N.CX P w) (n + 3) f fd ["more", "deep", "names"] (spLTerm n)
  | 0 => ok_LTerm0 F hm hb T Dd Dp
  | n + 1 => ok_LTerm1 F hm hb T Dd Dp ⟨f, fd, hm, F.kp, hb, ok_LTerm F hm hb T Dd Dp n⟩
def spLTermU : Sp := fun vs H Q E => ∃ n, n ≤ 4 ∧ spLTerm n vs H Q E
theorem ok_LTermU {f : Addr} {fd : FuncData} (F : L2.Fun K "_law_term" "_law_term" sLTerm f fd) (hm : mg "_law_term" = some (.ref f)) (hb : Binds K fd ["more", "deep", "names"] []) (T : Tx K mg) (Dd : Df P w K mg base "_law_drawn" 1 ["cell", "k"] spDrawn) (Dp : Df P w K mg base "_law_path" 2 ["more", "deep"] spLPath) :
    Df P w K mg base "_law_term" 7 ["more", "deep", "names"] spLTermU :=
  ⟨f, fd, hm, F.kp, hb, ⟨fun vs H Q E ⟨n, _, h⟩ => (ok_LTerm F hm hb T Dd Dp n).len vs H Q E h, fun A outer s H args us vs Q E hr he hb' hv ⟨n, hn, h⟩ => (ok_LTerm F hm hb T Dd Dp n).run A outer s H args us vs Q E (hr.mono (by omega)) he hb' hv h⟩⟩
end
end Lk
set_option Elab.async false
set_option linter.all false
set_option maxRecDepth 100000
set_option maxHeartbeats 4000000
/-! Signs and lengths of the texts; bent texts. -/
namespace Lk
open PySem PySem.Spec PyProof.Rows L2 HotX L2H LamX
open TL
def Low (z : Str) : Prop := ∀ c ∈ tl z, c < 1000
theorem low_app {x y : Str} (hx : Low x) (hy : Low y) : Low (x ++ y) := fun c hc => by
  rw [tl_append] at hc
  exact (List.mem_append.mp hc).elim (hx c) (hy c)
def lowB (z : Str) : Bool := (tl z).all fun c => decide (c < 1000)
theorem low_of {z : Str} (h : lowB z = true) : Low z := fun c hc => of_decide_eq_true (List.all_eq_true.mp h c hc)
theorem low_ok {z : Str} (h : Low z) : PyData.strOk z = true := ok_tl.mpr fun c hc => Nat.lt_trans (h c hc) (by decide)
theorem low_word {z : Str} (h : isWord (.str z) = true) : Low z := fun c hc => by have := word_sign h c hc; omega
theorem low_path {d : PyData} (h : isPath d = true) : Low (pathText d) := fun c hc => by have := path_sign h c hc; omega
theorem low_num (i : Int) : Low (numT i) := fun c hc => by have := num_sign i c hc; omega
theorem read_low : ∀ z ∈ readW, lowB z = true := by decide +kernel
theorem two_low : ∀ z ∈ twoW, lowB z = true := by decide +kernel
theorem low_text : ∀ (n : Nat) (d : PyData), deepOk n d = true → Low (textOf n d)
  | 0, d, h => by cases h
  | n + 1, d, h => by
    have dt := deepT_of h
    generalize htx : textOf (n + 1) d = tx at dt
    have b1 : Low blS := low_of (by decide +kernel)
    have b2 : Low opS := low_of (by decide +kernel)
    have b3 : Low clS := low_of (by decide +kernel)
    have b4 : Low whS := low_of (by decide +kernel)
    have b5 : Low thS := low_of (by decide +kernel)
    have b6 : Low elS := low_of (by decide +kernel)
    cases dt with
    | @num x hx => exact low_num _
    | @read z x hz h0 hx => exact low_app (low_app (low_of (read_low z hz)) b1) (low_path hx)
    | @look x hx => exact low_app (low_app (low_of (by decide +kernel)) b1) (low_word (by rw [← word_str hx]; exact hx))
    | @when x y w hx hy hw => exact low_app (low_app (low_app (low_app (low_app (low_app b4 (low_text n x hx)) b5) (low_text n y hy)) b6) (low_text n w hw)) b3
    | @two z x y hz h0 h1 h2 hx hy => exact low_app (low_app (low_app (low_app (low_app (low_app b2 (low_text n x hx)) b1) (low_of (two_low z hz))) b1) (low_text n y hy)) b3
/-! ### shapes -/
theorem word_ok {z : Str} (h : isWord (.str z) = true) : PyData.strOk z = true := low_ok (low_word h)
theorem path_lay {d : PyData} (h : isPath d = true) : PyData.canLay0 d = true ∧ PyData.depth d ≤ 1 := by
  obtain ⟨zs, rfl, _, _, hw⟩ := path_strs h
  have c : ∀ l : List Str, (∀ z ∈ l, isWord (.str z) = true) → PyData.canLayAll0 (l.map PyData.str) = true ∧ PyData.depthAll (l.map PyData.str) = 0 := by
    intro l
    induction l with
    | nil => intro _; exact ⟨rfl, rfl⟩
    | cons x r ih =>
      intro hl
      obtain ⟨c1, c2⟩ := ih fun z hz => hl z (List.mem_cons_of_mem _ hz)
      have hx := word_ok (hl x List.mem_cons_self)
      exact ⟨by simp only [List.map_cons, PyData.canLayAll0, PyData.canLay0, hx, c1, Bool.and_self], by simp only [List.map_cons, PyData.depthAll, PyData.depth, c2]; rfl⟩
  obtain ⟨c1, c2⟩ := c zs hw
  exact ⟨by simp [PyData.canLay0, c1], by simp [PyData.depth, c2]⟩
theorem read_ok : ∀ z ∈ readW, PyData.strOk z = true := by decide +kernel
theorem two_ok : ∀ z ∈ twoW, PyData.strOk z = true := by decide +kernel
theorem deep_lay : ∀ (n : Nat) (d : PyData), deepOk n d = true → PyData.canLay0 d = true ∧ PyData.depth d ≤ n + 1
  | 0, d, h => by cases h
  | n + 1, d, h => by
    have dt := deepT_of h
    generalize htx : textOf (n + 1) d = tx at dt
    have s1 : PyData.strOk "num" = true := by decide +kernel
    have s2 : PyData.strOk "look" = true := by decide +kernel
    have s3 : PyData.strOk "when" = true := by decide +kernel
    cases dt with
    | @num x hx =>
      obtain ⟨ex, _⟩ := num_int hx
      rw [ex]
      exact ⟨by simp [PyData.canLay0, PyData.canLayAll0, s1], by simp [PyData.depth, PyData.depthAll]⟩
    | @read z x hz h0 hx =>
      obtain ⟨a, b⟩ := path_lay hx
      refine ⟨by simp [PyData.canLay0, PyData.canLayAll0, read_ok z hz, a], ?_⟩
      simp [PyData.depth, PyData.depthAll]
      omega
    | @look x hx =>
      have ex := word_str hx
      have hw := word_ok (z := strOf x) (by rw [← ex]; exact hx)
      rw [ex]
      exact ⟨by simp [PyData.canLay0, PyData.canLayAll0, s2, hw], by simp [PyData.depth, PyData.depthAll]⟩
    | @when x y w hx hy hw =>
      obtain ⟨a1, b1⟩ := deep_lay n x hx
      obtain ⟨a2, b2⟩ := deep_lay n y hy
      obtain ⟨a3, b3⟩ := deep_lay n w hw
      refine ⟨by simp [PyData.canLay0, PyData.canLayAll0, s3, a1, a2, a3], ?_⟩
      simp [PyData.depth, PyData.depthAll]
      omega
    | @two z x y hz h0 h1 h2 hx hy =>
      obtain ⟨a1, b1⟩ := deep_lay n x hx
      obtain ⟨a2, b2⟩ := deep_lay n y hy
      refine ⟨by simp [PyData.canLay0, PyData.canLayAll0, two_ok z hz, a1, a2], ?_⟩
      simp [PyData.depth, PyData.depthAll]
      omega
theorem deep_shaped {n : Nat} {d : PyData} (hn : n ≤ 8) (h : deepOk n d = true) : SeqAt.shaped d = true := by
  obtain ⟨a, b⟩ := deep_lay n d h
  cases n with
  | zero => cases h
  | succ n =>
    cases d with
    | tuple ds => simp [SeqAt.shaped, a]; omega
    | _ => cases h
/-! ### states -/
theorem row_low {ds : List (PyData × PyData)} {k : List Str} (h : isPath (encK k) = true) : Low (rowT ds k) := low_app (low_app (low_path h) (low_of (by decide +kernel))) (low_num _)
theorem state_low {l : Ps} (hn : (l.map Prod.fst).Nodup) (g : GoodL l) (hl : l.length ≤ 10) : Low (stateText (.dict (dsOf l))) ∧ (stateText (.dict (dsOf l))).length ≤ 400 := by
  have hks : ∀ k ∈ isortK (keysOf (dsOf l)), isPath (encK k) = true ∧ (valOf (dsOf l) k).natAbs ≤ 1000000000 := fun k hk => by
    rw [keys_ds] at hk
    have hm := key_val hn ((isortK_perm _).mem_iff.mp hk)
    exact ⟨path_abc (g.len _ hm).2 (g.abc _ hm), g.num _ hm⟩
  show Low (Txt.join nlS ((isortK (keysOf (dsOf l))).map (rowT (dsOf l)))) ∧ (Txt.join nlS ((isortK (keysOf (dsOf l))).map (rowT (dsOf l)))).length ≤ 400
  have hlen : ((isortK (keysOf (dsOf l))).map (rowT (dsOf l))).length = l.length := by rw [List.length_map, (isortK_perm _).length_eq, keys_ds, List.length_map]
  constructor
  · intro c hc
    rw [join_eq, tl_join] at hc
    rcases joinL_mem _ _ c hc with h | ⟨p, hp, hc⟩
    · have : tl nlS = [10] := by decide +kernel
      rw [this] at h
      have := List.mem_singleton.mp h
      omega
    · obtain ⟨z, hz, rfl⟩ := List.mem_map.mp hp
      obtain ⟨k, hk, rfl⟩ := List.mem_map.mp hz
      exact row_low (hks k hk).1 c hc
  · show (Builtin.Str.glued nlS _).length ≤ 400
    rw [size_glued]
    have h1 := sum_le (zs := (isortK (keysOf (dsOf l))).map (rowT (dsOf l))) (k := 39) fun z hz => by
      obtain ⟨k, hk, rfl⟩ := List.mem_map.mp hz
      exact rowT_len (hks k hk).1 (hks k hk).2
    have h2 : nlS.length = 1 := by decide +kernel
    rw [h2, hlen]
    rw [hlen] at h1
    omega
/-! ### bent texts -/
theorem cut_to (z : Str) (m : Nat) : tl (cutS z none (some (m : Int))) = (tl z).take m := by
  show (cutS z none (some (m : Int))).cps.toList = z.cps.toList.take m
  unfold cutS
  rw [HT.sIx_nat, HT.sIx_none]
  show List.take _ _ = _
  rw [List.drop_zero, Nat.sub_zero]
  have hl : z.length = z.cps.toList.length := by simp [Str.length]
  by_cases h : m ≤ z.length
  · rw [Nat.min_eq_left h]
  · rw [Nat.min_eq_right (by omega), List.take_of_length_le (by omega), List.take_of_length_le (by omega)]
theorem cut_from (z : Str) (m : Nat) : tl (cutS z (some (m : Int)) none) = (tl z).drop m := by
  show (cutS z (some (m : Int)) none).cps.toList = z.cps.toList.drop m
  unfold cutS
  rw [HT.sIx_nat, HT.sIx_none]
  show List.take _ _ = _
  have hl : z.length = z.cps.toList.length := by simp [Str.length]
  by_cases h : m ≤ z.length
  · rw [Nat.min_eq_left h]
    exact List.take_of_length_le (by rw [List.length_drop]; omega)
  · rw [Nat.min_eq_right (by omega), List.drop_eq_nil_of_le (by omega), List.drop_eq_nil_of_le (by omega), List.take_nil]
theorem bent_ok {own mid : Str} {m k : Nat} (h : Low own) (hm : Low mid) (h1 : mid.length ≤ 1) (hl : own.length ≤ 1894) :
    Low (cutS own none (some (m : Int)) ++ mid ++ cutS own (some ((m + k : Nat) : Int)) none) ∧ (cutS own none (some (m : Int)) ++ mid ++ cutS own (some ((m + k : Nat) : Int)) none).length ≤ 1895 := by
  constructor
  · refine low_app (low_app (fun c hc => ?_) hm) (fun c hc => ?_)
    · rw [cut_to] at hc; exact h c (List.mem_of_mem_take hc)
    · rw [cut_from] at hc; exact h c (List.mem_of_mem_drop hc)
  · rw [len_app, len_app, len_tl (cutS own none _), len_tl (cutS own (some _) none), cut_to, cut_from, List.length_take, List.length_drop]
    rw [len_tl] at hl
    omega
theorem rows_len {z : Str} (h : z.length ≤ 1895) : (rowsIn z).length ≤ 2000 := by
  unfold rowsIn
  split
  · simp
  · have := (split_len (z := z) (y := nlS) (by decide +kernel) (by decide +kernel)).2
    omega
theorem text_ok {z : Str} (h : Low z) (hl : z.length ≤ 1895) : textOk (.str z) := fun y e => by
  cases e
  exact ⟨by omega, low_ok h⟩
theorem refused_not {n : Nat} {d : PyData} (h : deepOk n d = true) (nm : Str) : PyData.eqv d (refused nm) = false := by
  cases n with
  | zero => cases h
  | succ n =>
    have dt := deepT_of h
    generalize htx : textOf (n + 1) d = tx at dt
    have h1 : ∀ z : Str, z ∈ readW ∨ z = "num" ∨ z = "look" → decide (z = ("refused" : Str)) = false := by
      intro z hz
      rcases hz with hz | hz | hz
      · have : ∀ z ∈ readW, decide (z = ("refused" : Str)) = false := by decide +kernel
        exact this z hz
      · rw [hz]; decide +kernel
      · rw [hz]; decide +kernel
    unfold refused
    cases dt with
    | @num x hx => simp [PyData.eqv, PyData.eqvAll]; exact fun e => absurd (h1 "num" (.inr (.inl rfl))) (by simp [e])
    | @read z x hz h0 hx => simp [PyData.eqv, PyData.eqvAll]; exact fun e => absurd (h1 z (.inl hz)) (by simp [e])
    | @look x hx => simp [PyData.eqv, PyData.eqvAll]; exact fun e => absurd (h1 "look" (.inr (.inr rfl))) (by simp [e])
    | @when x y w hx hy hw => simp [PyData.eqv, PyData.eqvAll]
    | @two z x y hz h0 h1 h2 hx hy => simp [PyData.eqv, PyData.eqvAll]
/-- what was read is what is written so -/
theorem state_sound {z : Str} {l : Ps} (h : stateIn (.str z) = some (.dict (dsOf l))) : isState (.dict (dsOf l)) = true ∧ stateText (.dict (dsOf l)) = z := by
  have h' : (foldRows (rowsIn z) []).bind (fun l => if (isState (.dict (dsOf l)) && decide (stateText (.dict (dsOf l)) = z)) = true then some (PyData.dict (dsOf l)) else none) = some (.dict (dsOf l)) := h
  cases e : foldRows (rowsIn z) [] with
  | none => rw [e] at h'; cases h'
  | some m =>
    rw [e, Option.bind_some] at h'
    split at h'
    · rename_i hc
      have := PyData.dict.inj (Option.some.inj h')
      rw [← this]
      rw [Bool.and_eq_true] at hc
      exact ⟨hc.1, of_decide_eq_true hc.2⟩
    · cases h'
theorem state_len {z : Str} {l : Ps} (hz : (rowsIn z).length ≤ 2000) (h : stateIn (.str z) = some (.dict (dsOf l))) : l.length ≤ 2000 := by
  have h' : (foldRows (rowsIn z) []).bind (fun l => if (isState (.dict (dsOf l)) && decide (stateText (.dict (dsOf l)) = z)) = true then some (PyData.dict (dsOf l)) else none) = some (.dict (dsOf l)) := h
  cases e : foldRows (rowsIn z) [] with
  | none => rw [e] at h'; cases h'
  | some m =>
    rw [e, Option.bind_some] at h'
    split at h'
    · have h1 := PyData.dict.inj (Option.some.inj h')
      have h2 := foldRows_len _ _ _ e
      have h3 := congrArg List.length h1
      rw [dsOf_len, dsOf_len] at h3
      simp at h2
      omega
    · cases h'
theorem term_sound {z : Str} {d : PyData} (h : termIn (.str z) = some d) : deepOk 8 d = true ∧ textOf 8 d = z := by
  have h' : (parseT 8 (wordsOf z)).bind (fun p => if deepOk 8 p.1 = true then (if textOf 8 p.1 = z then some p.1 else none) else none) = some d := h
  cases e : parseT 8 (wordsOf z) with
  | none => rw [e] at h'; cases h'
  | some p =>
    rw [e, Option.bind_some] at h'
    split at h'
    · rename_i h1
      split at h'
      · rename_i h2
        cases h'
        exact ⟨h1, h2⟩
      · cases h'
    · cases h'
/-- a state, or none -/
theorem state_or (d : PyData) : (∃ l, stateIn d = some (.dict (dsOf l))) ∨ stateIn d = none := by
  cases d with
  | str z =>
    show (∃ l, (foldRows (rowsIn z) []).bind (fun l => if (isState (.dict (dsOf l)) && decide (stateText (.dict (dsOf l)) = z)) = true then some (PyData.dict (dsOf l)) else none) = some (.dict (dsOf l))) ∨ (foldRows (rowsIn z) []).bind (fun l => if (isState (.dict (dsOf l)) && decide (stateText (.dict (dsOf l)) = z)) = true then some (PyData.dict (dsOf l)) else none) = none
    cases e : foldRows (rowsIn z) [] with
    | none => exact .inr rfl
    | some m =>
      rw [Option.bind_some]
      by_cases hc : (isState (.dict (dsOf m)) && decide (stateText (.dict (dsOf m)) = z)) = true
      · exact .inl ⟨m, if_pos hc⟩
      · exact .inr (if_neg hc)
  | _ => exact .inr rfl
end Lk
set_option Elab.async false
set_option linter.all false
set_option maxRecDepth 100000
set_option maxHeartbeats 8000000
namespace Lk
open PySem PySem.Spec PyProof.Rows L2 HotX L2H LamX
open Evl (Ev EvL EvA EvT Ex EvU)
abbrev sLaw : Stmt := topS 52
theorem scLaw : FnScope ["script", "k", "more", "state", "term", "text", "words", "j", "here", "own", "at", "sign", "told", "bent"] ["script"] (defScope sLaw) := ⟨rfl, rfl, rfl, by decide +kernel, rfl, by decide +kernel, by decide +kernel⟩
def spLaw (K : PySem.W.Frag) (Pt : Addr) : Sp := fun vs H Q _ => ∃ (a : Addr) (ns : List Int), vs = [.ref a] ∧ SqL K H a (ns.map V.int) ∧ ns.length ≤ 63 ∧ H Pt = some (.tbl #[]) ∧ ∀ H', Q (.bl true) H'
/-- what tells refusals -/
structure Tld (P : Program) (w : World) (K : PySem.W.Frag) (mg : Str → Option Value) (base : Heap) (cs : List Addr) (CL gt fw : Addr) (fdt fdw : FuncData) : Prop where
  FT : L2.Fun K "_law_told" "_law_told" sTold gt fdt
  gt : mg "_law_told" = some (.ref gt)
  bt : Binds K fdt ["deed"] []
  FW : Lz.FnZ P w K mg base 1 fw fdw ["e"] (spWord K cs CL)
  gw : mg "_law_word" = some (.ref fw)
  kw : PySem.W.keepIn K (.ref fw) = true
  bw : Binds K fdw ["e"] []
  gL : mg "LookError" = some (.ref CL)
/-- _law_told(lambda: body) -/
theorem pe_told {X : Cx} {cs : List Addr} {CL gt fw c Pt : Addr} {fdt fdw : FuncData} {k : Nat} {T0 : List (Addr × Str)} {params : Arguments} {body : Expr} {scope : Scope} {t : XK → TE} {p lpos pos : Pos} (D : Tld X.prog X.w X.K X.mg X.base cs CL gt fw fdt fdw) (hg : Gl X "_law_told") (TB : TabB X.base X.mg c Pt) (hcode : X.env.code = .ref c)
    (hmT : (Pt, X.env.qual ++ "<lambda>") ∈ T0) (hu : ∀ p ∈ T0, p.1 = Pt → p.2 = X.env.qual ++ "<lambda>") (hr : Room (k + 2) X.A) (LS : LamS X.env.scope scope) (hdef : defaultsOf params X.env = ([], []))
    (hbind : ∀ (q : Str) (cl : List (Str × Addr)) (pm cv ctv : Value), bindArgs (PySem.W.kla_fn "<lambda>" q params body scope cl pm cv ctv) ⟨[], []⟩ = pure [])
    (hbody : ∀ (A : Around) (outer : List Env) (s : Shared) (H : Hp) (E : XK) (f c' : Addr), Room k (A.deeper (lamEnv X scope s.heap.objs.size f c')) → PE (Lm.lamCxN X A outer s H E scope f c') body (t E)) :
    PE X (.Call (.Name "_law_told" p) [.Lambda params body scope lpos] [] pos) (tLam T0 (TTold X.K cs CL) t) := by
  obtain ⟨FT, gt', bt, FW, gw, kw, bw, gL⟩ := D
  obtain ⟨ocT, odT, kVT, docT, pmT, anT, cdT, ctT, oslT, rfl, lkT, hcT⟩ := FT.ex
  exact Lm.pe_lamN (X := X) (T := T0) (x := "_law_told") (a := "deed") (g := gt) (c := c) (P := Pt) (k := k) hg gt' FT.kp lkT hcT bt scTold rfl (Or.inl rfl) (told_gives (X := X) FW gw kw bw gL) TB hcode hmT hu hr LS hdef hbind hbody
def qLaw : Str := "law.<locals>.<lambda>"
def T1 (Pt : Addr) : List (Addr × Str) := [(Pt, qLaw)]
/-! ### helpers of the law -/
theorem dsOf_inj : ∀ {a b : Ps}, dsOf a = dsOf b → a = b
  | [], [], _ => rfl
  | [], _ :: _, h => by simp [dsOf] at h
  | _ :: _, [], h => by simp [dsOf] at h
  | (k, n) :: a, (l, m) :: b, h => by
    have h' : (encK k, PyData.int n) :: dsOf a = (encK l, PyData.int m) :: dsOf b := h
    injection h' with h1 h2
    injection h1 with h3 h4
    rw [strs_inj (PyData.tuple.inj h3), PyData.int.inj h4, dsOf_inj h2]
theorem path_eqv {d : PyData} (h : isPath d = true) : PyData.eqv d d = true := by
  rw [← encK_strs h, eqv_enc]
  exact decide_eq_true rfl
theorem deep_eqv : ∀ (n : Nat) (d : PyData), deepOk n d = true → PyData.eqv d d = true
  | 0, d, h => by cases h
  | n + 1, d, h => by
    have dt := deepT_of h
    generalize htx : textOf (n + 1) d = tx at dt
    cases dt with
    | @num x hx =>
      obtain ⟨ex, _⟩ := num_int hx
      rw [ex]
      simp [PyData.eqv, PyData.eqvAll]
    | @read z x hz h0 hx => simp [PyData.eqv, PyData.eqvAll, path_eqv hx]
    | @look x hx =>
      rw [word_str hx]
      simp [PyData.eqv, PyData.eqvAll]
    | @when x y w hx hy hw => simp [PyData.eqv, PyData.eqvAll, deep_eqv n x hx, deep_eqv n y hy, deep_eqv n w hw]
    | @two z x y hz h0 h1 h2 hx hy => simp [PyData.eqv, PyData.eqvAll, deep_eqv n x hx, deep_eqv n y hy]
theorem ed_termT {σ : St} {H : Hp} {E : XK} {ta : TE} {d : PyData} {C : Addr} (h : EvD ta σ H d) (hd : deepOk 8 d = true) : EvD (tCall (spTermT C) [] E (tCons ta tNil)) σ H (.str (textOf 8 d)) := fun H1 e Q q =>
  h H1 e _ fun v H2 e2 r => ⟨v, d, rfl, r, fun _ H3 s3 => q _ H3 (e2.trans s3) (.str _ (Nat.le_trans (textOf_len 8 d hd) (Nat.le_trans (lenB_le 8 (by decide)) (by decide)))), fun h => absurd h (by rw [hd]; exact fun z => nomatch z)⟩
theorem ed_termI {σ : St} {H : Hp} {E : XK} {ta : TE} {d e : PyData} {C : Addr} (h : EvD ta σ H d) (hd : textOk d) (he : termIn d = some e) : EvD (tCall (spTermIn C) [] E (tCons ta tNil)) σ H e := fun H1 x Q q =>
  h H1 x _ fun v H2 e2 r => ⟨v, d, rfl, r, hd, fun e' h' v' H3 s3 r3 => by rw [he] at h'; cases h'; exact q v' H3 (e2.trans s3) r3, fun h => absurd h (by rw [he]; exact fun z => nomatch z)⟩
theorem FdAt.keepN {H H' : Hp} {d : Addr} {l : Ps} (h : FdAt H d l) (e : ExtN H H') : FdAt H' d l := ⟨e _ _ h.at_ (fun _ z => nomatch z), h.nd, h.sz⟩
theorem ed_LST {σ : St} {H : Hp} {E : XK} {i : Nat} {q : Addr} {l : Ps} (h0 : σ[i]? = some (some (.ref q))) (f : FdAt H q l) (hs : isState (.dict (dsOf l)) = true) (hl : l.length ≤ 2000) (hz : (stateText (.dict (dsOf l))).length ≤ 100000) : EvD (tCall spLST [] E (tCons (tVar i) tNil)) σ H (.str (stateText (.dict (dsOf l)))) := fun H1 e Q qq =>
  ⟨_, h0, .dict (dsOf l), q, _, rfl, (f.keep e).r, (f.keep e).at_, hs, by show (dsOf l).length ≤ 2000; rw [dsOf_len]; exact hl, fun H2 s2 => qq _ H2 s2 (.str _ hz)⟩
theorem ed_LIS {σ : St} {H : Hp} {E : XK} {i : Nat} {q : Addr} {l : Ps} (h0 : σ[i]? = some (some (.ref q))) (f : FdAt H q l) (hs : isState (.dict (dsOf l)) = true) : EvD (tCall spLIS [] E (tCons (tVar i) tNil)) σ H (.bool true) := fun H1 e Q qq =>
  ⟨_, h0, dsOf l, q, _, rfl, (f.keep e).r, (f.keep e).at_, hs, fun H2 s2 => qq _ H2 s2 (.bl true)⟩
theorem ed_stateT {σ : St} {H : Hp} {E : XK} {i : Nat} {q CS : Addr} {l : Ps} (h0 : σ[i]? = some (some (.ref q))) (f : FdAt H q l) (hs : isState (.dict (dsOf l)) = true) (hl : l.length ≤ 2000) (hz : (stateText (.dict (dsOf l))).length ≤ 100000) : EvD (tCall (spStateT CS) [] E (tCons (tVar i) tNil)) σ H (.str (stateText (.dict (dsOf l)))) := fun H1 e Q qq =>
  ⟨_, h0, .ref q, .dict (dsOf l), rfl, (f.keep e).r, (fun h => absurd h (by rw [hs]; exact fun z => nomatch z)), fun _ => ⟨by show (dsOf l).length ≤ 2000; rw [dsOf_len]; exact hl, ⟨q, _, rfl, (f.keep e).at_⟩, fun H2 s2 => qq _ H2 s2 (.str _ hz)⟩⟩
theorem ed_ixS {σ : St} {H : Hp} {ta tb : TE} {z : Str} {k c : Nat} (h1 : EvD ta σ H (.str z)) (h2 : EvD tb σ H (.int k)) (hz : z.length ≤ 100000) (hk : z.cps.toList[k]? = some c) : EvD (tOp rIxS ta tb) σ H (.str ⟨#[c]⟩) := fun H1 e Q q =>
  h1.ts H1 e _ fun H2 e2 => h2.ti H2 (e.trans e2) _ fun H3 e3 => ⟨z, k, c, rfl, rfl, Evl.sz_of hz, atI_nat hk, q _ H3 (e2.trans e3) (.str _ (by show (#[c] : Array Nat).size ≤ 100000; simp))⟩
def signS : Str := " .()-0a1\n"
theorem sign_low : ∀ c ∈ signS.cps.toList, c < 1000 := by decide +kernel
theorem sign_len : signS.cps.toList.length = 9 ∧ signS.length ≤ 100000 := by decide +kernel
/-- a lambda told, whatever comes of it -/
theorem q_told {K : PySem.W.Frag} {T0 : List (Addr × Str)} {cs : List Addr} {CL : Addr} {σ : St} {H : Hp} {t : XK → TE} {D : Addr} {i j : Nat} {nm : Str} {Dn : Ends} {tz : TS} {G : V → Hp → Prop} (hT : Tabs T0 H) (O : Own K cs CL D i) (hnm : wordsL[i]? = some nm)
    (ht : ∀ H1, ExtN H H1 → ∀ (E : XK) (Q : VK), (∀ H2, Same H1 H2 → E (.ref D) none H2) → (∀ v H2, Same H1 H2 → G v H2 → Q v H2) → t E σ H1 Q)
    (k : ∀ v H2, ExtN H H2 → Tabs T0 H2 → G v H2 ∨ R H2 v (refused nm) → tz Dn (σ.set j (some v)) H2) : tSeq (tAsg (tLam T0 (TTold K cs CL) t) (gName j)) tz Dn σ H :=
  ⟨hT, fun H1 e1 t1 => ht H1 e1 _ _ (fun H2 s2 => ⟨D, i, nm, rfl, rfl, O, hnm, fun v H3 s3 r => k v H3 (e1.trans (ExtN.of (s2.trans s3))) (t1.ext (s2.trans s3)) (.inr r)⟩) fun v H2 s2 g => k v H2 (e1.trans (ExtN.of s2)) (t1.ext s2) (.inl g)⟩
/-- a statement that goes on -/
theorem q_go {s tz : TS} {D : Ends} {σ : St} {H : Hp} (h : ∀ D' : Ends, (∀ H2, Ex H H2 → D'.nx σ H2) → s D' σ H) (k : ∀ H2, Ex H H2 → tz D σ H2) : tSeq s tz D σ H := h _ k
theorem s_forD' {K : PySem.W.Frag} {σ : St} {H : Hp} {Dn : Ends} {tu : TS} {tl : TE} {ds : List PyData} {j : Nat} (h : EvD tl σ H (.list ds)) (In : Nat → St → Hp → Prop) (h0 : ∀ H1, Ex H H1 → In 0 σ H1)
    (hs : ∀ H1 (n : Nat) x d σ' H', Ex H H1 → ds[n]? = some d → R H1 x d → ExtN H1 H' → In n σ' H' → tu { Dn with nx := fun σ2 H2 => In (n + 1) σ2 H2 ∧ ExtN H1 H2, ct := fun σ2 H2 => In (n + 1) σ2 H2 ∧ ExtN H1 H2, bk := Dn.nx } (σ'.set j (some x)) H')
    (hd : ∀ σ' H', In ds.length σ' H' → Dn.nx σ' H') : tFor (iList K tl) (gName j) tu Dn σ H :=
  h H (Ex.refl H) _ fun v H1 e1 r => by
    cases r with
    | @lst p xs _ hp rs =>
      refine ⟨p, rfl, ⟨xs, .inl (.inl hp)⟩, for_list (K := K) (a := p) (xs := xs) (fun n σ' H' => In n σ' H' ∧ ExtN H1 H') ⟨h0 H1 e1, ExtN.refl _⟩ (fun n σ' H' _ hh => .inl (.inl (hh.2 _ _ hp (fun _ z => nomatch z)))) (fun n x σ' H' hx hh => ?_) (fun σ' H' hh => hd σ' H' (by rw [← rs.length]; exact hh.1))⟩
      obtain ⟨d, hd', rx⟩ := rs.get' hx
      exact hs H1 n x d σ' H' e1 hd' rx hh.2 hh.1
def sumS : Str := "sum ."
theorem sum_in : textOk (.str sumS) ∧ termIn (.str sumS) = some (.tuple [.str "sum", .tuple []]) := by
  refine ⟨text_ok (low_of (by decide +kernel)) (by decide +kernel), ?_⟩
  have h := term_back (d := .tuple [.str "sum", .tuple []]) (by decide +kernel)
  have e : textOf 8 (.tuple [.str "sum", .tuple []]) = sumS := by decide +kernel
  rw [e] at h
  exact h

section
variable {P : Program} {w : World} {K : PySem.W.Frag} {mg : Str → Option Value} {base : Heap}
theorem ok_law {f gt fw CL c0 c1 c2 c3 c4 c5 c6 c Pt : Addr} {fdt fdw : FuncData} {oc kV doc pm ct : Value} {od an : Option Addr} {osl : Array (Option Value)}
    (lk : K.lookup f = some ⟨oc, od, .func (PySem.W.fnOf "law" "law" (defArgs sLaw) (defBody sLaw) (defScope sLaw) .none kV doc pm an (.ref c) ct), osl⟩) (hcd : PySem.W.codeIn K (.ref c) "law" = true)
    (T : Tx K mg) (max : mg "max" = none) (min : mg "min" = none) (TD : Tld P w K mg base [c0, c1, c2, c3, c4, c5, c6] CL gt fw fdt fdw) (O6 : Own K [c0, c1, c2, c3, c4, c5, c6] CL c6 6)
    (Dc : Df P w K mg base "_law_cell" 1 ["script", "k"] (spCell K)) (Dd : Df P w K mg base "_law_drawn" 1 ["cell", "k"] spDrawn) (Dls : Df P w K mg base "_law_state" 3 ["more", "many"] spLState) (Dlt : Df P w K mg base "_law_term" 7 ["more", "deep", "names"] spLTermU)
    (Dlst : Df P w K mg base "_law_state_text" 2 ["state"] spLST) (Dltt : Df P w K mg base "_law_term_text" 9 ["term"] (spTextOf 8)) (Dlis : Df P w K mg base "_law_is_state" 1 ["state"] spLIS)
    (Dst : Df P w K mg base "state_text" 5 ["state"] (spStateT c4)) (Dtt : Df P w K mg base "term_text" 13 ["term"] (spTermT c1))
    (Dsi : Df P w K mg base "state_in" 6 ["text"] (spStateIn c6)) (Dti : Lm.Dm P w K mg base "term_in" 21 ["text"] (spTermIn c6))
    (TB : TabB base mg c Pt) :
    FnOk P w K mg base L2.CX0 24 f (PySem.W.fnOf "law" "law" (defArgs sLaw) (defBody sLaw) (defScope sLaw) .none kV doc pm an (.ref c) ct) ["script"] (spLaw K Pt) := by
  refine fn_of lk hcd scLaw (fun vs H Q E h => by obtain ⟨_, _, rfl, _⟩ := h; rfl) (fun A outer s H vs Q E hr h => ?_)
  obtain ⟨a, ns, rfl, hS, hlen, hP, kk⟩ := h
  have hu := hu_of hr
  let X : Cx := (cxOf L2.CX0 P w K mg base ["script", "k", "more", "state", "term", "text", "words", "j", "here", "own", "at", "sign", "told", "bent"] "law" (defScope sLaw) f (.ref c) A outer s H E).nox
  have lamX : ∀ {params : Arguments} {body : Expr} {scope : Scope} {t : XK → TE} {p lpos pos : Pos} (LS : LamS (defScope sLaw) scope) (hdef : defaultsOf params X.env = ([], []))
      (hbind : ∀ (q : Str) (cl : List (Str × Addr)) (pm cv ctv : Value), bindArgs (PySem.W.kla_fn "<lambda>" q params body scope cl pm cv ctv) ⟨[], []⟩ = pure [])
      (hbody : ∀ (A : Around) (outer : List Env) (s : Shared) (H : Hp) (E : XK) (f c' : Addr), Room 21 (A.deeper (lamEnv X scope s.heap.objs.size f c')) → PE (Lm.lamCxN X A outer s H E scope f c') body (t E)),
      PE X (.Call (.Name "_law_told" p) [.Lambda params body scope lpos] [] pos) (tLam (T1 Pt) (TTold K [c0, c1, c2, c3, c4, c5, c6] CL) t) := fun {params body scope t p lpos pos} LS hdef hbind hbody =>
    pe_told (X := X) (Pt := Pt) TD (by rfl) TB rfl List.mem_cons_self
      (fun p hp e => by rw [List.mem_singleton.mp hp]; rfl) (hr.mono (by decide)) LS hdef hbind hbody
  refine ⟨_, PSs.nox (pss_cons (ps_for PassesOwn.never rfl (pi_range1 (by rfl) T.rng (pa_cons (pe_callB (call_max2 rfl) (by rfl) max (by decide +kernel) (pa_cons pe_int (pa_cons (pe_callB (call_min2 rfl) (by rfl) min (by decide +kernel) (pa_cons pe_int (pa_cons (pe_callB call_len_seq (by rfl) T.len PySem.boot_len (pa_cons (pv 0) pa_nil)) pa_nil))) pa_nil))) pa_nil)) (pg_name (i := 1) scLaw.nd rfl (Or.inl rfl)) (pss_cons (ps_set (i := 2) scLaw.nd rfl (Or.inl rfl) (pe_df Dd hr (by decide) (by rfl) passN (pa_cons (pe_df Dc hr (by decide) (by rfl) passN (pa_cons (pv 0) (pa_cons (pv 1) pa_nil))) (pa_cons (pv 1) pa_nil))))
      (pss_cons (ps_par (i := 3) (j := 4) rfl scLaw.nd rfl rfl (by decide) rfl rfl (pa_cons (pe_df Dls hr (by decide) (by rfl) passN (pa_cons (pe_op op_fdiv (pv 2) pe_int) (pa_cons pe_int pa_nil))) (pa_cons (pe_df Dlt hr (by decide) (by rfl) passN (pa_cons (pe_op op_fdiv (pv 2) pe_int) (pa_cons (pe_op op_add pe_int (pe_op op_mod (pv 2) pe_int)) (pa_cons (pe_lst (pa_cons pe_str (pa_cons pe_str (pa_cons pe_str pa_nil)))) pa_nil)))) pa_nil)) rfl)
      (pss_cons (ps_par (i := 5) (j := 6) rfl scLaw.nd rfl rfl (by decide) rfl rfl (pa_cons (pe_df Dlst hr (by decide) (by rfl) passN (pa_cons (pv 3) pa_nil)) (pa_cons (pe_df Dltt hr (by decide) (by rfl) passN (pa_cons (pv 4) pa_nil)) pa_nil)) rfl)
      (pss_cons (ps_if (PW.pt (pw_or (pt_cmpR op_ne (pe_df Dst hr (by decide) (by rfl) passN (pa_cons (pv 3) pa_nil)) (pv 5) (nomark _)) (pw_or1 (pt_cmpR (op_neDT hu) (pe_df Dsi hr (by decide) (by rfl) passN (pa_cons (pv 5) pa_nil)) (pv 3) (nomark _))))) (pss_one (ps_ret pe_bl)) pss_nil)
      (pss_cons (ps_if (PW.pt (pw_or (pt_cmpR op_ne (pe_df Dtt hr (by decide) (by rfl) passN (pa_cons (pv 4) pa_nil)) (pv 6) (nomark _)) (pw_or1 (pt_cmpR (op_neD hr.units) (Lm.pe_dm Dti hr (by decide) (by rfl) Lm.passM (pa_cons (pv 6) pa_nil)) (pv 4) (nomark _))))) (pss_one (ps_ret pe_bl)) pss_nil)
      (pss_one (ps_for PassesOwn.never rfl (pi_range1 (by rfl) T.rng (pa_cons pe_int pa_nil)) (pg_name (i := 7) scLaw.nd rfl (Or.inl rfl)) (pss_cons (ps_set (i := 8) scLaw.nd rfl (Or.inl rfl) (pe_df Dd hr (by decide) (by rfl) passN (pa_cons (pv 2) (pa_cons (pe_op op_add pe_int (pv 7)) pa_nil))))
      (pss_one (ps_for PassesOwn.never rfl (pi_list (pe_lst (pa_cons (pv 5) (pa_cons (pv 6) pa_nil)))) (pg_name (i := 9) scLaw.nd rfl (Or.inl rfl)) (pss_cons (ps_set (i := 10) scLaw.nd rfl (Or.inl rfl) (pe_op op_mod (pv 8) (pe_op op_add (pe_callB call_len_str (by rfl) T.len PySem.boot_len (pa_cons (pv 9) pa_nil)) pe_int)))
      (pss_cons (ps_set (i := 11) scLaw.nd rfl (Or.inl rfl) (pe_ix (r := rIxS) ix_str pe_str (pe_op op_mod (pe_op op_fdiv (pv 8) pe_int) pe_int) (fun _ _ => rfl)))
      (pss_cons (ps_set (i := 13) scLaw.nd rfl (Or.inr rfl) (pe_op op_add_str (pe_op op_add_str (pe_slice sl_str (pv 9) po_none (po_some (pv 10))) (pe_ix (r := rIxL K) ix_list (pe_lst (pa_cons (pv 11) (pa_cons pe_str (pa_cons (pv 11) pa_nil)))) (pe_op op_mod (pe_op op_fdiv (pv 8) pe_int) pe_int) (fun _ _ => rfl))) (pe_slice sl_str (pv 9) (po_some (pe_op op_add (pv 10) (pe_ix (r := rIxL K) ix_list (pe_lst (pa_cons pe_int (pa_cons pe_int (pa_cons pe_int pa_nil)))) (pe_op op_mod (pe_op op_fdiv (pv 8) pe_int) pe_int) (fun _ _ => rfl)))) po_none)))
      (pss_cons (ps_set (i := 12) scLaw.nd rfl (Or.inl rfl) (lamX (t := fun E => tCall (spStateIn c6) [] E (tCons (tVar 13) tNil)) (lamS_by (by decide +kernel)) rfl (fun _ _ _ _ _ => rfl) (fun A outer s H E f c' hr' => (Lm.pe_dm (Lm.Dm.of Dsi) hr' (by decide) (by rfl) (Lm.taken (Lm.takes_of rfl rfl rfl rfl) fun _ _ _ _ h => h) (pa_cons (pv 13) pa_nil)))))
      (pss_cons (ps_if (pt_val (pe_callB (call_isD (T := "dict")) (by rfl) T.isi boot_isinstance (pa_cons (pv 12) (pa_cons (pe_bltn (v := .ty "dict") (by rfl) T.dict (by decide +kernel) rfl) pa_nil)))) (pss_one (ps_if (PW.pt (pw_or (pt_cmpR op_ne (pe_df Dlst hr (by decide) (by rfl) passN (pa_cons (pv 12) pa_nil)) (pv 13) (nomark _)) (pw_or1 (pt_not (pt_val (pe_df Dlis hr (by decide) (by rfl) passN (pa_cons (pv 12) pa_nil))))))) (pss_one (ps_ret pe_bl)) pss_nil)) (pss_one (ps_if (pt_cmpR (op_neD hr.units) (pv 12) (pe_tup (pa_cons pe_str (pa_cons pe_str pa_nil))) (nomark _)) (pss_one (ps_ret pe_bl)) pss_nil)))
      (pss_cons (ps_set (i := 12) scLaw.nd rfl (Or.inl rfl) (lamX (t := fun E => tCall (spTermIn c6) [] E (tCons (tVar 13) tNil)) (lamS_by (by decide +kernel)) rfl (fun _ _ _ _ _ => rfl) (fun A outer s H E f c' hr' => (Lm.pe_dm Dti hr' (by decide) (by rfl) (Lm.taken (Lm.takes_of rfl rfl rfl rfl) fun _ _ _ _ h => h) (pa_cons (pv 13) pa_nil)))))
      (pss_one (ps_if (PW.pt (pw_and (pt_cmpR (op_neD hr.units) (pv 12) (pe_tup (pa_cons pe_str (pa_cons pe_str pa_nil))) (nomark _)) (pw_and1 (pt_cmpR op_ne (pe_df Dltt hr (by decide) (by rfl) passN (pa_cons (pv 12) pa_nil)) (pv 13) (nomark _))))) (pss_one (ps_ret pe_bl)) pss_nil)))))))))))))))))))
      (pss_one (ps_ret (pe_and (pe_cmpR op_eq (pe_df Dst hr (by decide) (by rfl) passN (pa_cons pe_dnewT pa_nil)) pe_str (nomark _)) (pe_and (pe_cmpR (op_eqDT hu) (pe_df Dsi hr (by decide) (by rfl) passN (pa_cons pe_str pa_nil)) pe_dnewT (nomark _)) (pe_one (pe_cmpR (op_eqD hr.units) (Lm.pe_dm Dti hr (by decide) (by rfl) Lm.passM (pa_cons pe_str pa_nil)) (pe_tup (pa_cons pe_str (pa_cons (pe_tup pa_nil) pa_nil))) (nomark _)))))))), ?_⟩
  have hT0 : Tabs (T1 Pt) H := fun p hp => by rw [List.mem_singleton.mp hp]; exact TabS.nil hP
  have sq : ∀ {H1 : Hp}, ExtN H H1 → SqL K H1 a (ns.map V.int) := fun {H1} e => by
    rcases hS with (h | ⟨o, h⟩) | h
    · exact .inl (.inl (e _ _ h (fun _ z => nomatch z)))
    · exact .inl (.inr ⟨o, e _ _ h (fun _ z => nomatch z)⟩)
    · exact .inr h
  have nat : ∀ (x c : Int), 0 < c → ∃ m : Nat, x % c = (m : Int) ∧ (m : Int) < c := fun x c hc => ⟨(x % c).toNat, by have := Int.emod_nonneg x (b := c) (by omega); omega, by have := Int.emod_nonneg x (b := c) (by omega); have := Int.emod_lt_of_pos x (b := c) hc; omega⟩
  refine Evl.q_forR1 (n := if (if (ns.length : Int) < 4 then (ns.length : Int) else 4) > 1 then (if (ns.length : Int) < 4 then (ns.length : Int) else 4) else 1) ?gr (by split <;> split <;> omega)
    (fun i σ' H' => (∃ o1 o2 o3 o4 o5 o6 o7 o8 o9 o10 o11 o12 o13, σ' = [some (.ref a), o1, o2, o3, o4, o5, o6, o7, o8, o9, o10, o11, o12, o13]) ∧ ExtN H H' ∧ Tabs (T1 Pt) H') (fun H1 e1 => ⟨⟨_, _, _, _, _, _, _, _, _, _, _, _, _, rfl⟩, exN e1, hT0.ext e1⟩) (fun i σ' H1 hi ⟨⟨o1, o2, o3, o4, o5, o6, o7, o8, o9, o10, o11, o12, o13, e⟩, x1, t1⟩ => ?_) (fun σ' H1 ⟨⟨o1, o2, o3, o4, o5, o6, o7, o8, o9, o10, o11, o12, o13, e⟩, x1, t1⟩ => ?_)
  case gr =>
    refine Evl.ea_cons (Evl.ev_max2 Evl.ev_c ?_) Evl.ea_nil
    intro H1 e1 Q1 q1
    refine ⟨_, rfl, a, ns.map V.int, rfl, .inl (sq (exN e1)), 4, _, rfl, ?_⟩
    rw [List.length_map]
    exact q1 H1 (Ex.refl _)
  · subst e
    have hi4 : (i : Int) < 4 := by
      revert hi
      split <;> split <;> omega
    show tSeq _ _ _ [some (.ref a), some (.int (i : Int)), o2, o3, o4, o5, o6, o7, o8, o9, o10, o11, o12, o13] H1
    refine q_drawnC (K := K) (a := a) (ns := ns) (k := (i : Int)) (Evl.ev_var rfl) (Evl.ev_var rfl) (Evl.ev_var rfl) (fun H2 e2 => sq (x1.trans (exN e2))) (by omega) (by omega) (by omega) fun more H2 m0 m1 e2 => ?_
    show tSeq _ _ _ [some (.ref a), some (.int (i : Int)), some (.int more), o3, o4, o5, o6, o7, o8, o9, o10, o11, o12, o13] H2
    -- the state and the term
    refine (ev_I (K := K) (C := fun x j => (0 : Int) < j ∧ j < 1073741824) (g := fun i j => V.int (i / j)) (i := more) (j := 8) (Evl.ev_var rfl) Evl.ev_c ⟨by decide, by decide⟩) H2 (Ex.refl _) _ fun H3 e3 => ⟨more / 8, 10, rfl, by decide, by decide, fun l q H4 s4 hq fl gl hl => ?_⟩
    refine (ev_I (K := K) (C := fun x j => (0 : Int) < j ∧ j < 1073741824) (g := fun i j => V.int (i / j)) (i := more) (j := 64) (Evl.ev_var rfl) Evl.ev_c ⟨by decide, by decide⟩) H4 (Ex.refl _) _ fun H5 e5 => ?_
    refine (ev_I0 (g := fun i j => V.int (i + j)) (i := 1) (j := more % 4) Evl.ev_c (ev_I (K := K) (C := fun x j => (0 : Int) < j) (g := fun i j => V.int (i % j)) (i := more) (j := 4) (Evl.ev_var rfl) Evl.ev_c (by decide))) H5 (Ex.refl _) _ fun H6 e6 => ?_
    refine (ed_lst (ds := namesL.map PyData.str) (eds_cons (ed_c (v := .str "a") (.str _ (by decide +kernel))) (eds_cons (ed_c (v := .str "look") (.str _ (by decide +kernel))) (eds_cons (ed_c (v := .str "when") (.str _ (by decide +kernel))) eds_nil))) (by decide +kernel)) H6 (Ex.refl _) _ fun vl H7 e7 rl => ?_
    obtain ⟨m, hm1, hm2⟩ := nat more 4 (by decide)
    obtain ⟨al, rfl⟩ : ∃ al, vl = .ref al := by cases rl; exact ⟨_, rfl⟩
    refine ⟨m + 1, by omega, more / 64, al, ?_, rl, fun v H8 s8 ⟨d, rd0, gd0, ld0⟩ => ⟨_, _, rfl, ?_⟩⟩
    · show [V.int (more / 64), V.int (1 + more % 4), V.ref al] = [V.int (more / 64), V.int ((m + 1 : Nat) : Int), V.ref al]
      congr 3
      omega
    obtain ⟨gd, et⟩ := deep_le (m := 8) gd0 (by omega)
    have ld : (textOf 8 d).length ≤ 1894 := by rw [et]; exact Nat.le_trans ld0 (lenT_le _ (by omega))
    have rd : R H8 v d := rd0.ext (exN (new_sub _ _))
    have hst := good_state gl
    have e48 : Ex H4 H8 := ((e5.trans e6).trans e7).trans s8
    have fl8 := fl.keep e48
    have e18 : Ex H1 H8 := ((e2.trans e3).trans s4).trans e48
    have hl10 : l.length ≤ 10 := by omega
    have hnd := fl.nd
    obtain ⟨lowT, lenX⟩ := state_low hnd gl hl10
    have lowW := low_text 8 d gd
    have hback := state_back hnd gl
    have hbackT := term_back gd
    have hsh := deep_shaped (by decide) gd
    have hev := deep_eqv 8 d gd
    show tSeq _ _ _ [some (.ref a), some (.int (i : Int)), some (.int more), some (.ref q), some v, o5, o6, o7, o8, o9, o10, o11, o12, o13] H8
    refine (ed_LST rfl fl8 hst (by omega) (by omega)).ts H8 (Ex.refl _) _ fun H9 e9 => ?_
    refine (ed_textOf (n := 8) (ed_var rfl (rd.ext (exN e9))) gd (by decide)).ts H9 (Ex.refl _) _ fun H10 e10 => ⟨_, _, rfl, ?_⟩
    generalize htext : stateText (.dict (dsOf l)) = text at lowT lenX hback
    generalize hwords : textOf 8 d = words at ld lowW hbackT
    show tSeq _ _ _ [some (.ref a), some (.int (i : Int)), some (.int more), some (.ref q), some v, some (.str text), some (.str words), o7, o8, o9, o10, o11, o12, o13] H10
    have e8A : Ex H8 H10 := e9.trans e10
    have flA := fl8.keep e8A
    have rdA := rd.ext (exN e8A)
    have rtx : ∀ {H : Hp}, R H (.str text) (.str text) := .str _ (by omega)
    have rwd : ∀ {H : Hp}, R H (.str words) (.str words) := .str _ (by omega)
    refine Evl.q_when (b := false) (Evl.et_is (Evl.et_or (a := false) (b := false) (Evl.et_is (Evl.et_test (ed_neS (x := text) (y := text) (ed_is (ed_stateT rfl flA hst (by omega) (by rw [htext]; omega)) (by rw [htext])) (ed_var rfl rtx)).vb) (by simp)) fun _ => ?nedt) rfl) (fun z => by cases z) (fun _ H11 e11 => ?_)
    case nedt =>
      intro Hx ex Qx qx
      refine ⟨_, rfl, .str text, .str text, rfl, rtx, fun z hz => by cases hz; exact rows_len (by omega), fun l' hl' q2 Hy sy hq2 fy => ?_, fun hn => absurd hn (by rw [hback]; exact fun z => nomatch z)⟩
      rw [hback] at hl'
      have hle : srtP l = l' := dsOf_inj (PyData.dict.inj (Option.some.inj hl'))
      subst hle
      exact ⟨_, rfl, same_back fy ((flA.keep ex).keep sy), false, rfl, qx Hy sy⟩
    have flB := flA.keep e11
    have rdB := rdA.ext (exN e11)
    refine Evl.q_when (b := false) (Evl.et_is (Evl.et_or (a := false) (b := false) (Evl.et_is (Evl.et_test (ed_neS (x := words) (y := words) (ed_is (ed_termT (ed_var rfl rdB) gd) (by rw [hwords])) (ed_var rfl rwd)).vb) (by simp)) fun _ => Evl.et_is (Evl.et_test (ed_ne (d := d) (e := d) (ed_termI (ed_var rfl rwd) (text_ok lowW (by omega)) hbackT) (ed_var rfl rdB) hsh hsh).vb) (by rw [hev]; rfl)) rfl) (fun z => by cases z) (fun _ H12 e12 => ?_)
    have x12 : ExtN H H12 := x1.trans (exN (((e18.trans e8A).trans e11).trans e12))
    have t12 := t1.ext (((e18.trans e8A).trans e11).trans e12)
    -- bent texts
    refine Evl.s_forR1 (n := 6) (Evl.ea_cons Evl.ev_c Evl.ea_nil) (by decide) (fun j σ' H' => (∃ o7 o8 o9 o10 o11 o12 o13, σ' = [some (.ref a), some (.int (i : Int)), some (.int more), some (.ref q), some v, some (.str text), some (.str words), o7, o8, o9, o10, o11, o12, o13]) ∧ ExtN H H' ∧ Tabs (T1 Pt) H') (fun H13 e13 => ⟨⟨_, _, _, _, _, _, _, rfl⟩, x12.trans (exN e13), t12.ext e13⟩) (fun j σ' H13 hj ⟨⟨p7, p8, p9, p10, p11, p12, p13, e⟩, x13, t13⟩ => ?_) (fun σ' H13 ⟨⟨p7, p8, p9, p10, p11, p12, p13, e⟩, x13, t13⟩ => ?_)
    · subst e
      show tSeq _ _ _ [some (.ref a), some (.int (i : Int)), some (.int more), some (.ref q), some v, some (.str text), some (.str words), some (.int (j : Int)), p8, p9, p10, p11, p12, p13] H13
      refine q_drawn (c := more) (k := 30 + (j : Int)) (Evl.ev_var rfl) (ev_I0 (g := fun i j => V.int (i + j)) (i := 30) (j := (j : Int)) Evl.ev_c (Evl.ev_var rfl)) (by omega) (by omega) fun here H14 n0 n1 e14 => ?_
      show tFor _ _ _ _ [some (.ref a), some (.int (i : Int)), some (.int more), some (.ref q), some v, some (.str text), some (.str words), some (.int (j : Int)), some (.int here), p9, p10, p11, p12, p13] H14
      refine s_forD' (K := K) (ds := [.str text, .str words]) (ed_lst (eds_cons (ed_var rfl rtx) (eds_cons (ed_var rfl rwd) eds_nil)) (by simp)) (fun n σ' H' => (∃ o9 o10 o11 o12 o13, σ' = [some (.ref a), some (.int (i : Int)), some (.int more), some (.ref q), some v, some (.str text), some (.str words), some (.int (j : Int)), some (.int here), o9, o10, o11, o12, o13]) ∧ ExtN H H' ∧ Tabs (T1 Pt) H') (fun H15 e15 => ⟨⟨_, _, _, _, _, rfl⟩, x13.trans (exN (e14.trans e15)), t13.ext (e14.trans e15)⟩) (fun H15 n y dy σ' H16 e15 hdy ry x16 ⟨⟨r9, r10, r11, r12, r13, e⟩, x0, t16⟩ => ?_) (fun σ' H15 ⟨⟨r9, r10, r11, r12, r13, e⟩, x15, t15⟩ => ?_)
      · subst e
        obtain ⟨own, rfl, lowO, lenO⟩ : ∃ own : Str, dy = .str own ∧ Low own ∧ own.length ≤ 1894 := by
          match n, hdy with
          | 0, hdy => cases hdy; exact ⟨text, rfl, lowT, by omega⟩
          | 1, hdy => cases hdy; exact ⟨words, rfl, lowW, ld⟩
          | n + 2, hdy => simp at hdy
        obtain rfl : y = .str own := by cases ry; rfl
        clear ry
        have row : ∀ {H : Hp}, R H (.str own) (.str own) := .str _ (by omega)
        show tSeq _ _ _ [some (.ref a), some (.int (i : Int)), some (.int more), some (.ref q), some v, some (.str text), some (.str words), some (.int (j : Int)), some (.int here), some (.str own), r10, r11, r12, r13] H16
        obtain ⟨m, hm1, hm2⟩ := nat here ((own.length : Int) + 1) (by omega)
        refine q_asgD (d := .int m) (ed_is (ed_I (i := here) (j := (own.length : Int) + 1) (ed_var rfl (.int _)) (ed_I0 (i := (own.length : Int)) (j := 1) (ed_lenS (ed_var rfl row)) (ed_c (.int 1)) (.int _)) (by show (0 : Int) < (own.length : Int) + 1; omega) (.int _)) (by rw [hm1])) fun v17 H17 e17 r17 => ?_
        cases r17
        show tSeq _ _ _ [some (.ref a), some (.int (i : Int)), some (.int more), some (.ref q), some v, some (.str text), some (.str words), some (.int (j : Int)), some (.int here), some (.str own), some (.int (m : Int)), r11, r12, r13] H17
        have hdm : ∀ {o11 o12 o13 : Option V} {H2 : Hp} (b c : Int), 0 < b → b < 1073741824 → 0 < c → EvD (tOp (rI (fun x j => 0 < j) fun i j => V.int (i % j)) (tOp (rI (fun x j => 0 < j ∧ j < 1073741824) fun i j => V.int (i / j)) (tVar 8) (tC (.int b))) (tC (.int c))) [some (.ref a), some (.int (i : Int)), some (.int more), some (.ref q), some v, some (.str text), some (.str words), some (.int (j : Int)), some (.int here), some (.str own), some (.int (m : Int)), o11, o12, o13] H2 (.int (here / b % c)) := fun b c hb hb' hc => ed_I (i := here / b) (j := c) (ed_I (i := here) (j := b) (ed_var rfl (.int _)) (ed_c (.int b)) ⟨hb, hb'⟩ (.int _)) (ed_c (.int c)) hc (.int _)
        obtain ⟨s9, hs1, hs2⟩ := nat (here / 4096) 9 (by decide)
        have hs3 : s9 < signS.cps.toList.length := by rw [sign_len.1]; omega
        obtain ⟨cs, hcs⟩ : ∃ cs, signS.cps.toList[s9]? = some cs := ⟨_, List.getElem?_eq_getElem hs3⟩
        have lowS : Low (⟨#[cs]⟩ : Str) := fun c hc => by
          have : c = cs := by simpa [TL.tl] using hc
          rw [this]
          exact sign_low cs (List.mem_of_getElem? hcs)
        have lenS : (⟨#[cs]⟩ : Str).length = 1 := rfl
        refine q_asgD (d := .str ⟨#[cs]⟩) (ed_ixS (z := signS) (k := s9) (ed_c (v := .str signS) (.str _ sign_len.2)) (ed_is (hdm 4096 9 (by decide) (by decide) (by decide)) (by rw [hs1])) sign_len.2 hcs) fun v18 H18 e18' r18 => ?_
        cases r18
        generalize (⟨#[cs]⟩ : Str) = sign at lowS lenS
        show tSeq _ _ _ [some (.ref a), some (.int (i : Int)), some (.int more), some (.ref q), some v, some (.str text), some (.str words), some (.int (j : Int)), some (.int here), some (.str own), some (.int (m : Int)), some (.str sign), r12, r13] H18
        have rsg : ∀ {H : Hp}, R H (.str sign) (.str sign) := .str _ (by omega)
        obtain ⟨w3, hw1, hw2⟩ := nat (here / 64) 3 (by decide)
        obtain ⟨mid, kx, hmid, hkx, lowM, lenM⟩ : ∃ (mid : Str) (kx : Nat), ([.str sign, .str "", .str sign] : List PyData)[w3]? = some (.str mid) ∧ ([.int 0, .int 1, .int 1] : List PyData)[w3]? = some (.int (kx : Int)) ∧ Low mid ∧ mid.length ≤ 1 := by
          match w3, hw2 with
          | 0, _ => exact ⟨sign, 0, rfl, rfl, lowS, by omega⟩
          | 1, _ => exact ⟨"", 1, rfl, rfl, low_of (by decide +kernel), by decide +kernel⟩
          | 2, _ => exact ⟨sign, 1, rfl, rfl, lowS, by omega⟩
          | w3 + 3, h => exact absurd h (by omega)
        obtain ⟨lowB, lenB'⟩ := bent_ok (m := m) (k := kx) lowO lowM lenM lenO
        have i64 : ∀ {o12 o13 : Option V} {H2 : Hp}, EvD (tOp (rI (fun x j => 0 < j) fun i j => V.int (i % j)) (tOp (rI (fun x j => 0 < j ∧ j < 1073741824) fun i j => V.int (i / j)) (tVar 8) (tC (.int 64))) (tC (.int 3))) [some (.ref a), some (.int (i : Int)), some (.int more), some (.ref q), some v, some (.str text), some (.str words), some (.int (j : Int)), some (.int here), some (.str own), some (.int (m : Int)), some (.str sign), o12, o13] H2 (.int (w3 : Int)) := ed_is (hdm 64 3 (by decide) (by decide) (by decide)) (by rw [hw1])
        have c1 := cut_len own none (some (m : Int))
        have c2 := cut_len own (some ((m + kx : Nat) : Int)) none
        refine q_asgD (d := .str (cutS own none (some (m : Int)) ++ mid ++ cutS own (some ((m + kx : Nat) : Int)) none)) (ed_addS (ed_addS (ed_cutS (ed_var rfl row) Evl.eo_none (Evl.eo_some (Evl.ev_var rfl))) (ed_ixL (K := K) (k := w3) (ds := [.str sign, .str "", .str sign]) (ed_lst (eds_cons (ed_var rfl rsg) (eds_cons (ed_c (v := .str "") (.str _ (by decide +kernel))) (eds_cons (ed_var rfl rsg) eds_nil))) (by simp)) i64 hmid) (by omega)) (ed_cutS (ed_var rfl row) (Evl.eo_some ?gix) Evl.eo_none) (by rw [len_app]; omega)) fun v19 H19 e19 r19 => ?_
        case gix =>
          refine Evl.ev_is (ev_I0 (g := fun i j => V.int (i + j)) (i := (m : Int)) (j := (kx : Int)) (Evl.ev_var rfl) (ed_ixL (K := K) (k := w3) (ds := [.int 0, .int 1, .int 1]) (ed_lst (eds_cons (ed_c (.int 0)) (eds_cons (ed_c (.int 1)) (eds_cons (ed_c (.int 1)) eds_nil))) (by simp)) i64 hkx).ti) ?_
          show V.int ((m : Int) + (kx : Int)) = V.int ((m + kx : Nat) : Int)
          rw [Int.natCast_add]
        cases r19
        generalize cutS own none (some (m : Int)) ++ mid ++ cutS own (some ((m + kx : Nat) : Int)) none = bent at lowB lenB'
        clear c1 c2
        show tSeq _ _ _ [some (.ref a), some (.int (i : Int)), some (.int more), some (.ref q), some v, some (.str text), some (.str words), some (.int (j : Int)), some (.int here), some (.str own), some (.int (m : Int)), some (.str sign), r12, some (.str bent)] H19
        have rbn : ∀ {H : Hp}, R H (.str bent) (.str bent) := .str _ (by omega)
        have e69 : Ex H16 H19 := (e17.trans e18').trans e19
        have hrows := rows_len lenB'
        -- read as a state
        refine q_told (nm := "BadText") (G := fun u Hu => ∃ l2 q2, u = .ref q2 ∧ FdAt Hu q2 l2 ∧ stateIn (.str bent) = some (.dict (dsOf l2))) (t16.ext e69) O6 (by decide +kernel) (fun Hx ex E' Q' hE hQ => ⟨_, rfl, .str bent, .str bent, rfl, rbn, (fun z hz => by cases hz; exact hrows), fun l2 hl2 q2 Hy sy hq2 fy => hQ _ Hy sy ⟨l2, q2, rfl, fy, hl2⟩, fun _ => hE⟩) fun u H20 x20 t20 gu => ?_
        show tSeq _ _ _ [some (.ref a), some (.int (i : Int)), some (.int more), some (.ref q), some v, some (.str text), some (.str words), some (.int (j : Int)), some (.int here), some (.str own), some (.int (m : Int)), some (.str sign), some u, some (.str bent)] H20
        have hsR : SeqAt.shaped (refused "BadText") = true := by decide +kernel
        have eR : ∀ {σ : St} {H : Hp}, EvD (tTup (tCons (tC (.str "refused")) (tCons (tC (.str "BadText")) tNil))) σ H (refused "BadText") := ed_tup (eds_cons (ed_c (v := .str "refused") (.str _ (by decide +kernel))) (eds_cons (ed_c (v := .str "BadText") (.str _ (by decide +kernel))) eds_nil)) (by simp)
        refine q_go (fun D' hn => ?_) (fun H21 e21 => ?_)
        · rcases gu with ⟨l2, q2, rfl, f2, h2⟩ | ru
          · obtain ⟨st2, tx2⟩ := state_sound h2
            have hl2 := state_len hrows h2
            refine Evl.s_if (b := true) (et_b (ed_isi (ed_var rfl f2.r) (kit_dict _))) (fun _ H22 e22 => ?_) (fun z => by cases z)
            have f22 := f2.keep e22
            refine Evl.s_when (b := false) (Evl.et_is (Evl.et_or (a := false) (b := false) (Evl.et_is (Evl.et_test (ed_neS (x := bent) (y := bent) (ed_is (ed_LST rfl f22 st2 hl2 (by rw [tx2]; omega)) (by rw [tx2])) (ed_var rfl rbn)).vb) (by simp)) fun _ => Evl.et_is (Evl.et_not (et_b (ed_LIS rfl f22 st2))) rfl) rfl) (fun z => by cases z) (fun _ H23 e23 => hn H23 (e22.trans e23))
          · refine Evl.s_if (b := false) (Evl.et_is (et_b (ed_isi (ed_var rfl ru) (kit_dict _))) (by decide +kernel)) (fun z => by cases z) (fun _ H22 e22 => ?_)
            refine Evl.s_when (b := false) (Evl.et_is (Evl.et_test (ed_ne (d := refused "BadText") (e := refused "BadText") (ed_var rfl (ru.ext (exN e22))) eR hsR hsR).vb) (by decide +kernel)) (fun z => by cases z) (fun _ H23 e23 => hn H23 (e22.trans e23))
        -- read as a term
        refine q_told (nm := "BadText") (G := fun u Hu => ∃ d2, R Hu u d2 ∧ termIn (.str bent) = some d2) (t20.ext e21) O6 (by decide +kernel) (fun Hx ex E' Q' hE hQ => ⟨_, rfl, .str bent, .str bent, rfl, rbn, text_ok lowB lenB', fun d2 hd2 u2 Hy sy r2 => hQ _ Hy sy ⟨d2, r2, hd2⟩, fun _ => hE⟩) fun u2 H22 x22 t22 gu2 => ?_
        show tIfS _ _ _ _ [some (.ref a), some (.int (i : Int)), some (.int more), some (.ref q), some v, some (.str text), some (.str words), some (.int (j : Int)), some (.int here), some (.str own), some (.int (m : Int)), some (.str sign), some u2, some (.str bent)] H22
        have x1622 : ExtN H16 H22 := ((exN e69).trans x20).trans ((exN e21).trans x22)
        have done : ∀ H23, Ex H22 H23 → ((∃ o9 o10 o11 o12 o13, [some (.ref a), some (.int (i : Int)), some (.int more), some (.ref q), some v, some (.str text), some (.str words), some (.int (j : Int)), some (.int here), some (.str own), some (.int (m : Int)), some (.str sign), some u2, some (.str bent)] = [some (.ref a), some (.int (i : Int)), some (.int more), some (.ref q), some v, some (.str text), some (.str words), some (.int (j : Int)), some (.int here), o9, o10, o11, o12, o13]) ∧ ExtN H H23 ∧ Tabs (T1 Pt) H23) ∧ ExtN H15 H23 := fun H23 e23 => ⟨⟨⟨_, _, _, _, _, rfl⟩, (x0.trans x1622).trans (exN e23), t22.ext e23⟩, (x16.trans x1622).trans (exN e23)⟩
        rcases gu2 with ⟨d2, r2, h2⟩ | ru2
        · obtain ⟨g2, tx2⟩ := term_sound h2
          refine Evl.s_when (b := false) (Evl.et_is (Evl.et_and (a := true) (b := false) (Evl.et_is (Evl.et_test (ed_ne (d := d2) (e := refused "BadText") (ed_var rfl r2) eR (deep_shaped (by decide) g2) hsR).vb) (by rw [refused_not g2]; rfl)) fun _ => Evl.et_is (Evl.et_test (ed_neS (x := bent) (y := bent) (ed_is (ed_textOf (n := 8) (ed_var rfl r2) g2 (by decide)) (by rw [tx2])) (ed_var rfl rbn)).vb) (by simp)) rfl) (fun z => by cases z) (fun _ H23 e23 => done H23 e23)
        · refine Evl.s_when (b := false) (Evl.et_is (Evl.et_and (a := false) (b := false) (Evl.et_is (Evl.et_test (ed_ne (d := refused "BadText") (e := refused "BadText") (ed_var rfl ru2) eR hsR hsR).vb) (by decide +kernel)) fun z => by cases z) rfl) (fun z => by cases z) (fun _ H23 e23 => done H23 e23)
      · subst e
        exact ⟨⟨_, _, _, _, _, _, _, rfl⟩, x15, t15⟩
    · subst e
      exact ⟨⟨_, _, _, _, _, _, _, _, _, _, _, _, _, rfl⟩, x13, t13⟩
  · subst e
    obtain ⟨hk, hi⟩ := sum_in
    have nilT : stateText (.dict (dsOf [])) = Str.empty := by decide +kernel
    have nilI : stateIn (.str Str.empty) = some (.dict (dsOf [])) := by have := state_back (l := []) List.Pairwise.nil good_nil; rw [nilT] at this; exact this
    have hst0 : isState (.dict (dsOf [])) = true := by decide +kernel
    refine s_retD (d := .bool true) (ed_is (ed_and (b := true) (c := true) (ed_is (ed_eqS (x := Str.empty) (y := Str.empty) ?g1 (ed_c (v := .str "") (.str _ (by decide +kernel)))) (by simp)) fun _ => ed_is (ed_and (b := true) (c := true) ?g2 fun _ => ed_is (ed_eq (d := .tuple [.str "sum", .tuple []]) (e := .tuple [.str "sum", .tuple []]) (ed_termI (ed_c (v := .str sumS) (.str _ (by decide +kernel))) hk hi) (ed_tup (eds_cons (ed_c (v := .str "sum") (.str _ (by decide +kernel))) (eds_cons (ed_tup eds_nil (by simp)) eds_nil)) (by simp)) (by decide +kernel) (by decide +kernel)) (congrArg PyData.bool (by decide +kernel))) rfl) rfl) fun v9 H9 e9 r9 => by cases r9; exact kk H9
    case g1 =>
      intro H2 e2 Q2 q2 p hp
      have fp : FdAt (upd H2 p (.dT [])) p [] := ⟨upd_same, List.Pairwise.nil, fun k hk => by cases hk⟩
      refine ⟨.ref p, .dict (dsOf []), rfl, fp.r, (fun h => absurd h (by rw [hst0]; exact fun z => nomatch z)), fun _ => ⟨by decide, ⟨p, _, rfl, fp.at_⟩, fun H3 s3 => ?_⟩⟩
      rw [nilT]
      exact q2 _ H3 (fun b o hb => s3 _ _ (Ex.new hp _ _ hb)) (.str _ (by decide +kernel))
    case g2 =>
      intro H2 e2 Q2 q2
      refine ⟨.str Str.empty, .str Str.empty, rfl, .str _ (by decide +kernel), (fun z hz => by cases hz; decide +kernel), fun l hl q H3 s3 hq fl => ?_, fun h => absurd h (by rw [nilI]; exact fun z => nomatch z)⟩
      rw [nilI] at hl
      have hle : ([] : Ps) = l := dsOf_inj (PyData.dict.inj (Option.some.inj hl))
      subst hle
      intro p hp
      have npq : q ≠ p := fun e => by have := fl.at_; rw [e, hp] at this; cases this
      refine ⟨⟨q, p, [], [], rfl, rfl, by rw [upd_ne npq]; exact fl.at_, upd_same, rfl, fun k v hkv => by cases hkv⟩, q2 _ _ (s3.trans (Ex.new hp)) (.bl true)⟩
end
end Lk
set_option Elab.async false
set_option linter.all false
set_option maxRecDepth 100000
set_option maxHeartbeats 8000000
namespace Lk
open PySem PySem.Spec PyProof.Rows L2 HotX L2H LamX

theorem ok_terms {P : Program} {w : World} {K : PySem.W.Frag} {mg : Str → Option Value} {base : Heap} {C CT f g aR aT : Addr} {fd fdg : FuncData} (F : L2.Fun K "term" "Reading.term" sRTerm f fd) (hmt : Meth K C "term" f) (hb : Binds K fd ["self", "deep"] []) (G : L2.Fun K "inner" "Reading.inner" sRInner g fdg) (gmt : Meth K C "inner" g) (gb : Binds K fdg ["self", "deep"] [])
    (T : Tx K mg) (TT : Tt K mg aR aT) (L : Rc K mg C) (D0 : Df P w K mg base "need_text" 1 ["good"] (spNeed CT)) (Dp : Df P w K mg base "path_in" 1 ["word"] spPathI) (Dn : Df P w K mg base "number_in" 2 ["word"] (spNumI CT))
    (Dx : Md P w K mg base C "next_word" 2 ["self"] (spNext C CT)) (Dt : Md P w K mg base C "take" 3 ["self", "due"] (spTake C CT)) :
    ∀ n : Nat, Md P w K mg base C "term" (2 * n + 4) ["self", "deep"] (spParse C CT (8 - (n : Int)) (parseT n))
  | 0 => ok_term0 F hmt hb TT D0
  | n + 1 => ok_term1 F hmt hb T TT L D0 Dp Dn Dx Dt (ok_inner G gmt gb T TT L D0 Dx Dt (ok_terms F hmt hb G gmt gb T TT L D0 Dp Dn Dx Dt n))
theorem all_mk {w : World} {K : PySem.W.Frag} {h : Heap} {mg : Str → Option Value} {fa Pt c28z f0 f1 f2 f3 f4 f5 f6 f7 f8 f9 f10 f11 f12 f13 f14 f15 f16 f17 f18 f19 f20 f21 f22 f23 f24 f25 f26 f27 f28 f29 f30 f31 f32 f33 e_BadDeed e_BadLook e_BadNumber e_BadPath e_BadState e_Storm e_BadText e_LookError CRd aR aT : Addr} {od0 an0 od1 an1 od2 an2 od3 an3 od4 an4 od5 an5 od6 an6 od7 an7 od8 an8 od9 an9 od10 an10 od11 an11 od12 an12 od13 an13 od14 an14 od15 an15 od16 an16 od17 an17 od18 an18 od19 an19 od20 an20 od21 an21 od22 an22 od23 an23 od24 an24 od25 an25 od26 an26 od27 an27 od28 an28 od29 an29 od30 an30 od31 an31 od32 an32 od33 an33 : Option Addr} {sl0 sl1 sl2 sl3 sl4 sl5 sl6 sl7 sl8 sl9 sl10 sl11 sl12 sl13 sl14 sl15 sl16 sl17 sl18 sl19 sl20 sl21 sl22 sl23 sl24 sl25 sl26 sl27 sl28 sl29 sl30 sl31 sl32 sl33 : Array (Option Value)} {oc0 kV0 dc0 pm0 ct0 cd0 oc1 kV1 dc1 pm1 ct1 cd1 oc2 kV2 dc2 pm2 ct2 cd2 oc3 kV3 dc3 pm3 ct3 cd3 oc4 kV4 dc4 pm4 ct4 cd4 oc5 kV5 dc5 pm5 ct5 cd5 oc6 kV6 dc6 pm6 ct6 cd6 oc7 kV7 dc7 pm7 ct7 cd7 oc8 kV8 dc8 pm8 ct8 cd8 oc9 kV9 dc9 pm9 ct9 cd9 oc10 kV10 dc10 pm10 ct10 cd10 oc11 kV11 dc11 pm11 ct11 cd11 oc12 kV12 dc12 pm12 ct12 cd12 oc13 kV13 dc13 pm13 ct13 cd13 oc14 kV14 dc14 pm14 ct14 cd14 oc15 kV15 dc15 pm15 ct15 cd15 oc16 kV16 dc16 pm16 ct16 cd16 oc17 kV17 dc17 pm17 ct17 cd17 oc18 kV18 dc18 pm18 ct18 cd18 oc19 kV19 dc19 pm19 ct19 cd19 oc20 kV20 dc20 pm20 ct20 cd20 oc21 kV21 dc21 pm21 ct21 cd21 oc22 kV22 dc22 pm22 ct22 cd22 oc23 kV23 dc23 pm23 ct23 cd23 oc24 kV24 dc24 pm24 ct24 cd24 oc25 kV25 dc25 pm25 ct25 cd25 oc26 kV26 dc26 pm26 ct26 cd26 oc27 kV27 dc27 pm27 ct27 cd27 oc28 kV28 dc28 pm28 ct28 oc29 kV29 dc29 pm29 ct29 cd29 oc30 kV30 dc30 pm30 ct30 cd30 oc31 kV31 dc31 pm31 ct31 cd31 oc32 kV32 dc32 pm32 ct32 cd32 oc33 kV33 dc33 pm33 ct33 cd33 u_SMALL u_MOST_WORD u_MOST_DEEP u_MOST_WORTH u_MOST_NUMBER u_MOST_WITHIN u_FIGURES u_MOST_FIGURES : Value} {odR odT : Option Addr} {itsR itsT : Array Value} {nR nT : Nat} {slR slT : Array (Option Value)}
    (X : K.In h) (G : h.Ns mainGlobals mg) (hfa : mg "law" = some (.ref fa)) (hP_Pt : h.get? Pt = some (PySem.W.tabObj #[]))
    (gc_Reading : PySem.W.nsIn K mainGlobals "Reading" = some (some (.ref CRd)))
    (a0 : PySem.W.nsIn K mainGlobals "is_word" = some (some (.ref f0)))
    (l0 : K.lookup f0 = some ⟨oc0, od0, .func (PySem.W.fnOf "is_word" "is_word" (defArgs sIsWord) (defBody sIsWord) (defScope sIsWord) .none kV0 dc0 pm0 an0 cd0 ct0), sl0⟩)
    (c0 : PySem.W.codeIn K cd0 "is_word" = true)
    (k0 : PySem.W.keepIn K (.ref f0) = true)
    (a1 : PySem.W.nsIn K mainGlobals "is_path" = some (some (.ref f1)))
    (l1 : K.lookup f1 = some ⟨oc1, od1, .func (PySem.W.fnOf "is_path" "is_path" (defArgs sIsPath) (defBody sIsPath) (defScope sIsPath) .none kV1 dc1 pm1 an1 cd1 ct1), sl1⟩)
    (c1 : PySem.W.codeIn K cd1 "is_path" = true)
    (k1 : PySem.W.keepIn K (.ref f1) = true)
    (a2 : PySem.W.nsIn K mainGlobals "is_number" = some (some (.ref f2)))
    (l2 : K.lookup f2 = some ⟨oc2, od2, .func (PySem.W.fnOf "is_number" "is_number" (defArgs sIsNumber) (defBody sIsNumber) (defScope sIsNumber) .none kV2 dc2 pm2 an2 cd2 ct2), sl2⟩)
    (c2 : PySem.W.codeIn K cd2 "is_number" = true)
    (k2 : PySem.W.keepIn K (.ref f2) = true)
    (a3 : PySem.W.nsIn K mainGlobals "is_state" = some (some (.ref f3)))
    (l3 : K.lookup f3 = some ⟨oc3, od3, .func (PySem.W.fnOf "is_state" "is_state" (defArgs sIsState) (defBody sIsState) (defScope sIsState) .none kV3 dc3 pm3 an3 cd3 ct3), sl3⟩)
    (c3 : PySem.W.codeIn K cd3 "is_state" = true)
    (k3 : PySem.W.keepIn K (.ref f3) = true)
    (a4 : PySem.W.nsIn K mainGlobals "need_state" = some (some (.ref f4)))
    (l4 : K.lookup f4 = some ⟨oc4, od4, .func (PySem.W.fnOf "need_state" "need_state" (defArgs sNeedState) (defBody sNeedState) (defScope sNeedState) .none kV4 dc4 pm4 an4 cd4 ct4), sl4⟩)
    (c4 : PySem.W.codeIn K cd4 "need_state" = true)
    (k4 : PySem.W.keepIn K (.ref f4) = true)
    (a5 : PySem.W.nsIn K mainGlobals "need" = some (some (.ref f5)))
    (l5 : K.lookup f5 = some ⟨oc5, od5, .func (PySem.W.fnOf "need" "need" (defArgs sNeedT) (defBody sNeedT) (defScope sNeedT) .none kV5 dc5 pm5 an5 cd5 ct5), sl5⟩)
    (c5 : PySem.W.codeIn K cd5 "need" = true)
    (k5 : PySem.W.keepIn K (.ref f5) = true)
    (a6 : PySem.W.nsIn K mainGlobals "need_deep" = some (some (.ref f6)))
    (l6 : K.lookup f6 = some ⟨oc6, od6, .func (PySem.W.fnOf "need_deep" "need_deep" (defArgs sDeep) (defBody sDeep) (defScope sDeep) .none kV6 dc6 pm6 an6 cd6 ct6), sl6⟩)
    (c6 : PySem.W.codeIn K cd6 "need_deep" = true)
    (k6 : PySem.W.keepIn K (.ref f6) = true)
    (a7 : PySem.W.nsIn K mainGlobals "need_term" = some (some (.ref f7)))
    (l7 : K.lookup f7 = some ⟨oc7, od7, .func (PySem.W.fnOf "need_term" "need_term" (defArgs sNeedTerm) (defBody sNeedTerm) (defScope sNeedTerm) .none kV7 dc7 pm7 an7 cd7 ct7), sl7⟩)
    (c7 : PySem.W.codeIn K cd7 "need_term" = true)
    (k7 : PySem.W.keepIn K (.ref f7) = true)
    (a8 : PySem.W.nsIn K mainGlobals "need_text" = some (some (.ref f8)))
    (l8 : K.lookup f8 = some ⟨oc8, od8, .func (PySem.W.fnOf "need_text" "need_text" (defArgs sNeedText) (defBody sNeedText) (defScope sNeedText) .none kV8 dc8 pm8 an8 cd8 ct8), sl8⟩)
    (c8 : PySem.W.codeIn K cd8 "need_text" = true)
    (k8 : PySem.W.keepIn K (.ref f8) = true)
    (a9 : PySem.W.nsIn K mainGlobals "path_text" = some (some (.ref f9)))
    (l9 : K.lookup f9 = some ⟨oc9, od9, .func (PySem.W.fnOf "path_text" "path_text" (defArgs sPathText) (defBody sPathText) (defScope sPathText) .none kV9 dc9 pm9 an9 cd9 ct9), sl9⟩)
    (c9 : PySem.W.codeIn K cd9 "path_text" = true)
    (k9 : PySem.W.keepIn K (.ref f9) = true)
    (a10 : PySem.W.nsIn K mainGlobals "path_in" = some (some (.ref f10)))
    (l10 : K.lookup f10 = some ⟨oc10, od10, .func (PySem.W.fnOf "path_in" "path_in" (defArgs sPathIn) (defBody sPathIn) (defScope sPathIn) .none kV10 dc10 pm10 an10 cd10 ct10), sl10⟩)
    (c10 : PySem.W.codeIn K cd10 "path_in" = true)
    (k10 : PySem.W.keepIn K (.ref f10) = true)
    (a11 : PySem.W.nsIn K mainGlobals "number_in" = some (some (.ref f11)))
    (l11 : K.lookup f11 = some ⟨oc11, od11, .func (PySem.W.fnOf "number_in" "number_in" (defArgs sNumberIn) (defBody sNumberIn) (defScope sNumberIn) .none kV11 dc11 pm11 an11 cd11 ct11), sl11⟩)
    (c11 : PySem.W.codeIn K cd11 "number_in" = true)
    (k11 : PySem.W.keepIn K (.ref f11) = true)
    (a12 : PySem.W.nsIn K mainGlobals "state_text" = some (some (.ref f12)))
    (l12 : K.lookup f12 = some ⟨oc12, od12, .func (PySem.W.fnOf "state_text" "state_text" (defArgs sStateText) (defBody sStateText) (defScope sStateText) .none kV12 dc12 pm12 an12 cd12 ct12), sl12⟩)
    (c12 : PySem.W.codeIn K cd12 "state_text" = true)
    (k12 : PySem.W.keepIn K (.ref f12) = true)
    (a13 : PySem.W.nsIn K mainGlobals "state_in" = some (some (.ref f13)))
    (l13 : K.lookup f13 = some ⟨oc13, od13, .func (PySem.W.fnOf "state_in" "state_in" (defArgs sStateIn) (defBody sStateIn) (defScope sStateIn) .none kV13 dc13 pm13 an13 cd13 ct13), sl13⟩)
    (c13 : PySem.W.codeIn K cd13 "state_in" = true)
    (k13 : PySem.W.keepIn K (.ref f13) = true)
    (a14 : PySem.W.nsIn K mainGlobals "text_of" = some (some (.ref f14)))
    (l14 : K.lookup f14 = some ⟨oc14, od14, .func (PySem.W.fnOf "text_of" "text_of" (defArgs sTextOf) (defBody sTextOf) (defScope sTextOf) .none kV14 dc14 pm14 an14 cd14 ct14), sl14⟩)
    (c14 : PySem.W.codeIn K cd14 "text_of" = true)
    (k14 : PySem.W.keepIn K (.ref f14) = true)
    (a15 : PySem.W.nsIn K mainGlobals "term_text" = some (some (.ref f15)))
    (l15 : K.lookup f15 = some ⟨oc15, od15, .func (PySem.W.fnOf "term_text" "term_text" (defArgs sTermText) (defBody sTermText) (defScope sTermText) .none kV15 dc15 pm15 an15 cd15 ct15), sl15⟩)
    (c15 : PySem.W.codeIn K cd15 "term_text" = true)
    (k15 : PySem.W.keepIn K (.ref f15) = true)
    (a16 : PySem.W.nsIn K mainGlobals "term_in" = some (some (.ref f16)))
    (l16 : K.lookup f16 = some ⟨oc16, od16, .func (PySem.W.fnOf "term_in" "term_in" (defArgs sTermIn) (defBody sTermIn) (defScope sTermIn) .none kV16 dc16 pm16 an16 cd16 ct16), sl16⟩)
    (c16 : PySem.W.codeIn K cd16 "term_in" = true)
    (k16 : PySem.W.keepIn K (.ref f16) = true)
    (a17 : PySem.W.nsIn K mainGlobals "_law_cell" = some (some (.ref f17)))
    (l17 : K.lookup f17 = some ⟨oc17, od17, .func (PySem.W.fnOf "_law_cell" "_law_cell" (defArgs sCell) (defBody sCell) (defScope sCell) .none kV17 dc17 pm17 an17 cd17 ct17), sl17⟩)
    (c17 : PySem.W.codeIn K cd17 "_law_cell" = true)
    (k17 : PySem.W.keepIn K (.ref f17) = true)
    (a18 : PySem.W.nsIn K mainGlobals "_law_drawn" = some (some (.ref f18)))
    (l18 : K.lookup f18 = some ⟨oc18, od18, .func (PySem.W.fnOf "_law_drawn" "_law_drawn" (defArgs sDrawn) (defBody sDrawn) (defScope sDrawn) .none kV18 dc18 pm18 an18 cd18 ct18), sl18⟩)
    (c18 : PySem.W.codeIn K cd18 "_law_drawn" = true)
    (k18 : PySem.W.keepIn K (.ref f18) = true)
    (a19 : PySem.W.nsIn K mainGlobals "_law_word" = some (some (.ref f19)))
    (l19 : K.lookup f19 = some ⟨oc19, od19, .func (PySem.W.fnOf "_law_word" "_law_word" (defArgs sWord) (defBody sWord) (defScope sWord) .none kV19 dc19 pm19 an19 cd19 ct19), sl19⟩)
    (c19 : PySem.W.codeIn K cd19 "_law_word" = true)
    (k19 : PySem.W.keepIn K (.ref f19) = true)
    (a20 : PySem.W.nsIn K mainGlobals "_law_told" = some (some (.ref f20)))
    (l20 : K.lookup f20 = some ⟨oc20, od20, .func (PySem.W.fnOf "_law_told" "_law_told" (defArgs sTold) (defBody sTold) (defScope sTold) .none kV20 dc20 pm20 an20 cd20 ct20), sl20⟩)
    (c20 : PySem.W.codeIn K cd20 "_law_told" = true)
    (k20 : PySem.W.keepIn K (.ref f20) = true)
    (a21 : PySem.W.nsIn K mainGlobals "_law_path" = some (some (.ref f21)))
    (l21 : K.lookup f21 = some ⟨oc21, od21, .func (PySem.W.fnOf "_law_path" "_law_path" (defArgs sLPath) (defBody sLPath) (defScope sLPath) .none kV21 dc21 pm21 an21 cd21 ct21), sl21⟩)
    (c21 : PySem.W.codeIn K cd21 "_law_path" = true)
    (k21 : PySem.W.keepIn K (.ref f21) = true)
    (a22 : PySem.W.nsIn K mainGlobals "_law_state" = some (some (.ref f22)))
    (l22 : K.lookup f22 = some ⟨oc22, od22, .func (PySem.W.fnOf "_law_state" "_law_state" (defArgs sLState) (defBody sLState) (defScope sLState) .none kV22 dc22 pm22 an22 cd22 ct22), sl22⟩)
    (c22 : PySem.W.codeIn K cd22 "_law_state" = true)
    (k22 : PySem.W.keepIn K (.ref f22) = true)
    (a23 : PySem.W.nsIn K mainGlobals "_law_is_state" = some (some (.ref f23)))
    (l23 : K.lookup f23 = some ⟨oc23, od23, .func (PySem.W.fnOf "_law_is_state" "_law_is_state" (defArgs sLIS) (defBody sLIS) (defScope sLIS) .none kV23 dc23 pm23 an23 cd23 ct23), sl23⟩)
    (c23 : PySem.W.codeIn K cd23 "_law_is_state" = true)
    (k23 : PySem.W.keepIn K (.ref f23) = true)
    (a24 : PySem.W.nsIn K mainGlobals "_law_term" = some (some (.ref f24)))
    (l24 : K.lookup f24 = some ⟨oc24, od24, .func (PySem.W.fnOf "_law_term" "_law_term" (defArgs sLTerm) (defBody sLTerm) (defScope sLTerm) .none kV24 dc24 pm24 an24 cd24 ct24), sl24⟩)
    (c24 : PySem.W.codeIn K cd24 "_law_term" = true)
    (k24 : PySem.W.keepIn K (.ref f24) = true)
    (a25 : PySem.W.nsIn K mainGlobals "_law_path_text" = some (some (.ref f25)))
    (l25 : K.lookup f25 = some ⟨oc25, od25, .func (PySem.W.fnOf "_law_path_text" "_law_path_text" (defArgs sLPT) (defBody sLPT) (defScope sLPT) .none kV25 dc25 pm25 an25 cd25 ct25), sl25⟩)
    (c25 : PySem.W.codeIn K cd25 "_law_path_text" = true)
    (k25 : PySem.W.keepIn K (.ref f25) = true)
    (a26 : PySem.W.nsIn K mainGlobals "_law_state_text" = some (some (.ref f26)))
    (l26 : K.lookup f26 = some ⟨oc26, od26, .func (PySem.W.fnOf "_law_state_text" "_law_state_text" (defArgs sLST) (defBody sLST) (defScope sLST) .none kV26 dc26 pm26 an26 cd26 ct26), sl26⟩)
    (c26 : PySem.W.codeIn K cd26 "_law_state_text" = true)
    (k26 : PySem.W.keepIn K (.ref f26) = true)
    (a27 : PySem.W.nsIn K mainGlobals "_law_term_text" = some (some (.ref f27)))
    (l27 : K.lookup f27 = some ⟨oc27, od27, .func (PySem.W.fnOf "_law_term_text" "_law_term_text" (defArgs sLTT) (defBody sLTT) (defScope sLTT) .none kV27 dc27 pm27 an27 cd27 ct27), sl27⟩)
    (c27 : PySem.W.codeIn K cd27 "_law_term_text" = true)
    (k27 : PySem.W.keepIn K (.ref f27) = true)
    (a28 : PySem.W.nsIn K mainGlobals "law" = some (some (.ref f28)))
    (l28 : K.lookup f28 = some ⟨oc28, od28, .func (PySem.W.fnOf "law" "law" (defArgs sLaw) (defBody sLaw) (defScope sLaw) .none kV28 dc28 pm28 an28 (.ref c28z) ct28), sl28⟩)
    (c28 : PySem.W.codeIn K (.ref c28z) "law" = true)
    (k28 : PySem.W.keepIn K (.ref f28) = true)
    (a29 : PySem.W.findIn K (.ref CRd) "__init__" = some (some (.ref f29)))
    (i29 : PySem.W.isFn K (.ref f29) = true)
    (l29 : K.lookup f29 = some ⟨oc29, od29, .func (PySem.W.fnOf "__init__" "Reading.__init__" (defArgs sRInit) (defBody sRInit) (defScope sRInit) .none kV29 dc29 pm29 an29 cd29 ct29), sl29⟩)
    (c29 : PySem.W.codeIn K cd29 "Reading.__init__" = true)
    (k29 : PySem.W.keepIn K (.ref f29) = true)
    (a30 : PySem.W.findIn K (.ref CRd) "next_word" = some (some (.ref f30)))
    (i30 : PySem.W.isFn K (.ref f30) = true)
    (l30 : K.lookup f30 = some ⟨oc30, od30, .func (PySem.W.fnOf "next_word" "Reading.next_word" (defArgs sRNext) (defBody sRNext) (defScope sRNext) .none kV30 dc30 pm30 an30 cd30 ct30), sl30⟩)
    (c30 : PySem.W.codeIn K cd30 "Reading.next_word" = true)
    (k30 : PySem.W.keepIn K (.ref f30) = true)
    (a31 : PySem.W.findIn K (.ref CRd) "take" = some (some (.ref f31)))
    (i31 : PySem.W.isFn K (.ref f31) = true)
    (l31 : K.lookup f31 = some ⟨oc31, od31, .func (PySem.W.fnOf "take" "Reading.take" (defArgs sRTake) (defBody sRTake) (defScope sRTake) .none kV31 dc31 pm31 an31 cd31 ct31), sl31⟩)
    (c31 : PySem.W.codeIn K cd31 "Reading.take" = true)
    (k31 : PySem.W.keepIn K (.ref f31) = true)
    (a32 : PySem.W.findIn K (.ref CRd) "term" = some (some (.ref f32)))
    (i32 : PySem.W.isFn K (.ref f32) = true)
    (l32 : K.lookup f32 = some ⟨oc32, od32, .func (PySem.W.fnOf "term" "Reading.term" (defArgs sRTerm) (defBody sRTerm) (defScope sRTerm) .none kV32 dc32 pm32 an32 cd32 ct32), sl32⟩)
    (c32 : PySem.W.codeIn K cd32 "Reading.term" = true)
    (k32 : PySem.W.keepIn K (.ref f32) = true)
    (a33 : PySem.W.findIn K (.ref CRd) "inner" = some (some (.ref f33)))
    (i33 : PySem.W.isFn K (.ref f33) = true)
    (l33 : K.lookup f33 = some ⟨oc33, od33, .func (PySem.W.fnOf "inner" "Reading.inner" (defArgs sRInner) (defBody sRInner) (defScope sRInner) .none kV33 dc33 pm33 an33 cd33 ct33), sl33⟩)
    (c33 : PySem.W.codeIn K cd33 "Reading.inner" = true)
    (k33 : PySem.W.keepIn K (.ref f33) = true)
    (n_isinstance : PySem.W.nsIn K mainGlobals "isinstance" = some none)
    (n_len : PySem.W.nsIn K mainGlobals "len" = some none)
    (n_all : PySem.W.nsIn K mainGlobals "all" = some none)
    (n_any : PySem.W.nsIn K mainGlobals "any" = some none)
    (n_abs : PySem.W.nsIn K mainGlobals "abs" = some none)
    (n_range : PySem.W.nsIn K mainGlobals "range" = some none)
    (n_str : PySem.W.nsIn K mainGlobals "str" = some none)
    (n_tuple : PySem.W.nsIn K mainGlobals "tuple" = some none)
    (n_int : PySem.W.nsIn K mainGlobals "int" = some none)
    (n_bool : PySem.W.nsIn K mainGlobals "bool" = some none)
    (n_dict : PySem.W.nsIn K mainGlobals "dict" = some none)
    (n_max : PySem.W.nsIn K mainGlobals "max" = some none)
    (n_min : PySem.W.nsIn K mainGlobals "min" = some none)
    (n_sum : PySem.W.nsIn K mainGlobals "sum" = some none)
    (n_ValueError : PySem.W.nsIn K mainGlobals "ValueError" = some none)
    (n_sorted : PySem.W.nsIn K mainGlobals "sorted" = some none)
    (v_SMALL : PySem.W.nsIn K mainGlobals "SMALL" = some (some u_SMALL))
    (r_SMALL : RelV (.str smallS) u_SMALL)
    (v_MOST_WORD : PySem.W.nsIn K mainGlobals "MOST_WORD" = some (some u_MOST_WORD))
    (r_MOST_WORD : RelV (.int 6) u_MOST_WORD)
    (v_MOST_DEEP : PySem.W.nsIn K mainGlobals "MOST_DEEP" = some (some u_MOST_DEEP))
    (r_MOST_DEEP : RelV (.int 4) u_MOST_DEEP)
    (v_MOST_WORTH : PySem.W.nsIn K mainGlobals "MOST_WORTH" = some (some u_MOST_WORTH))
    (r_MOST_WORTH : RelV (.int 1000000000) u_MOST_WORTH)
    (v_MOST_NUMBER : PySem.W.nsIn K mainGlobals "MOST_NUMBER" = some (some u_MOST_NUMBER))
    (r_MOST_NUMBER : RelV (.int 1000000000) u_MOST_NUMBER)
    (v_MOST_WITHIN : PySem.W.nsIn K mainGlobals "MOST_WITHIN" = some (some u_MOST_WITHIN))
    (r_MOST_WITHIN : RelV (.int 8) u_MOST_WITHIN)
    (v_FIGURES : PySem.W.nsIn K mainGlobals "FIGURES" = some (some u_FIGURES))
    (r_FIGURES : RelV (.str figS) u_FIGURES)
    (v_MOST_FIGURES : PySem.W.nsIn K mainGlobals "MOST_FIGURES" = some (some u_MOST_FIGURES))
    (r_MOST_FIGURES : RelV (.int 10) u_MOST_FIGURES)
    (pg_Reading : PySem.W.plainGet K CRd Str.empty = true)
    (hdc_Reading : PySem.W.hasDictIn K CRd = true)
    (po_Reading : PySem.W.plainOver K CRd = true)
    (sa_Reading : PySem.W.findIn K (.ref CRd) "__setattr__" = some (some (.builtin "object.__setattr__")))
    (mk_Reading : PySem.W.makesIn K CRd = true)
    (kc_Reading : PySem.W.keepIn K (.ref CRd) = true)
    (no_Reading_words : PySem.W.findIn K (.ref CRd) "words" = some none)
    (no_Reading_spot : PySem.W.findIn K (.ref CRd) "spot" = some none)
    (g_BadDeed : PySem.W.nsIn K mainGlobals "BadDeed" = some (some (.ref e_BadDeed)))
    (g_BadLook : PySem.W.nsIn K mainGlobals "BadLook" = some (some (.ref e_BadLook)))
    (g_BadNumber : PySem.W.nsIn K mainGlobals "BadNumber" = some (some (.ref e_BadNumber)))
    (g_BadPath : PySem.W.nsIn K mainGlobals "BadPath" = some (some (.ref e_BadPath)))
    (g_BadState : PySem.W.nsIn K mainGlobals "BadState" = some (some (.ref e_BadState)))
    (g_Storm : PySem.W.nsIn K mainGlobals "Storm" = some (some (.ref e_Storm)))
    (g_BadText : PySem.W.nsIn K mainGlobals "BadText" = some (some (.ref e_BadText)))
    (g_LookError : PySem.W.nsIn K mainGlobals "LookError" = some (some (.ref e_LookError)))
    (x_BadLook : PySem.W.excIn K e_BadLook [.type "ValueError", .type "Exception", .type "BaseException", .type "object"] "ValueError.__new__" = true)
    (kp_BadLook : PySem.W.keepIn K (.ref e_BadLook) = true)
    (sb_BadLook : PySem.W.subIn K (.ref e_BadLook) (.type "BaseException") = some true)
    (ty_BadLook : PySem.W.typeIn K (.ref e_BadLook) = some (.type "type"))
    (hg_BadLook : PySem.W.findIn K (.ref e_BadLook) "__getattribute__" = some (some (.builtin "BaseException.__getattribute__")))
    (hk_BadLook : PySem.W.findIn K (.ref e_BadLook) "__getattr__" = some none)
    (hd_BadLook : PySem.W.hasDictIn K e_BadLook = true)
    (ha_BadLook : PySem.W.findIn K (.ref e_BadLook) "__class__" = some (some (.builtin "object.__class__")))
    (hm_BadLook : PySem.W.mroIn K e_BadLook (.type "object") = some true)
    (ki_BadLook_BadDeed : PySem.W.kitOne K (.ref e_BadLook) (.ref e_BadDeed) = some false)
    (ki_BadLook_BadLook : PySem.W.kitOne K (.ref e_BadLook) (.ref e_BadLook) = some true)
    (ki_BadLook_BadNumber : PySem.W.kitOne K (.ref e_BadLook) (.ref e_BadNumber) = some false)
    (ki_BadLook_BadPath : PySem.W.kitOne K (.ref e_BadLook) (.ref e_BadPath) = some false)
    (ki_BadLook_BadState : PySem.W.kitOne K (.ref e_BadLook) (.ref e_BadState) = some false)
    (ki_BadLook_Storm : PySem.W.kitOne K (.ref e_BadLook) (.ref e_Storm) = some false)
    (ki_BadLook_BadText : PySem.W.kitOne K (.ref e_BadLook) (.ref e_BadText) = some false)
    (kv_BadLook : PySem.W.kitOne K (.ref e_BadLook) (.type "ValueError") = some true)
    (ex_BadLook : PySem.W.exmOne K (.ref e_BadLook) (.ref e_LookError) = some true)
    (x_BadState : PySem.W.excIn K e_BadState [.type "ValueError", .type "Exception", .type "BaseException", .type "object"] "ValueError.__new__" = true)
    (kp_BadState : PySem.W.keepIn K (.ref e_BadState) = true)
    (sb_BadState : PySem.W.subIn K (.ref e_BadState) (.type "BaseException") = some true)
    (ty_BadState : PySem.W.typeIn K (.ref e_BadState) = some (.type "type"))
    (hg_BadState : PySem.W.findIn K (.ref e_BadState) "__getattribute__" = some (some (.builtin "BaseException.__getattribute__")))
    (hk_BadState : PySem.W.findIn K (.ref e_BadState) "__getattr__" = some none)
    (hd_BadState : PySem.W.hasDictIn K e_BadState = true)
    (ha_BadState : PySem.W.findIn K (.ref e_BadState) "__class__" = some (some (.builtin "object.__class__")))
    (hm_BadState : PySem.W.mroIn K e_BadState (.type "object") = some true)
    (ki_BadState_BadDeed : PySem.W.kitOne K (.ref e_BadState) (.ref e_BadDeed) = some false)
    (ki_BadState_BadLook : PySem.W.kitOne K (.ref e_BadState) (.ref e_BadLook) = some false)
    (ki_BadState_BadNumber : PySem.W.kitOne K (.ref e_BadState) (.ref e_BadNumber) = some false)
    (ki_BadState_BadPath : PySem.W.kitOne K (.ref e_BadState) (.ref e_BadPath) = some false)
    (ki_BadState_BadState : PySem.W.kitOne K (.ref e_BadState) (.ref e_BadState) = some true)
    (ki_BadState_Storm : PySem.W.kitOne K (.ref e_BadState) (.ref e_Storm) = some false)
    (ki_BadState_BadText : PySem.W.kitOne K (.ref e_BadState) (.ref e_BadText) = some false)
    (kv_BadState : PySem.W.kitOne K (.ref e_BadState) (.type "ValueError") = some true)
    (ex_BadState : PySem.W.exmOne K (.ref e_BadState) (.ref e_LookError) = some true)
    (x_BadText : PySem.W.excIn K e_BadText [.type "ValueError", .type "Exception", .type "BaseException", .type "object"] "ValueError.__new__" = true)
    (kp_BadText : PySem.W.keepIn K (.ref e_BadText) = true)
    (sb_BadText : PySem.W.subIn K (.ref e_BadText) (.type "BaseException") = some true)
    (ty_BadText : PySem.W.typeIn K (.ref e_BadText) = some (.type "type"))
    (hg_BadText : PySem.W.findIn K (.ref e_BadText) "__getattribute__" = some (some (.builtin "BaseException.__getattribute__")))
    (hk_BadText : PySem.W.findIn K (.ref e_BadText) "__getattr__" = some none)
    (hd_BadText : PySem.W.hasDictIn K e_BadText = true)
    (ha_BadText : PySem.W.findIn K (.ref e_BadText) "__class__" = some (some (.builtin "object.__class__")))
    (hm_BadText : PySem.W.mroIn K e_BadText (.type "object") = some true)
    (ki_BadText_BadDeed : PySem.W.kitOne K (.ref e_BadText) (.ref e_BadDeed) = some false)
    (ki_BadText_BadLook : PySem.W.kitOne K (.ref e_BadText) (.ref e_BadLook) = some false)
    (ki_BadText_BadNumber : PySem.W.kitOne K (.ref e_BadText) (.ref e_BadNumber) = some false)
    (ki_BadText_BadPath : PySem.W.kitOne K (.ref e_BadText) (.ref e_BadPath) = some false)
    (ki_BadText_BadState : PySem.W.kitOne K (.ref e_BadText) (.ref e_BadState) = some false)
    (ki_BadText_Storm : PySem.W.kitOne K (.ref e_BadText) (.ref e_Storm) = some false)
    (ki_BadText_BadText : PySem.W.kitOne K (.ref e_BadText) (.ref e_BadText) = some true)
    (kv_BadText : PySem.W.kitOne K (.ref e_BadText) (.type "ValueError") = some true)
    (ex_BadText : PySem.W.exmOne K (.ref e_BadText) (.ref e_LookError) = some true)
    (hn : PySem.W.specialIn K (.builtin "object.__class__") "__get__" = some (some (.builtin "getset_descriptor.__get__")))
    (ht : PySem.W.takesIn K (.builtin "object.__class__") = some true)
    (g_READING : PySem.W.nsIn K mainGlobals "READING" = some (some (.ref aR)))
    (l_READING : K.lookup aR = some ⟨.type "tuple", odR, .seq itsR nR, slR⟩)
    (z_READING : itsR.size ≤ sizeLine)
    (w_READING : Vals (readW.map V.str) itsR.toList)
    (g_TWO : PySem.W.nsIn K mainGlobals "TWO" = some (some (.ref aT)))
    (l_TWO : K.lookup aT = some ⟨.type "tuple", odT, .seq itsT nT, slT⟩)
    (z_TWO : itsT.size ≤ sizeLine)
    (w_TWO : Vals (twoW.map V.str) itsT.toList)
    (exm_BadLook : PySem.W.exmOne K (.ref e_BadLook) (.ref e_BadLook) = some true)
    (tb_Pt : PySem.W.codeHdIn K c28z Pt = true)
    (tn_Pt : K.lookup Pt = none)
    : LawAtS PySem.Challenge.rw_lookhouse_k70_whole_written w K L2.CX0 24 63 "script" mg fa h := by
  have e := hfa.symm.trans (PySem.W.mg_of X G a28)
  cases e
  have F0 := fun_mk (st := sIsWord) l0 c0 k0
  have b0 := F0.binds (ps := ["thing"]) fun _ _ _ _ _ _ us hl => match us, hl with | [_], _ => rfl
  have m0 := PySem.W.mg_of X G a0
  have F1 := fun_mk (st := sIsPath) l1 c1 k1
  have b1 := F1.binds (ps := ["thing"]) fun _ _ _ _ _ _ us hl => match us, hl with | [_], _ => rfl
  have m1 := PySem.W.mg_of X G a1
  have F2 := fun_mk (st := sIsNumber) l2 c2 k2
  have b2 := F2.binds (ps := ["thing", "most"]) fun _ _ _ _ _ _ us hl => match us, hl with | [_, _], _ => rfl
  have m2 := PySem.W.mg_of X G a2
  have F3 := fun_mk (st := sIsState) l3 c3 k3
  have b3 := F3.binds (ps := ["state"]) fun _ _ _ _ _ _ us hl => match us, hl with | [_], _ => rfl
  have m3 := PySem.W.mg_of X G a3
  have F4 := fun_mk (st := sNeedState) l4 c4 k4
  have b4 := F4.binds (ps := ["state"]) fun _ _ _ _ _ _ us hl => match us, hl with | [_], _ => rfl
  have m4 := PySem.W.mg_of X G a4
  have F5 := fun_mk (st := sNeedT) l5 c5 k5
  have b5 := F5.binds (ps := ["good"]) fun _ _ _ _ _ _ us hl => match us, hl with | [_], _ => rfl
  have m5 := PySem.W.mg_of X G a5
  have F6 := fun_mk (st := sDeep) l6 c6 k6
  have b6 := F6.binds (ps := ["term", "deep"]) fun _ _ _ _ _ _ us hl => match us, hl with | [_, _], _ => rfl
  have m6 := PySem.W.mg_of X G a6
  have F7 := fun_mk (st := sNeedTerm) l7 c7 k7
  have b7 := F7.binds (ps := ["term"]) fun _ _ _ _ _ _ us hl => match us, hl with | [_], _ => rfl
  have m7 := PySem.W.mg_of X G a7
  have F8 := fun_mk (st := sNeedText) l8 c8 k8
  have b8 := F8.binds (ps := ["good"]) fun _ _ _ _ _ _ us hl => match us, hl with | [_], _ => rfl
  have m8 := PySem.W.mg_of X G a8
  have F9 := fun_mk (st := sPathText) l9 c9 k9
  have b9 := F9.binds (ps := ["path"]) fun _ _ _ _ _ _ us hl => match us, hl with | [_], _ => rfl
  have m9 := PySem.W.mg_of X G a9
  have F10 := fun_mk (st := sPathIn) l10 c10 k10
  have b10 := F10.binds (ps := ["word"]) fun _ _ _ _ _ _ us hl => match us, hl with | [_], _ => rfl
  have m10 := PySem.W.mg_of X G a10
  have F11 := fun_mk (st := sNumberIn) l11 c11 k11
  have b11 := F11.binds (ps := ["word"]) fun _ _ _ _ _ _ us hl => match us, hl with | [_], _ => rfl
  have m11 := PySem.W.mg_of X G a11
  have F12 := fun_mk (st := sStateText) l12 c12 k12
  have b12 := F12.binds (ps := ["state"]) fun _ _ _ _ _ _ us hl => match us, hl with | [_], _ => rfl
  have m12 := PySem.W.mg_of X G a12
  have F13 := fun_mk (st := sStateIn) l13 c13 k13
  have b13 := F13.binds (ps := ["text"]) fun _ _ _ _ _ _ us hl => match us, hl with | [_], _ => rfl
  have m13 := PySem.W.mg_of X G a13
  have F14 := fun_mk (st := sTextOf) l14 c14 k14
  have b14 := F14.binds (ps := ["term"]) fun _ _ _ _ _ _ us hl => match us, hl with | [_], _ => rfl
  have m14 := PySem.W.mg_of X G a14
  have F15 := fun_mk (st := sTermText) l15 c15 k15
  have b15 := F15.binds (ps := ["term"]) fun _ _ _ _ _ _ us hl => match us, hl with | [_], _ => rfl
  have m15 := PySem.W.mg_of X G a15
  have F16 := fun_mk (st := sTermIn) l16 c16 k16
  have b16 := F16.binds (ps := ["text"]) fun _ _ _ _ _ _ us hl => match us, hl with | [_], _ => rfl
  have m16 := PySem.W.mg_of X G a16
  have F17 := fun_mk (st := sCell) l17 c17 k17
  have b17 := F17.binds (ps := ["script", "k"]) fun _ _ _ _ _ _ us hl => match us, hl with | [_, _], _ => rfl
  have m17 := PySem.W.mg_of X G a17
  have F18 := fun_mk (st := sDrawn) l18 c18 k18
  have b18 := F18.binds (ps := ["cell", "k"]) fun _ _ _ _ _ _ us hl => match us, hl with | [_, _], _ => rfl
  have m18 := PySem.W.mg_of X G a18
  have F19 := fun_mk (st := sWord) l19 c19 k19
  have b19 := F19.binds (ps := ["e"]) fun _ _ _ _ _ _ us hl => match us, hl with | [_], _ => rfl
  have m19 := PySem.W.mg_of X G a19
  have F20 := fun_mk (st := sTold) l20 c20 k20
  have b20 := F20.binds (ps := ["deed"]) fun _ _ _ _ _ _ us hl => match us, hl with | [_], _ => rfl
  have m20 := PySem.W.mg_of X G a20
  have F21 := fun_mk (st := sLPath) l21 c21 k21
  have b21 := F21.binds (ps := ["more", "deep"]) fun _ _ _ _ _ _ us hl => match us, hl with | [_, _], _ => rfl
  have m21 := PySem.W.mg_of X G a21
  have F22 := fun_mk (st := sLState) l22 c22 k22
  have b22 := F22.binds (ps := ["more", "many"]) fun _ _ _ _ _ _ us hl => match us, hl with | [_, _], _ => rfl
  have m22 := PySem.W.mg_of X G a22
  have F23 := fun_mk (st := sLIS) l23 c23 k23
  have b23 := F23.binds (ps := ["state"]) fun _ _ _ _ _ _ us hl => match us, hl with | [_], _ => rfl
  have m23 := PySem.W.mg_of X G a23
  have F24 := fun_mk (st := sLTerm) l24 c24 k24
  have b24 := F24.binds (ps := ["more", "deep", "names"]) fun _ _ _ _ _ _ us hl => match us, hl with | [_, _, _], _ => rfl
  have m24 := PySem.W.mg_of X G a24
  have F25 := fun_mk (st := sLPT) l25 c25 k25
  have b25 := F25.binds (ps := ["path"]) fun _ _ _ _ _ _ us hl => match us, hl with | [_], _ => rfl
  have m25 := PySem.W.mg_of X G a25
  have F26 := fun_mk (st := sLST) l26 c26 k26
  have b26 := F26.binds (ps := ["state"]) fun _ _ _ _ _ _ us hl => match us, hl with | [_], _ => rfl
  have m26 := PySem.W.mg_of X G a26
  have F27 := fun_mk (st := sLTT) l27 c27 k27
  have b27 := F27.binds (ps := ["term"]) fun _ _ _ _ _ _ us hl => match us, hl with | [_], _ => rfl
  have m27 := PySem.W.mg_of X G a27
  have F28 := fun_mk (st := sLaw) l28 c28 k28
  have m28 := PySem.W.mg_of X G a28
  have F29 := fun_mk (st := sRInit) l29 c29 k29
  have b29 := F29.binds (ps := ["self", "text"]) fun _ _ _ _ _ _ us hl => match us, hl with | [_, _], _ => rfl
  have M29 : Meth K CRd "__init__" f29 := ⟨a29, i29, k29⟩
  have F30 := fun_mk (st := sRNext) l30 c30 k30
  have b30 := F30.binds (ps := ["self"]) fun _ _ _ _ _ _ us hl => match us, hl with | [_], _ => rfl
  have M30 : Meth K CRd "next_word" f30 := ⟨a30, i30, k30⟩
  have F31 := fun_mk (st := sRTake) l31 c31 k31
  have b31 := F31.binds (ps := ["self", "due"]) fun _ _ _ _ _ _ us hl => match us, hl with | [_, _], _ => rfl
  have M31 : Meth K CRd "take" f31 := ⟨a31, i31, k31⟩
  have F32 := fun_mk (st := sRTerm) l32 c32 k32
  have b32 := F32.binds (ps := ["self", "deep"]) fun _ _ _ _ _ _ us hl => match us, hl with | [_, _], _ => rfl
  have M32 : Meth K CRd "term" f32 := ⟨a32, i32, k32⟩
  have F33 := fun_mk (st := sRInner) l33 c33 k33
  have b33 := F33.binds (ps := ["self", "deep"]) fun _ _ _ _ _ _ us hl => match us, hl with | [_, _], _ => rfl
  have M33 : Meth K CRd "inner" f33 := ⟨a33, i33, k33⟩
  have gn : ∀ {x : Str}, PySem.W.nsIn K mainGlobals x = some none → mg x = none := fun e => PySem.W.mg_none_of X G e
  have gm : ∀ {x : Str} {u : Value}, PySem.W.nsIn K mainGlobals x = some (some u) → mg x = some u := fun e => PySem.W.mg_of X G e
  have XBadLook : Xc K mg "BadLook" e_BadLook := ⟨gm g_BadLook, x_BadLook, kp_BadLook, sb_BadLook, ty_BadLook⟩
  have XBadState : Xc K mg "BadState" e_BadState := ⟨gm g_BadState, x_BadState, kp_BadState, sb_BadState, ty_BadState⟩
  have XBadText : Xc K mg "BadText" e_BadText := ⟨gm g_BadText, x_BadText, kp_BadText, sb_BadText, ty_BadText⟩
  have OBadLook : Own K [e_BadDeed, e_BadLook, e_BadNumber, e_BadPath, e_BadState, e_Storm, e_BadText] e_LookError e_BadLook 1 := ⟨⟨hg_BadLook, hk_BadLook, sb_BadLook, hd_BadLook, ha_BadLook, hn, ht, hm_BadLook⟩, fun j c hj => match j, hj with
    | 0, hj => by cases hj; exact ki_BadLook_BadDeed
    | 1, hj => by cases hj; exact ki_BadLook_BadLook
    | 2, hj => by cases hj; exact ki_BadLook_BadNumber
    | 3, hj => by cases hj; exact ki_BadLook_BadPath
    | 4, hj => by cases hj; exact ki_BadLook_BadState
    | 5, hj => by cases hj; exact ki_BadLook_Storm
    | 6, hj => by cases hj; exact ki_BadLook_BadText
    | _ + 7, hj => (by cases hj), kv_BadLook, ex_BadLook⟩
  have OBadState : Own K [e_BadDeed, e_BadLook, e_BadNumber, e_BadPath, e_BadState, e_Storm, e_BadText] e_LookError e_BadState 4 := ⟨⟨hg_BadState, hk_BadState, sb_BadState, hd_BadState, ha_BadState, hn, ht, hm_BadState⟩, fun j c hj => match j, hj with
    | 0, hj => by cases hj; exact ki_BadState_BadDeed
    | 1, hj => by cases hj; exact ki_BadState_BadLook
    | 2, hj => by cases hj; exact ki_BadState_BadNumber
    | 3, hj => by cases hj; exact ki_BadState_BadPath
    | 4, hj => by cases hj; exact ki_BadState_BadState
    | 5, hj => by cases hj; exact ki_BadState_Storm
    | 6, hj => by cases hj; exact ki_BadState_BadText
    | _ + 7, hj => (by cases hj), kv_BadState, ex_BadState⟩
  have OBadText : Own K [e_BadDeed, e_BadLook, e_BadNumber, e_BadPath, e_BadState, e_Storm, e_BadText] e_LookError e_BadText 6 := ⟨⟨hg_BadText, hk_BadText, sb_BadText, hd_BadText, ha_BadText, hn, ht, hm_BadText⟩, fun j c hj => match j, hj with
    | 0, hj => by cases hj; exact ki_BadText_BadDeed
    | 1, hj => by cases hj; exact ki_BadText_BadLook
    | 2, hj => by cases hj; exact ki_BadText_BadNumber
    | 3, hj => by cases hj; exact ki_BadText_BadPath
    | 4, hj => by cases hj; exact ki_BadText_BadState
    | 5, hj => by cases hj; exact ki_BadText_Storm
    | 6, hj => by cases hj; exact ki_BadText_BadText
    | _ + 7, hj => (by cases hj), kv_BadText, ex_BadText⟩
  have T : Tx K mg := ⟨gn n_isinstance, gn n_len, gn n_all, gn n_any, gn n_abs, gn n_range, gn n_str, gn n_tuple, gn n_int, gn n_bool, gn n_dict, ⟨_, gm v_SMALL, r_SMALL⟩, ⟨_, gm v_MOST_WORD, r_MOST_WORD⟩, ⟨_, gm v_MOST_DEEP, r_MOST_DEEP⟩, ⟨_, gm v_MOST_WORTH, r_MOST_WORTH⟩⟩
  have TT : Tt K mg aR aT := ⟨⟨_, gm v_MOST_NUMBER, r_MOST_NUMBER⟩, ⟨_, gm v_MOST_WITHIN, r_MOST_WITHIN⟩, gm g_READING, ⟨_, itsR, nR, l_READING, rfl, rfl, z_READING, w_READING⟩, gm g_TWO, ⟨_, itsT, nT, l_TWO, rfl, rfl, z_TWO, w_TWO⟩⟩
  have B : Tb K mg := ⟨⟨_, gm v_FIGURES, r_FIGURES⟩, ⟨_, gm v_MOST_FIGURES, r_MOST_FIGURES⟩, gn n_sorted⟩
  have L : Rc K mg CRd := ⟨⟨pg_Reading, hdc_Reading, po_Reading, sa_Reading⟩, no_Reading_words, no_Reading_spot, gm gc_Reading⟩
  have N : Cn mg e_BadDeed e_BadLook e_BadNumber e_BadPath e_BadState e_Storm e_BadText := ⟨gm g_BadDeed, gm g_BadLook, gm g_BadNumber, gm g_BadPath, gm g_BadState, gm g_Storm, gm g_BadText, gn n_ValueError, gn n_sum⟩
  refine ⟨PySem.W.fnOf "law" "law" (defArgs sLaw) (defBody sLaw) (defScope sLaw) .none kV28 dc28 pm28 an28 (.ref c28z) ct28, [(c28z, Pt)], spLaw K Pt, fun p hp => by rw [List.mem_singleton.mp hp]; exact hP_Pt, fun p hp => by rw [List.mem_singleton.mp hp]; exact tn_Pt, fun p hp => by rw [List.mem_singleton.mp hp]; exact PySem.W.codeHd_of_K X tb_Pt, fun s u => .of_eq rfl, fun H a ns hl _ hT hS => ⟨a, ns, rfl, hS, hl, hT _ List.mem_cons_self, fun _ => rfl⟩, fun base KB GB TB => ?_⟩
  have Dw := ok_isWord (P := PySem.Challenge.rw_lookhouse_k70_whole_written.prog) (w := w) (base := base) F0 m0 b0 T
  have Dp := ok_isPath (P := PySem.Challenge.rw_lookhouse_k70_whole_written.prog) (w := w) (base := base) F1 m1 b1 T Dw
  have Dn := ok_isNumber (P := PySem.Challenge.rw_lookhouse_k70_whole_written.prog) (w := w) (base := base) F2 m2 b2 T
  have Dis := ok_isState F3 m3 b3 T Dp Dn
  have Dns := ok_needState F4 m4 b4 XBadState Dis
  have D0 := ok_needT (P := PySem.Challenge.rw_lookhouse_k70_whole_written.prog) (w := w) (base := base) F5 m5 b5 XBadLook
  have Dnt := ok_needTerm F7 m7 b7 (ok_deep F6 m6 b6 T TT D0 Dw Dp Dn 8)
  have D1 := ok_needText (P := PySem.Challenge.rw_lookhouse_k70_whole_written.prog) (w := w) (base := base) F8 m8 b8 XBadText
  have Dpt := ok_pathText (P := PySem.Challenge.rw_lookhouse_k70_whole_written.prog) (w := w) (base := base) F9 m9 b9
  have Dpi := ok_pathIn (P := PySem.Challenge.rw_lookhouse_k70_whole_written.prog) (w := w) (base := base) F10 m10 b10 T
  have Dni := ok_numberIn F11 m11 b11 T B D1
  have Dst := ok_stateText F12 m12 b12 T B Dns Dpt
  have Dsi := ok_stateIn F13 m13 b13 T D1 Dpi Dni Dis Dst
  have Dto := ok_textOf F14 m14 b14 T TT Dpt 8 (Nat.le_refl _)
  have Dtt := ok_termText F15 m15 b15 Dnt Dto
  have Dnx := ok_next F30 M30 b30 T L D1
  have Dtk := ok_take F31 M31 b31 L D1 Dnx
  have Dtm := ok_terms F32 M32 b32 F33 M33 b33 T TT L D1 Dpi Dni Dnx Dtk 8
  have FI := ok_rinit (P := PySem.Challenge.rw_lookhouse_k70_whole_written.prog) (w := w) (base := base) F29 L
  have Dti := ok_termIn F16 m16 b16 T L ⟨XBadText, XBadLook, exm_BadLook⟩ ⟨mk_Reading, a29, i29, kc_Reading⟩ FI b29 D1 Dtm Dnt Dto
  have Dc := ok_cell (P := PySem.Challenge.rw_lookhouse_k70_whole_written.prog) (w := w) (base := base) F17 m17 b17 T
  have Dd := ok_drawn (P := PySem.Challenge.rw_lookhouse_k70_whole_written.prog) (w := w) (base := base) F18 m18 b18
  have Dlp := ok_lpath F21 m21 b21 T Dd
  have Dls := ok_lstate F22 m22 b22 T Dd Dlp
  have Dlt := ok_LTermU F24 m24 b24 T Dd Dlp
  have Dlpt := ok_LPT (P := PySem.Challenge.rw_lookhouse_k70_whole_written.prog) (w := w) (base := base) F25 m25 b25
  have Dlst := ok_LST F26 m26 b26 T B Dlpt
  have Dltt := ok_LTT F27 m27 b27 T Dlpt 8 (Nat.le_refl _)
  have Dlis := ok_LIS (P := PySem.Challenge.rw_lookhouse_k70_whole_written.prog) (w := w) (base := base) F23 m23 b23 T
  have TD : Tld PySem.Challenge.rw_lookhouse_k70_whole_written.prog w K mg base [e_BadDeed, e_BadLook, e_BadNumber, e_BadPath, e_BadState, e_Storm, e_BadText] e_LookError f20 f19 _ _ := ⟨F20, m20, b20, ok_word F19 T N, m19, k19, b19, gm g_LookError⟩
  exact ok_law l28 c28 T (gn n_max) (gn n_min) TD OBadText Dc Dd Dls Dlt Dlst Dltt Dlis Dst Dtt Dsi Dti (TB (c28z, Pt) List.mem_cons_self)
end Lk
open PySem PySem.W PyProof.Rows
set_option maxRecDepth 100000 in
set_option maxHeartbeats 0 in
theorem PySem.Challenge.cw_lookhouse_k70_whole_written_holds : PySem.Challenge.rw_lookhouse_k70_whole_written.Holds := by
  w_on; o_law; k_head; (case hw => w_witness2)
  k_fill
  refine LamX.walk_ofTs (l := PySem.Challenge.rw_lookhouse_k70_whole_written) (n := 63) (k := 24) (x := "script") (CX := fun _ => L2.CX0) (by decide +kernel) (by decide) rfl ⟨rfl, by decide, by decide⟩ (fun w h Y => PySem.W.km_in_of Y) ?F (fun _ _ _ _ _ z => z)
  case F =>
    intro w mg fa h Y KX G hmg
    refine' Lk.all_mk KX G hmg (PySem.W.km_tabs_of Y _ List.mem_cons_self) ?gc_Reading ?a0 ?l0 ?c0 ?k0 ?a1 ?l1 ?c1 ?k1 ?a2 ?l2 ?c2 ?k2 ?a3 ?l3 ?c3 ?k3 ?a4 ?l4 ?c4 ?k4 ?a5 ?l5 ?c5 ?k5 ?a6 ?l6 ?c6 ?k6 ?a7 ?l7 ?c7 ?k7 ?a8 ?l8 ?c8 ?k8 ?a9 ?l9 ?c9 ?k9 ?a10 ?l10 ?c10 ?k10 ?a11 ?l11 ?c11 ?k11 ?a12 ?l12 ?c12 ?k12 ?a13 ?l13 ?c13 ?k13 ?a14 ?l14 ?c14 ?k14 ?a15 ?l15 ?c15 ?k15 ?a16 ?l16 ?c16 ?k16 ?a17 ?l17 ?c17 ?k17 ?a18 ?l18 ?c18 ?k18 ?a19 ?l19 ?c19 ?k19 ?a20 ?l20 ?c20 ?k20 ?a21 ?l21 ?c21 ?k21 ?a22 ?l22 ?c22 ?k22 ?a23 ?l23 ?c23 ?k23 ?a24 ?l24 ?c24 ?k24 ?a25 ?l25 ?c25 ?k25 ?a26 ?l26 ?c26 ?k26 ?a27 ?l27 ?c27 ?k27 ?a28 ?l28 ?c28 ?k28 ?a29 ?i29 ?l29 ?c29 ?k29 ?a30 ?i30 ?l30 ?c30 ?k30 ?a31 ?i31 ?l31 ?c31 ?k31 ?a32 ?i32 ?l32 ?c32 ?k32 ?a33 ?i33 ?l33 ?c33 ?k33 ?n_isinstance ?n_len ?n_all ?n_any ?n_abs ?n_range ?n_str ?n_tuple ?n_int ?n_bool ?n_dict ?n_max ?n_min ?n_sum ?n_ValueError ?n_sorted ?v_SMALL ?r_SMALL ?v_MOST_WORD ?r_MOST_WORD ?v_MOST_DEEP ?r_MOST_DEEP ?v_MOST_WORTH ?r_MOST_WORTH ?v_MOST_NUMBER ?r_MOST_NUMBER ?v_MOST_WITHIN ?r_MOST_WITHIN ?v_FIGURES ?r_FIGURES ?v_MOST_FIGURES ?r_MOST_FIGURES ?pg_Reading ?hdc_Reading ?po_Reading ?sa_Reading ?mk_Reading ?kc_Reading ?no_Reading_words ?no_Reading_spot ?g_BadDeed ?g_BadLook ?g_BadNumber ?g_BadPath ?g_BadState ?g_Storm ?g_BadText ?g_LookError ?x_BadLook ?kp_BadLook ?sb_BadLook ?ty_BadLook ?hg_BadLook ?hk_BadLook ?hd_BadLook ?ha_BadLook ?hm_BadLook ?ki_BadLook_BadDeed ?ki_BadLook_BadLook ?ki_BadLook_BadNumber ?ki_BadLook_BadPath ?ki_BadLook_BadState ?ki_BadLook_Storm ?ki_BadLook_BadText ?kv_BadLook ?ex_BadLook ?x_BadState ?kp_BadState ?sb_BadState ?ty_BadState ?hg_BadState ?hk_BadState ?hd_BadState ?ha_BadState ?hm_BadState ?ki_BadState_BadDeed ?ki_BadState_BadLook ?ki_BadState_BadNumber ?ki_BadState_BadPath ?ki_BadState_BadState ?ki_BadState_Storm ?ki_BadState_BadText ?kv_BadState ?ex_BadState ?x_BadText ?kp_BadText ?sb_BadText ?ty_BadText ?hg_BadText ?hk_BadText ?hd_BadText ?ha_BadText ?hm_BadText ?ki_BadText_BadDeed ?ki_BadText_BadLook ?ki_BadText_BadNumber ?ki_BadText_BadPath ?ki_BadText_BadState ?ki_BadText_Storm ?ki_BadText_BadText ?kv_BadText ?ex_BadText ?hn ?ht ?g_READING ?l_READING ?z_READING ?w_READING ?g_TWO ?l_TWO ?z_TWO ?w_TWO ?exm_BadLook ?tb_Pt ?tn_Pt
    (case gc_Reading => k_is)
    (case a0 => k_is)
    (case l0 => k_is)
    (case c0 => k_is)
    (case k0 => k_is)
    (case a1 => k_is)
    (case l1 => k_is)
    (case c1 => k_is)
    (case k1 => k_is)
    (case a2 => k_is)
    (case l2 => k_is)
    (case c2 => k_is)
    (case k2 => k_is)
    (case a3 => k_is)
    (case l3 => k_is)
    (case c3 => k_is)
    (case k3 => k_is)
    (case a4 => k_is)
    (case l4 => k_is)
    (case c4 => k_is)
    (case k4 => k_is)
    (case a5 => k_is)
    (case l5 => k_is)
    (case c5 => k_is)
    (case k5 => k_is)
    (case a6 => k_is)
    (case l6 => k_is)
    (case c6 => k_is)
    (case k6 => k_is)
    (case a7 => k_is)
    (case l7 => k_is)
    (case c7 => k_is)
    (case k7 => k_is)
    (case a8 => k_is)
    (case l8 => k_is)
    (case c8 => k_is)
    (case k8 => k_is)
    (case a9 => k_is)
    (case l9 => k_is)
    (case c9 => k_is)
    (case k9 => k_is)
    (case a10 => k_is)
    (case l10 => k_is)
    (case c10 => k_is)
    (case k10 => k_is)
    (case a11 => k_is)
    (case l11 => k_is)
    (case c11 => k_is)
    (case k11 => k_is)
    (case a12 => k_is)
    (case l12 => k_is)
    (case c12 => k_is)
    (case k12 => k_is)
    (case a13 => k_is)
    (case l13 => k_is)
    (case c13 => k_is)
    (case k13 => k_is)
    (case a14 => k_is)
    (case l14 => k_is)
    (case c14 => k_is)
    (case k14 => k_is)
    (case a15 => k_is)
    (case l15 => k_is)
    (case c15 => k_is)
    (case k15 => k_is)
    (case a16 => k_is)
    (case l16 => k_is)
    (case c16 => k_is)
    (case k16 => k_is)
    (case a17 => k_is)
    (case l17 => k_is)
    (case c17 => k_is)
    (case k17 => k_is)
    (case a18 => k_is)
    (case l18 => k_is)
    (case c18 => k_is)
    (case k18 => k_is)
    (case a19 => k_is)
    (case l19 => k_is)
    (case c19 => k_is)
    (case k19 => k_is)
    (case a20 => k_is)
    (case l20 => k_is)
    (case c20 => k_is)
    (case k20 => k_is)
    (case a21 => k_is)
    (case l21 => k_is)
    (case c21 => k_is)
    (case k21 => k_is)
    (case a22 => k_is)
    (case l22 => k_is)
    (case c22 => k_is)
    (case k22 => k_is)
    (case a23 => k_is)
    (case l23 => k_is)
    (case c23 => k_is)
    (case k23 => k_is)
    (case a24 => k_is)
    (case l24 => k_is)
    (case c24 => k_is)
    (case k24 => k_is)
    (case a25 => k_is)
    (case l25 => k_is)
    (case c25 => k_is)
    (case k25 => k_is)
    (case a26 => k_is)
    (case l26 => k_is)
    (case c26 => k_is)
    (case k26 => k_is)
    (case a27 => k_is)
    (case l27 => k_is)
    (case c27 => k_is)
    (case k27 => k_is)
    (case a28 => k_is)
    (case l28 => k_is)
    (case c28 => k_is)
    (case k28 => k_is)
    (case a29 => k_is)
    (case i29 => k_is)
    (case l29 => k_is)
    (case c29 => k_is)
    (case k29 => k_is)
    (case a30 => k_is)
    (case i30 => k_is)
    (case l30 => k_is)
    (case c30 => k_is)
    (case k30 => k_is)
    (case a31 => k_is)
    (case i31 => k_is)
    (case l31 => k_is)
    (case c31 => k_is)
    (case k31 => k_is)
    (case a32 => k_is)
    (case i32 => k_is)
    (case l32 => k_is)
    (case c32 => k_is)
    (case k32 => k_is)
    (case a33 => k_is)
    (case i33 => k_is)
    (case l33 => k_is)
    (case c33 => k_is)
    (case k33 => k_is)
    (case n_isinstance => k_is)
    (case n_len => k_is)
    (case n_all => k_is)
    (case n_any => k_is)
    (case n_abs => k_is)
    (case n_range => k_is)
    (case n_str => k_is)
    (case n_tuple => k_is)
    (case n_int => k_is)
    (case n_bool => k_is)
    (case n_dict => k_is)
    (case n_max => k_is)
    (case n_min => k_is)
    (case n_sum => k_is)
    (case n_ValueError => k_is)
    (case n_sorted => k_is)
    (case v_SMALL => k_is)
    (case r_SMALL => exact ⟨_, rfl⟩)
    (case v_MOST_WORD => k_is)
    (case r_MOST_WORD => exact ⟨_, rfl⟩)
    (case v_MOST_DEEP => k_is)
    (case r_MOST_DEEP => exact ⟨_, rfl⟩)
    (case v_MOST_WORTH => k_is)
    (case r_MOST_WORTH => exact ⟨_, rfl⟩)
    (case v_MOST_NUMBER => k_is)
    (case r_MOST_NUMBER => exact ⟨_, rfl⟩)
    (case v_MOST_WITHIN => k_is)
    (case r_MOST_WITHIN => exact ⟨_, rfl⟩)
    (case v_FIGURES => k_is)
    (case r_FIGURES => exact ⟨_, rfl⟩)
    (case v_MOST_FIGURES => k_is)
    (case r_MOST_FIGURES => exact ⟨_, rfl⟩)
    (case pg_Reading => k_is)
    (case hdc_Reading => k_is)
    (case po_Reading => k_is)
    (case sa_Reading => k_is)
    (case mk_Reading => k_is)
    (case kc_Reading => k_is)
    (case no_Reading_words => k_is)
    (case no_Reading_spot => k_is)
    (case g_BadDeed => k_is)
    (case g_BadLook => k_is)
    (case g_BadNumber => k_is)
    (case g_BadPath => k_is)
    (case g_BadState => k_is)
    (case g_Storm => k_is)
    (case g_BadText => k_is)
    (case g_LookError => k_is)
    (case x_BadLook => k_exc)
    (case kp_BadLook => k_is)
    (case sb_BadLook => k_is)
    (case ty_BadLook => k_is)
    (case hg_BadLook => k_is)
    (case hk_BadLook => k_is)
    (case hd_BadLook => k_is)
    (case ha_BadLook => k_is)
    (case hm_BadLook => k_is)
    (case ki_BadLook_BadDeed => kernel_rfl)
    (case ki_BadLook_BadLook => kernel_rfl)
    (case ki_BadLook_BadNumber => kernel_rfl)
    (case ki_BadLook_BadPath => kernel_rfl)
    (case ki_BadLook_BadState => kernel_rfl)
    (case ki_BadLook_Storm => kernel_rfl)
    (case ki_BadLook_BadText => kernel_rfl)
    (case kv_BadLook => kernel_rfl)
    (case ex_BadLook => kernel_rfl)
    (case x_BadState => k_exc)
    (case kp_BadState => k_is)
    (case sb_BadState => k_is)
    (case ty_BadState => k_is)
    (case hg_BadState => k_is)
    (case hk_BadState => k_is)
    (case hd_BadState => k_is)
    (case ha_BadState => k_is)
    (case hm_BadState => k_is)
    (case ki_BadState_BadDeed => kernel_rfl)
    (case ki_BadState_BadLook => kernel_rfl)
    (case ki_BadState_BadNumber => kernel_rfl)
    (case ki_BadState_BadPath => kernel_rfl)
    (case ki_BadState_BadState => kernel_rfl)
    (case ki_BadState_Storm => kernel_rfl)
    (case ki_BadState_BadText => kernel_rfl)
    (case kv_BadState => kernel_rfl)
    (case ex_BadState => kernel_rfl)
    (case x_BadText => k_exc)
    (case kp_BadText => k_is)
    (case sb_BadText => k_is)
    (case ty_BadText => k_is)
    (case hg_BadText => k_is)
    (case hk_BadText => k_is)
    (case hd_BadText => k_is)
    (case ha_BadText => k_is)
    (case hm_BadText => k_is)
    (case ki_BadText_BadDeed => kernel_rfl)
    (case ki_BadText_BadLook => kernel_rfl)
    (case ki_BadText_BadNumber => kernel_rfl)
    (case ki_BadText_BadPath => kernel_rfl)
    (case ki_BadText_BadState => kernel_rfl)
    (case ki_BadText_Storm => kernel_rfl)
    (case ki_BadText_BadText => kernel_rfl)
    (case kv_BadText => kernel_rfl)
    (case ex_BadText => kernel_rfl)
    (case hn => k_is)
    (case ht => k_is)
    (case g_READING => k_is)
    (case l_READING => k_is)
    (case z_READING => decide)
    (case w_READING => exact .cons ⟨_, rfl⟩ (.cons ⟨_, rfl⟩ (.cons ⟨_, rfl⟩ (.cons ⟨_, rfl⟩ .nil))))
    (case g_TWO => k_is)
    (case l_TWO => k_is)
    (case z_TWO => decide)
    (case w_TWO => exact .cons ⟨_, rfl⟩ (.cons ⟨_, rfl⟩ (.cons ⟨_, rfl⟩ (.cons ⟨_, rfl⟩ (.cons ⟨_, rfl⟩ .nil)))))
    (case exm_BadLook => kernel_rfl)
    (case tb_Pt => kernel_rfl)
    (case tn_Pt => kernel_rfl)
